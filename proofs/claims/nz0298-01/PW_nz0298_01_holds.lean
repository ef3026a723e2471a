import PyProof.Rows.All
import Wide.All
import OpenK.AllK
import Wide.FinOn
import PySem.Challenge.RW_nz0298_01
open PySem PySem.W PyProof.Rows
set_option Elab.async false
set_option linter.all false
set_option maxRecDepth 100000
namespace Nz
/-- the text's statements, by their places -/
noncomputable def nth : List Stmt → Nat → Stmt
  | [], _ => .Pass default
  | s :: _, 0 => s
  | _ :: l, i + 1 => nth l i
noncomputable def stm (i : Nat) : Stmt := nth PySem.Challenge.pw_nz0298_01.main.body i
/-- a def's object, out of its statement -/
noncomputable def fnO (s : Stmt) (md : Str) (mt : Tok) (c : Addr) : Obj := match s with
  | .FunctionDef name args body _ _ _ scope _ _ _ => { cls := .type "function", data := .func { name := name, qualname := name, params := args, body := .stmts body, scope := scope, globals := 3, closure := [], defaults := .none, kwdefaults := .none, pyModule := .str md mt, code := .ref c } }
  | _ => { cls := .none }
/-- its code object -/
noncomputable def cdO (name : Str) (t : Tok) (line argc fl : Int) (a b c d e f g h k : Value) : Obj := { cls := .type "code", data := .fields #[.str name t, .str name (t + 1), .str (Str.ofString "/claim/cut.py") (t + 2), .int line 0, .int argc 0, .int 0 0, .int 0 0, .int fl 0, a, .bool true, b, c, d, e, f, g, h, .int line 0, k] }
noncomputable def ent (P : Params) (x : Str) (t : Tok) (v : Value) : DictEntry := { hash := PyData.keyHash P x, key := .str x t, val := v }
noncomputable def sigA : Array UInt8 := #[65, 66, 67, 68, 69, 70, 71, 72, 73, 74, 75, 76, 77, 78, 79, 80, 81, 82, 83, 84, 85, 86, 87, 88, 89, 90, 97, 98, 99, 100, 101, 102, 103, 104, 105, 106, 107, 108, 109, 110, 111, 112, 113, 114, 115, 116, 117, 118, 119, 120, 121, 122, 48, 49, 50, 51, 52, 53, 54, 55, 56, 57, 43, 47]
/-- the written part of the heap behind the top -/
noncomputable def fragK (P : Params) : Frag :=
  (nat_lit 3, { cls := .type "dict", data := .dict #[ent P (Str.ofString "__name__") 165 (.str (Str.ofString "law_nz0298_01") 524),
    ent P (Str.ofString "__doc__") 166 (.none),
    ent P (Str.ofString "__package__") 167 (.none),
    ent P (Str.ofString "__loader__") 168 (.builtin "__main__.__loader__#opaque"),
    ent P (Str.ofString "__spec__") 169 (.none),
    ent P (Str.ofString "__annotations__") 170 (.ref 6),
    ent P (Str.ofString "__builtins__") 171 (.ref 4),
    ent P (Str.ofString "__file__") 173 (.str (Str.ofString "/claim/cut.py") 172),
    ent P (Str.ofString "__cached__") 174 (.none),
    ent P (Str.ofString "_wall") 193 (.ref 21),
    ent P (Str.ofString "SIGNS") 197 (.bytes sigA 196),
    ent P (Str.ofString "PAD") 199 (.int 61 198),
    ent P (Str.ofString "worth_table") 205 (.ref 26),
    ent P (Str.ofString "group_octets") 211 (.ref 31),
    ent P (Str.ofString "decoded") 223 (.ref 38),
    ent P (Str.ofString "PostError") 265 (.ref 63),
    ent P (Str.ofString "MimeFault") 281 (.ref 76),
    ent P (Str.ofString "lower_code") 290 (.ref 85),
    ent P (Str.ofString "lower_text") 296 (.ref 90),
    ent P (Str.ofString "ASCII") 300 (.str (Str.ofString "us-ascii") 299),
    ent P (Str.ofString "LATIN") 302 (.str (Str.ofString "iso-8859-1") 301),
    ent P (Str.ofString "UTF8") 304 (.str (Str.ofString "utf-8") 303),
    ent P (Str.ofString "CHARSETS") 305 (.ref 91),
    ent P (Str.ofString "UNKNOWN_SIGN") 308 (.str (Str.ofString "\ufffd") 307),
    ent P (Str.ofString "charset_names") 316 (.ref 98),
    ent P (Str.ofString "charset_name") 323 (.ref 105),
    ent P (Str.ofString "need_charset") 330 (.ref 112),
    ent P (Str.ofString "utf8_length") 336 (.ref 117),
    ent P (Str.ofString "utf8_octets") 347 (.ref 124),
    ent P (Str.ofString "follower_span") 354 (.ref 131),
    ent P (Str.ofString "utf8_sign") 368 (.ref 138),
    ent P (Str.ofString "sign_at") 377 (.ref 145),
    ent P (Str.ofString "text_in") 389 (.ref 152),
    ent P (Str.ofString "has_sign") 397 (.ref 159),
    ent P (Str.ofString "octets_in") 408 (.ref 166),
    ent P (Str.ofString "EQUALS") 412 (.int 61 411),
    ent P (Str.ofString "BLANK") 414 (.int 32 413),
    ent P (Str.ofString "UNDERLINE") 416 (.int 95 415),
    ent P (Str.ofString "hex_worth") 423 (.ref 173),
    ent P (Str.ofString "quoted_at") 433 (.ref 180),
    ent P (Str.ofString "unquoted") 443 (.ref 187),
    ent P (Str.ofString "word_q_decoded") 449 (.ref 192),
    ent P (Str.ofString "WHITE") 456 (.ref 193),
    ent P (Str.ofString "OPENING") 458 (.int 40 457),
    ent P (Str.ofString "CLOSING") 460 (.int 41 459),
    ent P (Str.ofString "WAYS") 463 (.ref 194),
    ent P (Str.ofString "is_word_sign") 470 (.ref 201),
    ent P (Str.ofString "part_end") 479 (.ref 208),
    ent P (Str.ofString "word_parts") 485 (.ref 213),
    ent P (Str.ofString "is_apart") 494 (.ref 220),
    ent P (Str.ofString "plain_text") 500 (.ref 225),
    ent P (Str.ofString "word_at") 512 (.ref 232),
    ent P (Str.ofString "pieces_of") 523 (.ref 239),
    ent P (Str.ofString "_law_pen") 531 (.ref 244),
    ent P (Str.ofString "_law_draw") 544 (.ref 251),
    ent P (Str.ofString "_law_pick") 552 (.ref 258),
    ent P (Str.ofString "_law_bits") 558 (.ref 263),
    ent P (Str.ofString "_law_marked") 568 (.ref 270),
    ent P (Str.ofString "_law_word") 574 (.ref 275),
    ent P (Str.ofString "law") 594 (.ref 282)] 60 }) ::
  (nat_lit 25, cdO (Str.ofString "worth_table") 200 7 1 3 (.ref 22) (.int 181 0) (.ref 23) (.none) (.none) (.none) (.ref 24) (.int 203 0) (.str (Str.ofString "/claim/cut.py") 204)) ::
  (nat_lit 26, fnO (stm 4) (Str.ofString "postkeep.base64") 194 25) ::
  (nat_lit 30, cdO (Str.ofString "group_octets") 206 9 1 3 (.ref 27) (.int 181 0) (.ref 28) (.none) (.none) (.none) (.ref 29) (.int 209 0) (.str (Str.ofString "/claim/cut.py") 210)) ::
  (nat_lit 31, fnO (stm 5) (Str.ofString "postkeep.base64") 194 30) ::
  (nat_lit 37, cdO (Str.ofString "decoded") 212 17 1 3 (.ref 32) (.int 181 0) (.ref 33) (.none) (.ref 34) (.ref 35) (.ref 36) (.int 221 0) (.str (Str.ofString "/claim/cut.py") 222)) ::
  (nat_lit 38, fnO (stm 6) (Str.ofString "postkeep.base64") 194 37) ::
  (nat_lit 84, cdO (Str.ofString "lower_code") 284 43 1 3 (.ref 79) (.int 181 0) (.ref 80) (.none) (.ref 81) (.ref 82) (.ref 83) (.int 288 0) (.str (Str.ofString "/claim/cut.py") 289)) ::
  (nat_lit 85, fnO (stm 11) (Str.ofString "postkeep.octets") 282 84) ::
  (nat_lit 89, cdO (Str.ofString "lower_text") 291 45 1 3 (.ref 86) (.int 181 0) (.ref 87) (.none) (.none) (.none) (.ref 88) (.int 294 0) (.str (Str.ofString "/claim/cut.py") 295)) ::
  (nat_lit 90, fnO (stm 12) (Str.ofString "postkeep.octets") 282 89) ::
  (nat_lit 91, { cls := .type "tuple", data := .seq #[.str (Str.ofString "us-ascii") 299, .str (Str.ofString "iso-8859-1") 301, .str (Str.ofString "utf-8") 303] 0 }) ::
  (nat_lit 97, cdO (Str.ofString "charset_names") 309 53 0 3 (.ref 92) (.int 181 0) (.ref 93) (.none) (.ref 94) (.ref 95) (.ref 96) (.int 314 0) (.str (Str.ofString "/claim/cut.py") 315)) ::
  (nat_lit 98, fnO (stm 19) (Str.ofString "postkeep.charsets") 297 97) ::
  (nat_lit 104, cdO (Str.ofString "charset_name") 317 62 1 3 (.ref 99) (.int 181 0) (.ref 100) (.none) (.ref 101) (.ref 102) (.ref 103) (.int 321 0) (.str (Str.ofString "/claim/cut.py") 322)) ::
  (nat_lit 105, fnO (stm 20) (Str.ofString "postkeep.charsets") 297 104) ::
  (nat_lit 111, cdO (Str.ofString "need_charset") 324 64 1 3 (.ref 106) (.int 181 0) (.ref 107) (.none) (.ref 108) (.ref 109) (.ref 110) (.int 328 0) (.str (Str.ofString "/claim/cut.py") 329)) ::
  (nat_lit 112, fnO (stm 21) (Str.ofString "postkeep.charsets") 297 111) ::
  (nat_lit 116, cdO (Str.ofString "utf8_length") 331 67 1 3 (.ref 113) (.int 181 0) (.ref 114) (.none) (.none) (.none) (.ref 115) (.int 334 0) (.str (Str.ofString "/claim/cut.py") 335)) ::
  (nat_lit 117, fnO (stm 22) (Str.ofString "postkeep.charsets") 297 116) ::
  (nat_lit 123, cdO (Str.ofString "utf8_octets") 337 71 1 3 (.ref 118) (.int 181 0) (.ref 119) (.none) (.ref 120) (.ref 121) (.ref 122) (.int 345 0) (.str (Str.ofString "/claim/cut.py") 346)) ::
  (nat_lit 124, fnO (stm 23) (Str.ofString "postkeep.charsets") 297 123) ::
  (nat_lit 130, cdO (Str.ofString "follower_span") 348 81 1 3 (.ref 125) (.int 181 0) (.ref 126) (.none) (.ref 127) (.ref 128) (.ref 129) (.int 352 0) (.str (Str.ofString "/claim/cut.py") 353)) ::
  (nat_lit 131, fnO (stm 24) (Str.ofString "postkeep.charsets") 297 130) ::
  (nat_lit 137, cdO (Str.ofString "utf8_sign") 355 89 2 3 (.ref 132) (.int 181 0) (.ref 133) (.none) (.ref 134) (.ref 135) (.ref 136) (.int 366 0) (.str (Str.ofString "/claim/cut.py") 367)) ::
  (nat_lit 138, fnO (stm 25) (Str.ofString "postkeep.charsets") 297 137) ::
  (nat_lit 144, cdO (Str.ofString "sign_at") 369 103 3 3 (.ref 139) (.int 181 0) (.ref 140) (.none) (.ref 141) (.ref 142) (.ref 143) (.int 375 0) (.str (Str.ofString "/claim/cut.py") 376)) ::
  (nat_lit 145, fnO (stm 26) (Str.ofString "postkeep.charsets") 297 144) ::
  (nat_lit 151, cdO (Str.ofString "text_in") 378 109 2 3 (.ref 146) (.int 181 0) (.ref 147) (.none) (.ref 148) (.ref 149) (.ref 150) (.int 387 0) (.str (Str.ofString "/claim/cut.py") 388)) ::
  (nat_lit 152, fnO (stm 27) (Str.ofString "postkeep.charsets") 297 151) ::
  (nat_lit 158, cdO (Str.ofString "has_sign") 390 118 2 3 (.ref 153) (.int 181 0) (.ref 154) (.none) (.ref 155) (.ref 156) (.ref 157) (.int 395 0) (.str (Str.ofString "/claim/cut.py") 396)) ::
  (nat_lit 159, fnO (stm 28) (Str.ofString "postkeep.charsets") 297 158) ::
  (nat_lit 165, cdO (Str.ofString "octets_in") 398 122 2 3 (.ref 160) (.int 181 0) (.ref 161) (.none) (.ref 162) (.ref 163) (.ref 164) (.int 406 0) (.str (Str.ofString "/claim/cut.py") 407)) ::
  (nat_lit 166, fnO (stm 29) (Str.ofString "postkeep.charsets") 297 165) ::
  (nat_lit 172, cdO (Str.ofString "hex_worth") 417 138 1 3 (.ref 167) (.int 181 0) (.ref 168) (.none) (.ref 169) (.ref 170) (.ref 171) (.int 421 0) (.str (Str.ofString "/claim/cut.py") 422)) ::
  (nat_lit 173, fnO (stm 34) (Str.ofString "postkeep.quoted") 409 172) ::
  (nat_lit 179, cdO (Str.ofString "quoted_at") 424 146 2 3 (.ref 174) (.int 181 0) (.ref 175) (.none) (.ref 176) (.ref 177) (.ref 178) (.int 431 0) (.str (Str.ofString "/claim/cut.py") 432)) ::
  (nat_lit 180, fnO (stm 35) (Str.ofString "postkeep.quoted") 409 179) ::
  (nat_lit 186, cdO (Str.ofString "unquoted") 434 152 1 3 (.ref 181) (.int 181 0) (.ref 182) (.none) (.ref 183) (.ref 184) (.ref 185) (.int 441 0) (.str (Str.ofString "/claim/cut.py") 442)) ::
  (nat_lit 187, fnO (stm 36) (Str.ofString "postkeep.quoted") 409 186) ::
  (nat_lit 191, cdO (Str.ofString "word_q_decoded") 444 164 1 3 (.ref 188) (.int 181 0) (.ref 189) (.none) (.none) (.none) (.ref 190) (.int 447 0) (.str (Str.ofString "/claim/cut.py") 448)) ::
  (nat_lit 192, fnO (stm 37) (Str.ofString "postkeep.quoted") 409 191) ::
  (nat_lit 193, { cls := .type "tuple", data := .seq #[.int 9 452, .int 10 453, .int 13 454, .int 32 455] 0 }) ::
  (nat_lit 194, { cls := .type "tuple", data := .seq #[.str (Str.ofString "Q") 461, .str (Str.ofString "B") 462] 0 }) ::
  (nat_lit 200, cdO (Str.ofString "is_word_sign") 464 171 1 3 (.ref 195) (.int 181 0) (.ref 196) (.none) (.ref 197) (.ref 198) (.ref 199) (.int 468 0) (.str (Str.ofString "/claim/cut.py") 469)) ::
  (nat_lit 201, fnO (stm 43) (Str.ofString "postkeep.words") 450 200) ::
  (nat_lit 207, cdO (Str.ofString "part_end") 471 173 2 3 (.ref 202) (.int 181 0) (.ref 203) (.none) (.ref 204) (.ref 205) (.ref 206) (.int 477 0) (.str (Str.ofString "/claim/cut.py") 478)) ::
  (nat_lit 208, fnO (stm 44) (Str.ofString "postkeep.words") 450 207) ::
  (nat_lit 212, cdO (Str.ofString "word_parts") 480 178 2 3 (.ref 209) (.int 181 0) (.ref 210) (.none) (.none) (.none) (.ref 211) (.int 483 0) (.str (Str.ofString "/claim/cut.py") 484)) ::
  (nat_lit 213, fnO (stm 45) (Str.ofString "postkeep.words") 450 212) ::
  (nat_lit 219, cdO (Str.ofString "is_apart") 486 191 3 3 (.ref 214) (.int 181 0) (.ref 215) (.none) (.ref 216) (.ref 217) (.ref 218) (.int 492 0) (.str (Str.ofString "/claim/cut.py") 493)) ::
  (nat_lit 220, fnO (stm 46) (Str.ofString "postkeep.words") 450 219) ::
  (nat_lit 224, cdO (Str.ofString "plain_text") 495 195 1 3 (.ref 221) (.int 181 0) (.ref 222) (.none) (.none) (.none) (.ref 223) (.int 498 0) (.str (Str.ofString "/claim/cut.py") 499)) ::
  (nat_lit 225, fnO (stm 47) (Str.ofString "postkeep.words") 450 224) ::
  (nat_lit 231, cdO (Str.ofString "word_at") 501 197 2 3 (.ref 226) (.int 181 0) (.ref 227) (.none) (.ref 228) (.ref 229) (.ref 230) (.int 510 0) (.str (Str.ofString "/claim/cut.py") 511)) ::
  (nat_lit 232, fnO (stm 48) (Str.ofString "postkeep.words") 450 231) ::
  (nat_lit 238, cdO (Str.ofString "pieces_of") 513 207 1 3 (.ref 233) (.int 181 0) (.ref 234) (.none) (.ref 235) (.ref 236) (.ref 237) (.int 521 0) (.str (Str.ofString "/claim/cut.py") 522)) ::
  (nat_lit 239, fnO (stm 49) (Str.ofString "postkeep.words") 450 238) ::
  (nat_lit 243, cdO (Str.ofString "_law_pen") 526 222 1 3 (.ref 240) (.int 181 0) (.ref 241) (.none) (.none) (.none) (.ref 242) (.int 529 0) (.str (Str.ofString "/claim/cut.py") 530)) ::
  (nat_lit 244, fnO (stm 51) (Str.ofString "law_nz0298_01") 524 243) ::
  (nat_lit 250, cdO (Str.ofString "_law_draw") 532 224 2 3 (.ref 245) (.int 181 0) (.ref 246) (.none) (.ref 247) (.ref 248) (.ref 249) (.int 542 0) (.str (Str.ofString "/claim/cut.py") 543)) ::
  (nat_lit 251, fnO (stm 52) (Str.ofString "law_nz0298_01") 524 250) ::
  (nat_lit 257, cdO (Str.ofString "_law_pick") 545 241 2 3 (.ref 252) (.int 181 0) (.ref 253) (.none) (.ref 254) (.ref 255) (.ref 256) (.int 550 0) (.str (Str.ofString "/claim/cut.py") 551)) ::
  (nat_lit 258, fnO (stm 53) (Str.ofString "law_nz0298_01") 524 257) ::
  (nat_lit 262, cdO (Str.ofString "_law_bits") 553 243 1 3 (.ref 259) (.int 181 0) (.ref 260) (.none) (.none) (.none) (.ref 261) (.int 556 0) (.str (Str.ofString "/claim/cut.py") 557)) ::
  (nat_lit 263, fnO (stm 54) (Str.ofString "law_nz0298_01") 524 262) ::
  (nat_lit 269, cdO (Str.ofString "_law_marked") 559 250 1 3 (.ref 264) (.int 181 0) (.ref 265) (.none) (.ref 266) (.ref 267) (.ref 268) (.int 566 0) (.str (Str.ofString "/claim/cut.py") 567)) ::
  (nat_lit 270, fnO (stm 55) (Str.ofString "law_nz0298_01") 524 269) ::
  (nat_lit 274, cdO (Str.ofString "_law_word") 569 261 1 3 (.ref 271) (.int 181 0) (.ref 272) (.none) (.none) (.none) (.ref 273) (.int 572 0) (.str (Str.ofString "/claim/cut.py") 573)) ::
  (nat_lit 275, fnO (stm 56) (Str.ofString "law_nz0298_01") 524 274) ::
  (nat_lit 281, cdO (Str.ofString "law") 575 271 1 3 (.ref 276) (.int 181 0) (.ref 277) (.none) (.ref 278) (.ref 279) (.ref 280) (.int 592 0) (.str (Str.ofString "/claim/cut.py") 593)) ::
  (nat_lit 282, fnO (stm 57) (Str.ofString "law_nz0298_01") 524 281) :: []
noncomputable def viewQ : Program := view PySem.Challenge.pw_nz0298_01 [0, 2, 3, 4, 5, 6, 8, 9, 11, 12, 14, 15, 16, 17, 18, 19, 20, 21, 22, 23, 24, 25, 26, 27, 28, 29, 31, 32, 33, 34, 35, 36, 37, 39, 40, 41, 42, 43, 44, 45, 46, 47, 48, 49, 51, 52, 53, 54, 55, 56, 57]
noncomputable def looseNames : List Str := [Str.ofString "PostError", Str.ofString "CHARSETS", Str.ofString "UNKNOWN_SIGN"]
theorem said : OpenLaw.wellSaid PySem.Challenge.rw_nz0298_01 = true := by kernel_rfl
noncomputable def addrs : List Addr := [3, 25, 26, 30, 31, 37, 38, 84, 85, 89, 90, 91, 97, 98, 104, 105, 111, 112, 116, 117, 123, 124, 130, 131, 137, 138, 144, 145, 151, 152, 158, 159, 165, 166, 172, 173, 179, 180, 186, 187, 191, 192, 193, 194, 200, 201, 207, 208, 212, 213, 219, 220, 224, 225, 231, 232, 238, 239, 243, 244, 250, 251, 257, 258, 262, 263, 269, 270, 274, 275, 281, 282]
theorem addrs_ok : ∀ P, addrs = (fragK P).map (·.1) := fun _ => by kernel_rfl
noncomputable abbrev hook : Hook := kHook fragK addrs addrs_ok
noncomputable def lv : List (Str × WData) := [(Str.ofString "CHARSETS", WData.tuple [WData.str (Str.ofString "us-ascii"), WData.str (Str.ofString "iso-8859-1"), WData.str (Str.ofString "utf-8")]), (Str.ofString "UNKNOWN_SIGN", WData.str ⟨#[65533]⟩)]
noncomputable def row : RowW := OpenRow.toRowW (OpenLaw.row PySem.Challenge.rw_nz0298_01)

set_option maxHeartbeats 0 in
theorem left : LeftO PySem.Challenge.pw_nz0298_01 viewQ looseNames (fun s => xlAt viewQ lv s && recOk (RowW.records row) s) (Hook.obs hook) (Hook.val hook) 3626 := by
  intro w
  show Option.map (fun s => (openSeen viewQ looseNames (importedModules PySem.Challenge.pw_nz0298_01.main.body) (fun s => xlAt viewQ lv s && recOk (RowW.records row) s) true s, addrs.map s.heap.get?)) (openEnds treeTable PySem.Challenge.pw_nz0298_01 w 3626) = some (openGood viewQ looseNames, (fragK w.params).map fun p => some p.2)
  kernel_rfl
noncomputable abbrev loose : List Str := looseW viewQ looseNames
/-- all that the one heap holds, the other holds -/
def Kept (h h' : Heap) : Prop := ∀ b o, h.get? b = some o → h'.get? b = some o
theorem Kept.rfl' (h : Heap) : Kept h h := fun _ _ e => e
theorem Kept.trans {a b c : Heap} (x : Kept a b) (y : Kept b c) : Kept a c := fun p o e => y p o (x p o e)
theorem Kept.fr {a g h : Heap} {L : Addr} {m : Str → Option Value} (x : Kept a g) (F : Fr g L h m) : Kept a h := fun p o e => F.keep p o (x p o e)
/-- what a call hands back: a value and the objects that it made; all else as it was -/
abbrev Ret (h₀ : Heap) (L : Addr) (m : Str → Option Value) (s : Shared) (Q : Value → Shared → Prop) (R : Value → List (Addr × Obj) → Prop) : Prop :=
  ∀ (v : Value) (own : List (Addr × Obj)) (h' : Heap) (tk' : Nat), R v own → Kept s.heap h' → Fr h₀ L h' m → News h₀ L h' own → (∀ p ∈ own, s.heap.get? p.1 = none) → Q v { s with heap := h', toks := tk' }
/-- a call that changes nothing -/
abbrev PC (k : Nat) (f : Addr) (vs : List Value) (R : Value → List (Addr × Obj) → Prop) : Prop :=
  ∀ (w : World) (mean : ExcName → Option Value) (mg mb : Str → Option Value)
    (dp un : Nat) (gd : Option (List Code)) (cn : Str) (cs : Scope) (a : Addr) (ccd : Value) (cl : List (Str × Addr)) (outer : List Env) (A₀ : Around) (base h₀ : Heap) (L : Addr) (m : Str → Option Value) (s : Shared) (Q E : Value → Shared → Prop),
    Below A₀ base outer h₀ → Fr h₀ L s.heap m → (fragK w.params).In h₀ → Top viewQ loose mean mg mb h₀ → cs.kind = .function →
    dp + k < recursionLimit → un + 8 * k < cLine → Ret h₀ L m s Q R →
      wpAny (model PySem.Challenge.rw_nz0298_01.row.prog w) (ktrTop dp un gd cn cs L a ccd cl outer) (call (.ref f) vs) Q E s
theorem PC.use {k : Nat} {f : Addr} {vs : List Value} {R : Value → List (Addr × Obj) → Prop} (c : PC k f vs R)
    {w : World} {mean : ExcName → Option Value} {mg mb : Str → Option Value} {news : List (Addr × Obj)}
    {dp un : Nat} {gd : Option (List Code)} {cn : Str} {cs : Scope} {a : Addr} {ccd : Value} {cl : List (Str × Addr)} {outer : List Env} {A₀ : Around} {base h₀ : Heap} {L : Addr} {m : Str → Option Value} {s : Shared} {Q E : Value → Shared → Prop}
    (B : Below A₀ base outer h₀) (F : Fr h₀ L s.heap m) (X : (fragK w.params).In h₀) (N : News h₀ L s.heap news) (T : Top viewQ loose mean mg mb h₀) (hk : cs.kind = .function)
    (hd : dp + k < recursionLimit) (hu : un + 8 * k < cLine)
    (ret : ∀ (v : Value) (own : List (Addr × Obj)) (h' : Heap) (tk' : Nat), R v own → Kept s.heap h' → Fr h₀ L h' m → News h₀ L h' (own ++ news) → (∀ p ∈ own, ∀ q ∈ news, q.1 ≠ p.1) → Q v { s with heap := h', toks := tk' }) :
    wpAny (model PySem.Challenge.rw_nz0298_01.row.prog w) (ktrTop dp un gd cn cs L a ccd cl outer) (call (.ref f) vs) Q E s :=
  c w mean mg mb dp un gd cn cs a ccd cl outer A₀ base h₀ L m s Q E B F X T hk hd hu fun v own h' tk' hR hK hF hN hO =>
    ret v own h' tk' hR hK hF (fun p hp => (List.mem_append.mp hp).elim (hN p) fun hp => ⟨hK _ _ (N p hp).1, (N p hp).2⟩) fun p hp q hq e => by
      have h1 := (N q hq).1
      rw [e, hO p hp] at h1
      cases h1
/-- an answer without objects -/
def Im (R : Value → Prop) (v : Value) (own : List (Addr × Obj)) : Prop := own = [] ∧ R v
theorem ret_im {h₀ g h' : Heap} {L L' : Addr} {m m' : Str → Option Value} {s : Shared} {Q : Value → Shared → Prop} {R : Value → Prop} {v : Value} {tk' : Nat}
    (hret : Ret h₀ L m s Q (Im R)) (hg : Kept s.heap g) (hR : R v) (F : Fr h₀ L h' m) (F' : Fr g L' h' m') : Q v { s with heap := h', toks := tk' } :=
  hret v [] h' tk' ⟨rfl, hR⟩ (hg.fr F') F (fun _ h => nomatch h) (fun _ h => nomatch h)
/-- an answer with objects of the call's own -/
theorem ret_own {h₀ g h' : Heap} {L L' : Addr} {m m' : Str → Option Value} {s : Shared} {Q : Value → Shared → Prop} {R : Value → List (Addr × Obj) → Prop} {v : Value} {tk' : Nat} {nl : List (Addr × Obj)} (own : List (Addr × Obj))
    (hret : Ret h₀ L m s Q R) (hg : Kept s.heap g) (hR : R v own) (F : Fr h₀ L h' m) (F' : Fr g L' h' m') (N : News h₀ L h' nl) (N' : News g L' h' nl) (hs : ∀ p ∈ own, p ∈ nl) : Q v { s with heap := h', toks := tk' } :=
  hret v own h' tk' hR (hg.fr F') F (fun p hp => N p (hs p hp)) fun p hp => by
    cases q : s.heap.get? p.1 with
    | none => rfl
    | some o => have := (N' p (hs p hp)).2.2; rw [hg _ _ q] at this; cases this
/-- the bytes value of a list of ints -/
def IsB (ks : List Int) (v : Value) : Prop := ∃ b t, v = .bytes b t ∧ KBw.bInts b = ks
def IsI (k : Int) (v : Value) : Prop := ∃ t, v = .int k t
def IsS (x : Str) (v : Value) : Prop := ∃ t, v = .str x t
def IsBo (b : Bool) (v : Value) : Prop := v = .bool b

section
variable {prog : Program} {w : World} {A₀ A : Around} {s : Shared} {base h₀ : Heap} {outer : List Env} {L : Addr} {m : Str → Option Value} {env : Env} {K : Frag} {p : Program} {loose : List Str} {mean : ExcName → Option Value} {mg mb : Str → Option Value}
  {Q E : Value → Shared → Prop} {name qual : Str} {params : Arguments} {body : List Stmt} {scope : Scope} {dV kV doc pm cdv ct oc : Value} {an od : Option Addr} {osl : Array (Option Value)} {f : Addr} {args : List Value} {binds : List (Str × Value)}
/-- the entry of a def: the callee's ground is the whole heap that stood at the call -/
theorem enter (B : Below A₀ base outer h₀) (F : Fr h₀ L s.heap m) (X₀ : K.In h₀) (T : Top p loose mean mg mb h₀) (hA : A.frames = some (env :: outer)) (hf : env.frame = some L) (hke : env.scope.kind = .function)
    (ho : K.lookup f = some ⟨oc, od, .func (fnOf name qual params body scope dV kV doc pm an cdv ct), osl⟩) (hcd : codeIn K cdv qual = true) (hroom : A.depth < recursionLimit)
    (hbind : BindsTo s (fnOf name qual params body scope dV kV doc pm an cdv ct) ⟨args, []⟩ binds) (hloc : ∀ y ∈ binds, scope.names.lookup y.1 = some .local)
    (h : ∀ g L' h₁, Kept s.heap g → Fr h₀ L g m → Fr g L' h₁ (fun y => binds.reverse.lookup y) → News g L' h₁ [] → Below A base (env :: outer) g → K.In g → Top p loose mean mg mb g →
      wpAny (model prog w) (A.deeper (envOf qual scope L' f cdv)) (execs body (envOf qual scope L' f cdv))
        (fun fl s' => LeaveK h₀ L m g (fun r s' => match r with | .ok (.ret v) => Q v s' | .ok _ => False | .error e => E e s') (match fl with | .ret v => v | _ => .none) s')
        (fun e s' => wpAny (model prog w) (A.deeper (envOf qual scope L' f cdv)) (leaving (envOf qual scope L' f cdv) e) (fun _ s'' => E e s'') (fun e' s'' => E e' s'') s')
        { s with heap := h₁, toks := s.toks + binds.length })
    (hco : scope.isCoroutine = false) (hgen : scope.isGenerator = false) (hk : scope.kind = .function)
    (hcell : ∀ x ∈ scope.names, x.2 ≠ .cell) : wpAny (model prog w) A (call (.ref f) args) Q E s := by
  refine wpAny_call ?_
  obtain ⟨FG, BG, st, lv⟩ := groundX (R := fun r s' => match r with | .ok (.ret v) => Q v s' | .ok _ => False | .error e => E e s') (news := []) B F (fun _ hp => nomatch hp) hA hf hke
  have XK : K.In s.heap := X₀.keeps F.keep
  refine codeAny_call_def (XK _ _ ho |> fun ho' => hroom) (XK _ _ ho) rfl (T.nolimit.keeps F.keep) (codeRec_of XK hcd) rfl hbind hcell hloc (fun h₁ hns hk₁ => ?_) hco hgen hk
  exact wpAny_mono (h _ s.heap.objs.size h₁ (Kept.rfl' _) FG ⟨hns, hk₁, Nat.le_refl _⟩ (fun _ hp => nomatch hp) BG XK (T.keeps st)) (fun fl s' hl => lv _ _ hl) fun _ _ y => y

theorem enterC (B : Below A₀ base outer h₀) (F : Fr h₀ L s.heap m) (X₀ : K.In h₀) (T : Top p loose mean mg mb h₀) (hA : A.frames = some (env :: outer)) (hf : env.frame = some L) (hke : env.scope.kind = .function)
    (ho : K.lookup f = some ⟨oc, od, .func (fnOf name qual params body scope dV kV doc pm an cdv ct), osl⟩) (hcd : codeIn K cdv qual = true) (hroom : A.depth < recursionLimit)
    (hbind : BindsTo s (fnOf name qual params body scope dV kV doc pm an cdv ct) ⟨args, []⟩ binds) (hkind : (binds.all fun y => scope.names.lookup y.1 == some .local || scope.names.lookup y.1 == some .cell) = true)
    (hnd : ((cellsFrom 0 scope.names []).map (·.1)).Nodup)
    (h : ∀ g L' h₁ tk cells, Kept s.heap g → Fr h₀ L g m → Fr g L' h₁ (bindL (envOfC qual scope L' f cdv).kindOf binds fun _ => none) → News g L' h₁ cells →
      CellsAre (bindC (envOfC qual scope L' f cdv).kindOf binds fun _ => none) (cellsFrom (L' + 1) scope.names []) cells → Below A base (env :: outer) g → K.In g → Top p loose mean mg mb g →
      wpAny (model prog w) (A.deeper (envOfC qual scope L' f cdv)) (execs body (envOfC qual scope L' f cdv))
        (fun fl s' => LeaveK h₀ L m g (fun r s' => match r with | .ok (.ret v) => Q v s' | .ok _ => False | .error e => E e s') (match fl with | .ret v => v | _ => .none) s')
        (fun e s' => wpAny (model prog w) (A.deeper (envOfC qual scope L' f cdv)) (leaving (envOfC qual scope L' f cdv) e) (fun _ s'' => E e s'') (fun e' s'' => E e' s'') s')
        { s with heap := h₁, toks := tk })
    (hco : scope.isCoroutine = false) (hgen : scope.isGenerator = false) (hk : scope.kind = .function) : wpAny (model prog w) A (call (.ref f) args) Q E s := by
  refine wpAny_call ?_
  obtain ⟨FG, BG, st, lv⟩ := groundX (R := fun r s' => match r with | .ok (.ret v) => Q v s' | .ok _ => False | .error e => E e s') (news := []) B F (fun _ hp => nomatch hp) hA hf hke
  have XK : K.In s.heap := X₀.keeps F.keep
  refine codeAny_call_function hroom (XK _ _ ho) rfl hco hgen rfl (codeRec_of XK hcd) (hbind _ _ _ _ ?_)
  refine wpAny_newFunctionEnv_cells hk (kindsX hkind _) fun env' he s' x => ?_
  subst he
  refine ⟨(T.nolimit.keeps F.keep).keeps x.toInCall.keep, codeAny_func ?_⟩
  obtain ⟨h₁, tk, rfl, _⟩ := x.done
  have hk₁ := x.toInCall.keep
  obtain ⟨cells, NC, Y⟩ := Cl.news (h₀ := s.heap) (Nat.le_refl _) fun n c hm => ⟨x.cell n c (lookup_of_mem_nodup (cellsFrom_names scope.names 0 (s.heap.objs.size + 1) [] [] rfl ▸ hnd) hm), x.above n c hm⟩
  exact wpAny_mono (h _ s.heap.objs.size h₁ tk cells (Kept.rfl' _) FG ⟨x.toInCall.ns, hk₁, Nat.le_refl _⟩ NC Y BG XK (T.keeps st)) (fun fl s' hl => lv _ _ hl) fun _ _ y => y
end
theorem nzfit {vs : List Value} (h : vs.length ≤ 1000) : vs.toArray.size ≤ sizeLine := by rw [List.size_toArray, PySem.sizeLine_eq]; omega
theorem meas_1 {n j : Nat} (h : j < n) : n - ((j : Int) + 1).toNat < n - ((j : Int)).toNat := by omega
theorem meas_i {n j : Nat} (h : (j : Int) < (n : Int)) : n - ((j : Int) + 1).toNat < n - ((j : Int)).toNat := meas_1 (Int.ofNat_lt.mp h)
theorem meas_e {n j e : Nat} (h : j < n) (h2 : j < e) : n - ((e : Int)).toNat < n - ((j : Int)).toNat := by omega
theorem meas_p {n j c : Nat} (k : Nat) (h : (j : Int) < (n : Int)) : n + c - ((j : Int) + ((k + 1 : Nat) : Int)).toNat < n + c - ((j : Int)).toNat := by omega
theorem room_1 {d k n L : Nat} (h : d + k < L) (e : Nat.ble (1 + n) k = true) : d + 1 + n < L :=
  Nat.lt_of_le_of_lt (by rw [Nat.add_assoc]; exact Nat.add_le_add_left (Nat.le_of_ble_eq_true e) d) h
theorem room_0 {d k L : Nat} (h : d + k < L) : d < L := Nat.lt_of_le_of_lt (Nat.le_add_right d k) h
theorem unit_3 {u k n L : Nat} (h : u + k < L) (e : Nat.ble (3 + n) k = true) : u + 3 + n < L :=
  Nat.lt_of_le_of_lt (by rw [Nat.add_assoc]; exact Nat.add_le_add_left (Nat.le_of_ble_eq_true e) u) h
section
variable {prog : Program} {w : World} {A : Around} {E : Value → Shared → Prop} {s : Shared} {K : Frag} {h₀ : Heap} {L : Addr} {m : Str → Option Value} {t : Addr} {l : List Value} {dd : Option Addr} {n : Nat} {sl : Array (Option Value)} {u : Tok} {Q : Value → Shared → Prop}
theorem in_topInts {ns : List Int} {x : Int} (F : Fr h₀ L s.heap m) (X : K.In h₀) (hl : K.lookup t = some ⟨.type "tuple", dd, .seq l.toArray n, sl⟩) (hi : IntsAre l ns) (h : Q (.bool (ns.any (· == x))) s) : wpAny (model prog w) A (compareOp .In (.int x u) (.ref t)) Q E s :=
  in_tuple_ints (tupK (X.keeps F.keep) hl) hi h
theorem notin_topInts {ns : List Int} {x : Int} (F : Fr h₀ L s.heap m) (X : K.In h₀) (hl : K.lookup t = some ⟨.type "tuple", dd, .seq l.toArray n, sl⟩) (hi : IntsAre l ns) (h : Q (.bool (!(ns.any (· == x)))) s) : wpAny (model prog w) A (compareOp .NotIn (.int x u) (.ref t)) Q E s :=
  notin_tuple_ints (tupK (X.keeps F.keep) hl) hi h
theorem notin_topStrs {ys : List Str} {x : Str} (F : Fr h₀ L s.heap m) (X : K.In h₀) (hl : K.lookup t = some ⟨.type "tuple", dd, .seq l.toArray n, sl⟩) (hi : StrsAre l ys) (h : Q (.bool (!(ys.any (· == x)))) s) : wpAny (model prog w) A (compareOp .NotIn (.str x u) (.ref t)) Q E s :=
  notin_tuple_strs (tupK (X.keeps F.keep) hl) hi h
end

def isWS (c : Int) : Bool := decide (33 ≤ c ∧ c ≤ 126 ∧ c ≠ 63)
set_option maxHeartbeats 4000000 in
theorem is_word_sign_ok (c : Int) (tc : Tok) : PC 1 201 [.int c tc] (Im (IsBo (isWS c))) := by
  unfold PC
  k_fill
  intro w mean mg mb dp un gd cn cs a ccd cl outer A₀ base h₀ L m s Q E B F X T hcs hd hu hret
  (k_dflt (refine' enter ?zh1365k1 ?zh1365k2 ?zh1365k3 ?zh1365k5 ?zh1365kA ?zh1365kF ?zh1365kK ?zh1365k6 ?zh1365k7 ?zh1365k8 ?zh1365k9 ?zh1365kB ?_ ?zh1365c2 ?zh1365c3 ?zh1365c4 ?zh1365c5; (case zh1365kA => exact rfl); (case zh1365kF => exact rfl); (case zh1365kK => first | assumption | exact rfl); (case zh1365k1 => k_asm); (case zh1365k2 => k_asm); (case zh1365k3 => k_asm); (case zh1365k5 => k_asm); (case zh1365k6 => k_is); (case zh1365k7 => k_is); (case zh1365k8 => (first | exact room_1 hd rfl | exact room_0 hd | ktr_room)); (case zh1365k9 => exact BindsTo.of_eq rfl); (case zh1365c5 => decide); (case zh1365kB => exact locs rfl); (case zh1365c2 => exact rfl); (case zh1365c3 => exact rfl); (case zh1365c4 => exact rfl); k_whole; intro gzz Lzz hzz hgzz FGzz Fzz Nzz Bzz Xzz Tzz; (try dsimp only); (try k_lift Bzz); (try (show wpAny _ _ _ _ _ _)); (try k_fold)))
  (repeat' (first | (k_unfold; (try dsimp only)) | ((fail_if_success (with_reducible show KswEnd _ _ _ _ _ _ _ _ _ _ _ _)); (fail_if_success (with_reducible show InvEndN _ _ _ _ _ _ _)); (fail_if_success (with_reducible show wpAny _ _ (exec (Stmt.While _ _ _ _) _) _ _ _)); (fail_if_success (with_reducible show wpAny _ _ (exec (Stmt.For _ _ _ _ _) _) _ _ _)); (fail_if_success (with_reducible show wpAny _ _ (exec (Stmt.Assign _ (PySem.Expr.ListComp _ _ _ _) _) _) _ _ _)); (fail_if_success (with_reducible show wpAny _ _ (eval (PySem.Expr.ListComp _ _ _ _) _) _ _ _)); (first | walk1 | (dsimp only; walk1))) | (leave1; walk_say "STEP leave1"; try dsimp only)))
  all_goals (refine ret_im hret (by assumption) ?_ (by assumption) (by assumption); refine congrArg Value.bool ?_; unfold isWS; rw [Bool.eq_iff_iff]; simp only [bne_iff_ne, decide_eq_true_eq, ne_eq]; omega)

def lowC (c : Int) : Int := if 65 ≤ c ∧ c ≤ 90 then c + 32 else c
set_option maxHeartbeats 4000000 in
theorem lower_code_ok (c : Int) (tc : Tok) : PC 1 85 [.int c tc] (Im (IsI (lowC c))) := by
  unfold PC
  k_fill
  intro w mean mg mb dp un gd cn cs a ccd cl outer A₀ base h₀ L m s Q E B F X T hcs hd hu hret
  (k_dflt (refine' enter ?zh1365k1 ?zh1365k2 ?zh1365k3 ?zh1365k5 ?zh1365kA ?zh1365kF ?zh1365kK ?zh1365k6 ?zh1365k7 ?zh1365k8 ?zh1365k9 ?zh1365kB ?_ ?zh1365c2 ?zh1365c3 ?zh1365c4 ?zh1365c5; (case zh1365kA => exact rfl); (case zh1365kF => exact rfl); (case zh1365kK => first | assumption | exact rfl); (case zh1365k1 => k_asm); (case zh1365k2 => k_asm); (case zh1365k3 => k_asm); (case zh1365k5 => k_asm); (case zh1365k6 => k_is); (case zh1365k7 => k_is); (case zh1365k8 => (first | exact room_1 hd rfl | exact room_0 hd | ktr_room)); (case zh1365k9 => exact BindsTo.of_eq rfl); (case zh1365c5 => decide); (case zh1365kB => exact locs rfl); (case zh1365c2 => exact rfl); (case zh1365c3 => exact rfl); (case zh1365c4 => exact rfl); k_whole; intro gzz Lzz hzz hgzz FGzz Fzz Nzz Bzz Xzz Tzz; (try dsimp only); (try k_lift Bzz); (try (show wpAny _ _ _ _ _ _)); (try k_fold)))
  (repeat' (first | (k_unfold; (try dsimp only)) | ((fail_if_success (with_reducible show KswEnd _ _ _ _ _ _ _ _ _ _ _ _)); (fail_if_success (with_reducible show InvEndN _ _ _ _ _ _ _)); (fail_if_success (with_reducible show wpAny _ _ (exec (Stmt.While _ _ _ _) _) _ _ _)); (fail_if_success (with_reducible show wpAny _ _ (exec (Stmt.For _ _ _ _ _) _) _ _ _)); (fail_if_success (with_reducible show wpAny _ _ (exec (Stmt.Assign _ (PySem.Expr.ListComp _ _ _ _) _) _) _ _ _)); (fail_if_success (with_reducible show wpAny _ _ (eval (PySem.Expr.ListComp _ _ _ _) _) _ _ _)); (first | walk1 | (dsimp only; walk1))) | (leave1; walk_say "STEP leave1"; try dsimp only)))
  all_goals (refine ret_im hret (by assumption) ?_ (by assumption) (by assumption); refine ⟨_, congrArg (fun k => Value.int k _) ?_⟩; unfold lowC; (try simp only [decide_eq_true_eq, decide_eq_false_iff_not] at *); split <;> omega)

def hexW (c : Int) : Int := if 48 ≤ c ∧ c ≤ 57 then c - 48 else if 65 ≤ c ∧ c ≤ 70 then c - 55 else if 97 ≤ c ∧ c ≤ 102 then c - 87 else -1
theorem hexW_1 {c : Int} (h : 48 ≤ c) (h' : c ≤ 57) : c - 48 = hexW c := (if_pos ⟨h, h'⟩).symm
theorem hexW_2 {c : Int} (h : 65 ≤ c) (h' : c ≤ 70) : c - 55 = hexW c := by
  unfold hexW; rw [if_neg (by omega), if_pos ⟨h, h'⟩]
theorem hexW_3 {c : Int} (h : 97 ≤ c) (h' : c ≤ 102) : c - 87 = hexW c := by
  unfold hexW; rw [if_neg (by omega), if_neg (by omega), if_pos ⟨h, h'⟩]
theorem hexW_0 {c : Int} (h : ¬ (48 ≤ c ∧ c ≤ 57)) (h' : ¬ (65 ≤ c ∧ c ≤ 70)) (h'' : ¬ (97 ≤ c ∧ c ≤ 102)) : -1 = hexW c := by
  unfold hexW; rw [if_neg h, if_neg h', if_neg h'']
set_option maxHeartbeats 4000000 in
theorem hex_worth_ok (c : Int) (h0 : 0 ≤ c) (h1 : c < 256) (tc : Tok) : PC 1 173 [.int c tc] (Im (IsI (hexW c))) := by
  unfold PC
  k_fill
  intro w mean mg mb dp un gd cn cs a ccd cl outer A₀ base h₀ L m s Q E B F X T hcs hd hu hret
  (k_dflt (refine' enter ?zh1365k1 ?zh1365k2 ?zh1365k3 ?zh1365k5 ?zh1365kA ?zh1365kF ?zh1365kK ?zh1365k6 ?zh1365k7 ?zh1365k8 ?zh1365k9 ?zh1365kB ?_ ?zh1365c2 ?zh1365c3 ?zh1365c4 ?zh1365c5; (case zh1365kA => exact rfl); (case zh1365kF => exact rfl); (case zh1365kK => first | assumption | exact rfl); (case zh1365k1 => k_asm); (case zh1365k2 => k_asm); (case zh1365k3 => k_asm); (case zh1365k5 => k_asm); (case zh1365k6 => k_is); (case zh1365k7 => k_is); (case zh1365k8 => (first | exact room_1 hd rfl | exact room_0 hd | ktr_room)); (case zh1365k9 => exact BindsTo.of_eq rfl); (case zh1365c5 => decide); (case zh1365kB => exact locs rfl); (case zh1365c2 => exact rfl); (case zh1365c3 => exact rfl); (case zh1365c4 => exact rfl); k_whole; intro gzz Lzz hzz hgzz FGzz Fzz Nzz Bzz Xzz Tzz; (try dsimp only); (try k_lift Bzz); (try (show wpAny _ _ _ _ _ _)); (try k_fold)))
  (repeat' (first | (k_unfold; (try dsimp only)) | ((fail_if_success (with_reducible show KswEnd _ _ _ _ _ _ _ _ _ _ _ _)); (fail_if_success (with_reducible show InvEndN _ _ _ _ _ _ _)); (fail_if_success (with_reducible show wpAny _ _ (exec (Stmt.While _ _ _ _) _) _ _ _)); (fail_if_success (with_reducible show wpAny _ _ (exec (Stmt.For _ _ _ _ _) _) _ _ _)); (fail_if_success (with_reducible show wpAny _ _ (exec (Stmt.Assign _ (PySem.Expr.ListComp _ _ _ _) _) _) _ _ _)); (fail_if_success (with_reducible show wpAny _ _ (eval (PySem.Expr.ListComp _ _ _ _) _) _ _ _)); (first | walk1 | (dsimp only; walk1))) | (leave1; walk_say "STEP leave1"; try dsimp only)))
  all_goals (refine ret_im hret (by assumption) ?_ (by assumption) (by assumption); refine ⟨_, congrArg (fun k => Value.int k _) ?_⟩; law_clear; (try simp only [decide_eq_true_eq, decide_eq_false_iff_not] at *); first | exact hexW_1 (by assumption) (by assumption) | exact hexW_2 (by assumption) (by assumption) | exact hexW_3 (by assumption) (by assumption) | (refine hexW_0 ?_ ?_ ?_ <;> first | exact fun q => absurd q.1 (by assumption) | exact fun q => absurd q.2 (by assumption) | omega))

def quotedAt (ks : List Int) (i : Nat) : Int :=
  if i + 2 ≥ ks.length then -1 else if hexW (ks.getD (i + 1) 0) ≥ 0 ∧ hexW (ks.getD (i + 2) 0) ≥ 0 then 16 * hexW (ks.getD (i + 1) 0) + hexW (ks.getD (i + 2) 0) else -1
set_option maxHeartbeats 4000000 in
theorem quoted_at_ok (b : Array UInt8) (ks : List Int) (hb : KBw.bInts b = ks) (hk : ks.length ≤ 1000) (i : Nat) (t1 t2 : Tok) : PC 2 180 [.bytes b t1, .int i t2] (Im (IsI (quotedAt ks i))) := by
  have e1 : ((i : Int) + 1).toNat = i + 1 := by omega
  have e2 : ((i : Int) + 2).toNat = i + 2 := by omega
  unfold PC
  k_fill
  intro w mean mg mb dp un gd cn cs a ccd cl outer A₀ base h₀ L m s Q E B F X T hcs hd hu hret
  (k_dflt (refine' enter ?zh1365k1 ?zh1365k2 ?zh1365k3 ?zh1365k5 ?zh1365kA ?zh1365kF ?zh1365kK ?zh1365k6 ?zh1365k7 ?zh1365k8 ?zh1365k9 ?zh1365kB ?_ ?zh1365c2 ?zh1365c3 ?zh1365c4 ?zh1365c5; (case zh1365kA => exact rfl); (case zh1365kF => exact rfl); (case zh1365kK => first | assumption | exact rfl); (case zh1365k1 => k_asm); (case zh1365k2 => k_asm); (case zh1365k3 => k_asm); (case zh1365k5 => k_asm); (case zh1365k6 => k_is); (case zh1365k7 => k_is); (case zh1365k8 => (first | exact room_1 hd rfl | exact room_0 hd | ktr_room)); (case zh1365k9 => exact BindsTo.of_eq rfl); (case zh1365c5 => decide); (case zh1365kB => exact locs rfl); (case zh1365c2 => exact rfl); (case zh1365c3 => exact rfl); (case zh1365c4 => exact rfl); k_whole; intro gzz Lzz hzz hgzz FGzz Fzz Nzz Bzz Xzz Tzz; (try dsimp only); (try k_lift Bzz); (try (show wpAny _ _ _ _ _ _)); (try k_fold)))
  (repeat' (first | (k_unfold; (try dsimp only)) | ((fail_if_success (with_reducible show KswEnd _ _ _ _ _ _ _ _ _ _ _ _)); (fail_if_success (with_reducible show InvEndN _ _ _ _ _ _ _)); (fail_if_success (with_reducible show wpAny _ _ (exec (Stmt.While _ _ _ _) _) _ _ _)); (fail_if_success (with_reducible show wpAny _ _ (exec (Stmt.For _ _ _ _ _) _) _ _ _)); (fail_if_success (with_reducible show wpAny _ _ (exec (Stmt.Assign _ (PySem.Expr.ListComp _ _ _ _) _) _) _ _ _)); (fail_if_success (with_reducible show wpAny _ _ (eval (PySem.Expr.ListComp _ _ _ _) _) _ _ _)); (first | (k_here; (with_reducible show wpAny _ _ (call (Value.ref 173) [Value.int _ _] _) _ _ _); k_dflt (refine' PC.use (hex_worth_ok _ ?zh48611p1 ?zh48611p2 _) ?zh48611k1 ?zh48611k2 ?zh48611k3 ?zh48611k4 ?zh48611k5 ?zh48611kK ?zh48611kd ?zh48611ku ?_); (case zh48611p1 => first | assumption | omega); (case zh48611p2 => first | assumption | omega); (( (case zh48611k1 => k_asm); (case zh48611k2 => k_asm); (case zh48611k3 => k_asm); (case zh48611k4 => k_asm); (case zh48611k5 => k_asm); (case zh48611kK => first | exact rfl | assumption); (case zh48611kd => (first | exact room_1 hd rfl | exact room_0 hd | ktr_room)); (case zh48611ku => (first | exact unit_3 hu rfl | ktr_units)))); intro vzz ownzz hzz tkzz hRzz hKzz Fzz Nzz hUzz; clear hKzz hUzz; obtain ⟨hOzz, tVzz, hVzz⟩ := hRzz; subst hOzz hVzz; (try simp only [List.nil_append] at Nzz); (try dsimp only)) | walk1 | (dsimp only; walk1))) | (leave1; walk_say "STEP leave1"; try dsimp only)))
  all_goals (refine ret_im hret (by assumption) ?_ (by assumption) (by assumption); refine ⟨_, congrArg (fun k => Value.int k _) ?_⟩; unfold quotedAt; law_clear; (try rw [e1] at *); (try rw [e2] at *); (try simp only [ge_iff_le, decide_eq_true_eq, decide_eq_false_iff_not] at *); (repeat' split) <;> first | rfl | omega)

def isWhite (c : Int) : Bool := [9, 10, 13, 32].any fun x => x == c
def apart (ks : List Int) (i j : Nat) : Bool :=
  (decide (i = 0) || isWhite (ks.getD (i - 1) 0) || ks.getD (i - 1) 0 == 40) && (decide (j = ks.length) || isWhite (ks.getD j 0) || ks.getD j 0 == 41)
def ap1 (ks : List Int) (i : Nat) : Bool := decide (i = 0) || isWhite (ks.getD (i - 1) 0) || ks.getD (i - 1) 0 == 40
def ap2 (ks : List Int) (j : Nat) : Bool := decide (j = ks.length) || isWhite (ks.getD j 0) || ks.getD j 0 == 41
theorem pred_toNat (i : Nat) : ((i : Int) - 1).toNat = i - 1 := by omega
theorem ap1_0 {ks : List Int} {i : Nat} (h : ¬ 0 < (i : Int)) : ap1 ks i = true := by
  cases i
  · rfl
  · exact absurd (Int.natCast_pos.mpr (Nat.succ_pos _)) h
theorem ap1_w {ks : List Int} {i : Nat} (h : ([9, 10, 13, 32].any fun x => x == ks.getD ((i : Int) - 1).toNat 0) = true) : ap1 ks i = true := by
  rw [pred_toNat] at h
  unfold ap1 isWhite
  rw [h, Bool.or_true, Bool.true_or]
theorem ap1_p {ks : List Int} {i : Nat} (h : ks.getD ((i : Int) - 1).toNat 0 = 40) : ap1 ks i = true := by
  rw [pred_toNat] at h
  unfold ap1
  rw [h, beq_self_eq_true, Bool.or_true]
theorem ap1_f {ks : List Int} {i : Nat} (h : 0 < (i : Int)) (h1 : ([9, 10, 13, 32].any fun x => x == ks.getD ((i : Int) - 1).toNat 0) = false) (h2 : ks.getD ((i : Int) - 1).toNat 0 ≠ 40) : ap1 ks i = false := by
  rw [pred_toNat] at h1 h2
  unfold ap1 isWhite
  rw [h1, beq_eq_false_iff_ne.mpr h2, decide_eq_false (Nat.pos_iff_ne_zero.mp (Int.natCast_pos.mp h))]
  rfl
theorem ap_f {ks : List Int} {i j : Nat} (h : ap1 ks i = false) : false = apart ks i j := (congrArg (fun b => b && ap2 ks j) h).symm
theorem ap_t {ks : List Int} {i j : Nat} {r : Bool} (h : ap1 ks i = true) (e : ap2 ks j = r) : r = apart ks i j := by
  subst e; exact (congrArg (fun b => b && ap2 ks j) h).symm
theorem ap2_e {ks : List Int} {j : Nat} (h : (j : Int) = (ks.length : Int)) : ap2 ks j = ((j : Int) == (ks.length : Int)) := by
  unfold ap2
  rw [decide_eq_true (Int.natCast_inj.mp h), h, beq_self_eq_true]
  rfl
theorem ap2_w {ks : List Int} {j : Nat} (h : ([9, 10, 13, 32].any fun x => x == ks.getD ((j : Int)).toNat 0) = true) : ap2 ks j = ([9, 10, 13, 32].any fun x => x == ks.getD ((j : Int)).toNat 0) := by
  rw [h]
  unfold ap2 isWhite
  rw [show ([9, 10, 13, 32].any fun x : Int => x == ks.getD j 0) = true from h, Bool.or_true, Bool.true_or]
theorem ap2_p {ks : List Int} {j : Nat} (h : (j : Int) ≠ (ks.length : Int)) (h1 : ([9, 10, 13, 32].any fun x => x == ks.getD ((j : Int)).toNat 0) = false) : ap2 ks j = (ks.getD ((j : Int)).toNat 0 == 41) := by
  unfold ap2 isWhite
  rw [decide_eq_false (fun e => h (congrArg Nat.cast e)), show ([9, 10, 13, 32].any fun x : Int => x == ks.getD j 0) = false from h1]
  rfl
set_option maxHeartbeats 4000000 in
theorem is_apart_ok (b : Array UInt8) (ks : List Int) (hb : KBw.bInts b = ks) (hk : ks.length ≤ 1000) (i j : Nat) (hi : i ≤ ks.length) (hj : j ≤ ks.length) (t1 t2 t3 : Tok) : PC 2 220 [.bytes b t1, .int i t2, .int j t3] (Im (IsBo (apart ks i j))) := by
  unfold PC
  k_fill
  intro w mean mg mb dp un gd cn cs a ccd cl outer A₀ base h₀ L m s Q E B F X T hcs hd hu hret
  (k_dflt (refine' enter ?zh1365k1 ?zh1365k2 ?zh1365k3 ?zh1365k5 ?zh1365kA ?zh1365kF ?zh1365kK ?zh1365k6 ?zh1365k7 ?zh1365k8 ?zh1365k9 ?zh1365kB ?_ ?zh1365c2 ?zh1365c3 ?zh1365c4 ?zh1365c5; (case zh1365kA => exact rfl); (case zh1365kF => exact rfl); (case zh1365kK => first | assumption | exact rfl); (case zh1365k1 => k_asm); (case zh1365k2 => k_asm); (case zh1365k3 => k_asm); (case zh1365k5 => k_asm); (case zh1365k6 => k_is); (case zh1365k7 => k_is); (case zh1365k8 => (first | exact room_1 hd rfl | exact room_0 hd | ktr_room)); (case zh1365k9 => exact BindsTo.of_eq rfl); (case zh1365c5 => decide); (case zh1365kB => exact locs rfl); (case zh1365c2 => exact rfl); (case zh1365c3 => exact rfl); (case zh1365c4 => exact rfl); k_whole; intro gzz Lzz hzz hgzz FGzz Fzz Nzz Bzz Xzz Tzz; (try dsimp only); (try k_lift Bzz); (try (show wpAny _ _ _ _ _ _)); (try k_fold)))
  (repeat' (first | (k_unfold; (try dsimp only)) | ((fail_if_success (with_reducible show KswEnd _ _ _ _ _ _ _ _ _ _ _ _)); (fail_if_success (with_reducible show InvEndN _ _ _ _ _ _ _)); (fail_if_success (with_reducible show wpAny _ _ (exec (Stmt.While _ _ _ _) _) _ _ _)); (fail_if_success (with_reducible show wpAny _ _ (exec (Stmt.For _ _ _ _ _) _) _ _ _)); (fail_if_success (with_reducible show wpAny _ _ (exec (Stmt.Assign _ (PySem.Expr.ListComp _ _ _ _) _) _) _ _ _)); (fail_if_success (with_reducible show wpAny _ _ (eval (PySem.Expr.ListComp _ _ _ _) _) _ _ _)); (first | (k_here; (with_reducible show wpAny _ _ (compareOp CmpOp.NotIn (Value.int _ _) (Value.ref _)) _ _ _); k_dflt (refine' notin_topInts ?zh29096f ?zh29096x ?zh29096l ?zh29096i ?_; (case zh29096f => k_asm); (case zh29096x => k_asm); (case zh29096l => k_is); (case zh29096i => (repeat' (first | exact IntsAre.nil | refine' IntsAre.cons _ _ ?_))); k_whole)) | (k_here; (with_reducible show wpAny _ _ (compareOp CmpOp.In (Value.int _ _) (Value.ref _)) _ _ _); k_dflt (refine' in_topInts ?zh60155f ?zh60155x ?zh60155l ?zh60155i ?_; (case zh60155f => k_asm); (case zh60155x => k_asm); (case zh60155l => k_is); (case zh60155i => (repeat' (first | exact IntsAre.nil | refine' IntsAre.cons _ _ ?_))); k_whole)) | walk1 | (dsimp only; walk1))) | (leave1; walk_say "STEP leave1"; try dsimp only)))
  all_goals (refine ret_im hret (by assumption) ?_ (by assumption) (by assumption); refine congrArg Value.bool ?_; clear hret F B X T)
  all_goals first
    | exact ap_f (ap1_f (by assumption) (by assumption) (by assumption))
    | (refine ap_t ?_ ?_; (first | exact ap1_0 (by assumption) | exact ap1_p (by assumption) | exact ap1_w (by assumption)); (first | exact ap2_e (by assumption) | exact ap2_w (by assumption) | exact ap2_p (by assumption) (by assumption)))

set_option maxHeartbeats 4000000 in
theorem need_charset_ok (x : Str) (hx : x = Str.ofString "utf-8" ∨ x = Str.ofString "us-ascii" ∨ x = Str.ofString "iso-8859-1") (t1 : Tok) : PC 1 112 [.str x t1] (Im (fun v => v = .none)) := by
  unfold PC
  k_fill
  intro w mean mg mb dp un gd cn cs a ccd cl outer A₀ base h₀ L m s Q E B F X T hcs hd hu hret
  (k_dflt (refine' enter ?zh1365k1 ?zh1365k2 ?zh1365k3 ?zh1365k5 ?zh1365kA ?zh1365kF ?zh1365kK ?zh1365k6 ?zh1365k7 ?zh1365k8 ?zh1365k9 ?zh1365kB ?_ ?zh1365c2 ?zh1365c3 ?zh1365c4 ?zh1365c5; (case zh1365kA => exact rfl); (case zh1365kF => exact rfl); (case zh1365kK => first | assumption | exact rfl); (case zh1365k1 => k_asm); (case zh1365k2 => k_asm); (case zh1365k3 => k_asm); (case zh1365k5 => k_asm); (case zh1365k6 => k_is); (case zh1365k7 => k_is); (case zh1365k8 => (first | exact room_1 hd rfl | exact room_0 hd | ktr_room)); (case zh1365k9 => exact BindsTo.of_eq rfl); (case zh1365c5 => decide); (case zh1365kB => exact locs rfl); (case zh1365c2 => exact rfl); (case zh1365c3 => exact rfl); (case zh1365c4 => exact rfl); k_whole; intro gzz Lzz hzz hgzz FGzz Fzz Nzz Bzz Xzz Tzz; (try dsimp only); (try k_lift Bzz); (try (show wpAny _ _ _ _ _ _)); (try k_fold)))
  (repeat' (first | (k_unfold; (try dsimp only)) | ((fail_if_success (with_reducible show KswEnd _ _ _ _ _ _ _ _ _ _ _ _)); (fail_if_success (with_reducible show InvEndN _ _ _ _ _ _ _)); (fail_if_success (with_reducible show wpAny _ _ (exec (Stmt.While _ _ _ _) _) _ _ _)); (fail_if_success (with_reducible show wpAny _ _ (exec (Stmt.For _ _ _ _ _) _) _ _ _)); (fail_if_success (with_reducible show wpAny _ _ (exec (Stmt.Assign _ (PySem.Expr.ListComp _ _ _ _) _) _) _ _ _)); (fail_if_success (with_reducible show wpAny _ _ (eval (PySem.Expr.ListComp _ _ _ _) _) _ _ _)); (first | (k_here; (with_reducible show wpAny _ _ (compareOp CmpOp.NotIn (Value.str _ _) (Value.ref _)) _ _ _); k_dflt (refine' notin_topStrs ?zh29371f ?zh29371x ?zh29371l ?zh29371i ?_; (case zh29371f => k_asm); (case zh29371x => k_asm); (case zh29371l => k_is); (case zh29371i => (repeat' (first | exact StrsAre.nil | refine' StrsAre.cons _ _ ?_))); k_whole)) | walk1 | (dsimp only; walk1))) | (leave1; walk_say "STEP leave1"; try dsimp only)))
  · exact ret_im hret (by assumption) rfl (by assumption) (by assumption)
  · exfalso
    rename _ = false => hf
    revert hf
    rcases hx with rfl | rfl | rfl <;> decide
/-- all but one object -/
def KeptBut (x : Addr) (h h' : Heap) : Prop := ∀ b o, b ≠ x → h.get? b = some o → h'.get? b = some o
theorem KeptBut.fr {x : Addr} {a g h : Heap} {L : Addr} {m : Str → Option Value} (k : KeptBut x a g) (F : Fr g L h m) : KeptBut x a h := fun p o n e => F.keep p o (k p o n e)
/-- what a call hands back that changes one object of the caller's -/
abbrev RetM (x : Addr) (h₀ : Heap) (L : Addr) (m : Str → Option Value) (s : Shared) (Q : Value → Shared → Prop) (R : Value → List (Addr × Obj) → Obj → Prop) : Prop :=
  ∀ (v : Value) (own : List (Addr × Obj)) (px : Obj) (h' : Heap) (tk' : Nat), R v own px → KeptBut x s.heap h' → Fr h₀ L h' m → News h₀ L h' ((x, px) :: own) → (∀ p ∈ own, p.1 ≠ x ∧ s.heap.get? p.1 = none) → Q v { s with heap := h', toks := tk' }
abbrev PM (k : Nat) (f : Addr) (vs : List Value) (x : Addr) (px : Obj) (P : Heap → Prop) (R : Value → List (Addr × Obj) → Obj → Prop) : Prop :=
  ∀ (w : World) (mean : ExcName → Option Value) (mg mb : Str → Option Value)
    (dp un : Nat) (gd : Option (List Code)) (cn : Str) (cs : Scope) (a : Addr) (ccd : Value) (cl : List (Str × Addr)) (outer : List Env) (A₀ : Around) (base h₀ : Heap) (L : Addr) (m : Str → Option Value) (s : Shared) (Q E : Value → Shared → Prop),
    Below A₀ base outer h₀ → Fr h₀ L s.heap m → (fragK w.params).In h₀ → Top viewQ loose mean mg mb h₀ → cs.kind = .function →
    dp + k < recursionLimit → un + 8 * k < cLine → P s.heap → News h₀ L s.heap [(x, px)] → RetM x h₀ L m s Q R →
      wpAny (model PySem.Challenge.rw_nz0298_01.row.prog w) (ktrTop dp un gd cn cs L a ccd cl outer) (call (.ref f) vs) Q E s
theorem PM.use {k : Nat} {f : Addr} {vs : List Value} {x : Addr} {px : Obj} {P : Heap → Prop} {R : Value → List (Addr × Obj) → Obj → Prop} (c : PM k f vs x px P R)
    {w : World} {mean : ExcName → Option Value} {mg mb : Str → Option Value} {rest : List (Addr × Obj)}
    {dp un : Nat} {gd : Option (List Code)} {cn : Str} {cs : Scope} {a : Addr} {ccd : Value} {cl : List (Str × Addr)} {outer : List Env} {A₀ : Around} {base h₀ : Heap} {L : Addr} {m : Str → Option Value} {s : Shared} {Q E : Value → Shared → Prop}
    (B : Below A₀ base outer h₀) (F : Fr h₀ L s.heap m) (X : (fragK w.params).In h₀) (N : News h₀ L s.heap ((x, px) :: rest)) (off : ∀ p ∈ rest, p.1 ≠ x) (T : Top viewQ loose mean mg mb h₀) (hk : cs.kind = .function)
    (hd : dp + k < recursionLimit) (hu : un + 8 * k < cLine) (hp : P s.heap)
    (ret : ∀ (v : Value) (own : List (Addr × Obj)) (px' : Obj) (h' : Heap) (tk' : Nat), R v own px' → KeptBut x s.heap h' → Fr h₀ L h' m → News h₀ L h' ((x, px') :: (own ++ rest)) → (∀ p ∈ own, ∀ q ∈ rest, q.1 ≠ p.1) → (∀ p ∈ own, p.1 ≠ x) → Q v { s with heap := h', toks := tk' }) :
    wpAny (model PySem.Challenge.rw_nz0298_01.row.prog w) (ktrTop dp un gd cn cs L a ccd cl outer) (call (.ref f) vs) Q E s :=
  c w mean mg mb dp un gd cn cs a ccd cl outer A₀ base h₀ L m s Q E B F X T hk hd hu hp (fun p hp => N p (by rw [List.mem_singleton.mp hp]; exact .head _)) fun v own px' h' tk' hR hK hF hN hO =>
    ret v own px' h' tk' hR hK hF (fun p hp => by
      rcases List.mem_cons.mp hp with rfl | hp
      · exact hN _ (.head _)
      · rcases List.mem_append.mp hp with hp | hp
        · exact hN p (.tail _ hp)
        · exact ⟨hK _ _ (off p hp) (N p (.tail _ hp)).1, (N p (.tail _ hp)).2⟩)
      (fun p hp q hq e => by
        have h1 := (N q (.tail _ hq)).1
        rw [e, (hO p hp).2] at h1
        cases h1) fun p hp => (hO p hp).1
/-- an answer of a call that changes one object -/
theorem ret_mut {x : Addr} {px : Obj} {h₀ g h' : Heap} {L L' : Addr} {m m' : Str → Option Value} {s : Shared} {Q : Value → Shared → Prop} {R : Value → List (Addr × Obj) → Obj → Prop} {v : Value} {tk' : Nat} {nl : List (Addr × Obj)} (own : List (Addr × Obj))
    (hret : RetM x h₀ L m s Q R) (hg : KeptBut x s.heap g) (hR : R v own px) (F : Fr h₀ L h' m) (F' : Fr g L' h' m') (N : News h₀ L h' nl) (N' : News g L' h' nl) (hx : (x, px) ∈ nl) (hs : ∀ p ∈ own, p ∈ nl) (hne : ∀ p ∈ own, p.1 ≠ x) : Q v { s with heap := h', toks := tk' } :=
  hret v own px h' tk' hR (hg.fr F') F (fun p hp => (List.mem_cons.mp hp).elim (fun e => e ▸ N _ hx) fun hp => N p (hs p hp)) fun p hp => ⟨hne p hp, by
    cases q : s.heap.get? p.1 with
    | none => rfl
    | some o => have := (N' p (hs p hp)).2.2; rw [hg _ _ (hne p hp) q] at this; cases this⟩
section
variable {prog : Program} {w : World} {A₀ A : Around} {s : Shared} {base h₀ : Heap} {outer : List Env} {L : Addr} {m : Str → Option Value} {env : Env} {K : Frag} {p : Program} {loose : List Str} {mean : ExcName → Option Value} {mg mb : Str → Option Value}
  {Q E : Value → Shared → Prop} {name qual : Str} {params : Arguments} {body : List Stmt} {scope : Scope} {dV kV doc pm cdv ct oc : Value} {an od : Option Addr} {osl : Array (Option Value)} {f : Addr} {args : List Value} {binds : List (Str × Value)} {x : Addr} {px : Obj}
theorem enterM (B : Below A₀ base outer h₀) (F : Fr h₀ L s.heap m) (X₀ : K.In h₀) (T : Top p loose mean mg mb h₀) (Nx : News h₀ L s.heap [(x, px)]) (hA : A.frames = some (env :: outer)) (hf : env.frame = some L) (hke : env.scope.kind = .function)
    (ho : K.lookup f = some ⟨oc, od, .func (fnOf name qual params body scope dV kV doc pm an cdv ct), osl⟩) (hcd : codeIn K cdv qual = true) (hroom : A.depth < recursionLimit)
    (hbind : BindsTo s (fnOf name qual params body scope dV kV doc pm an cdv ct) ⟨args, []⟩ binds) (hloc : ∀ y ∈ binds, scope.names.lookup y.1 = some .local)
    (h : ∀ g L' h₁, KeptBut x s.heap g → Fr h₀ L g m → Fr g L' h₁ (fun y => binds.reverse.lookup y) → News g L' h₁ [(x, px)] → Below A base (env :: outer) g → K.In g → Top p loose mean mg mb g →
      wpAny (model prog w) (A.deeper (envOf qual scope L' f cdv)) (execs body (envOf qual scope L' f cdv))
        (fun fl s' => LeaveK h₀ L m g (fun r s' => match r with | .ok (.ret v) => Q v s' | .ok _ => False | .error e => E e s') (match fl with | .ret v => v | _ => .none) s')
        (fun e s' => wpAny (model prog w) (A.deeper (envOf qual scope L' f cdv)) (leaving (envOf qual scope L' f cdv) e) (fun _ s'' => E e s'') (fun e' s'' => E e' s'') s')
        { s with heap := h₁, toks := s.toks + binds.length })
    (hco : scope.isCoroutine = false) (hgen : scope.isGenerator = false) (hk : scope.kind = .function)
    (hcell : ∀ x ∈ scope.names, x.2 ≠ .cell) : wpAny (model prog w) A (call (.ref f) args) Q E s := by
  refine wpAny_call ?_
  obtain ⟨FG, BG, st, lv⟩ := groundX (R := fun r s' => match r with | .ok (.ret v) => Q v s' | .ok _ => False | .error e => E e s') (news := [(x, px)]) B F Nx hA hf hke
  have XK : K.In s.heap := X₀.keeps F.keep
  refine codeAny_call_def hroom (XK _ _ ho) rfl (T.nolimit.keeps F.keep) (codeRec_of XK hcd) rfl hbind hcell hloc (fun h₁ hns hk₁ => ?_) hco hgen hk
  have hx := Nx _ (.head _)
  refine wpAny_mono (h _ s.heap.objs.size h₁ (fun b o hn e => hideAll_get _ e (by simpa using hn)) FG ⟨hns, fun b o e => hk₁ b o (of_hideAll _ e), Nat.le_of_eq (hideAll_size _ _)⟩ (fun p hp => ?_) BG (X₀.keeps st) (T.keeps st)) (fun fl s' hl => lv _ _ hl) fun _ _ y => y
  rw [List.mem_singleton.mp hp]
  exact ⟨hk₁ _ _ hx.1, Nat.ne_of_lt (Heap.lt_size hx.1), hideAll_none _ (by simp)⟩
end
section
variable {prog : Program} {w : World} {A : Around} {E : Value → Shared → Prop} {s : Shared} {h₀ : Heap} {L : Addr} {m : Str → Option Value} {env : Env}
/-- an iterable whose iterator is one new object that holds all it needs -/
def Src (prog : Program) (w : World) (A : Around) (s : Shared) (xv : Value) (n : Nat) (P : Nat → Value → Prop) : Prop :=
  ∃ (o : Obj) (St : Nat → Heap → Prop), (∀ (Q E : Value → Shared → Prop), Q (.ref s.heap.objs.size) { s with heap := s.heap.push o } → wpAny (model prog w) A (pyIter xv) Q E s) ∧
    Walks prog w A s.heap.objs.size [s.heap.objs.size] [s.heap.objs.size] n P St ∧ (∀ i h, St i h → ∃ o, h.get? s.heap.objs.size = some o) ∧ St 0 (s.heap.push o)
theorem src_bytes {b : Array UInt8} {ks : List Int} {t : Tok} (hh : A.handled = none) (hb : KBw.bInts b = ks) : Src prog w A s (.bytes b t) ks.length (fun i v => ∃ k u, ks[i]? = some k ∧ v = .int k u) := by
  subst hb
  have W := KBw.walks (prog := prog) (w := w) hh s.heap.objs.size b t
  rw [KBw.ints_length]
  refine ⟨{ cls := .type "bytes_iterator", data := .fields #[.bytes b t, .int 0 0] }, (fun i h => KBw.IsBytesIter h s.heap.objs.size b t i), fun Q E hQ => KBw.pyIter_bytes hQ, ?_, fun i h st => ?_, ⟨_, Heap.get?_push_size _ rfl, rfl, rfl⟩⟩
  · exact { sub := W.sub, frame := W.frame, done := W.done, self := W.self, item := fun i s Q E hi st hQ => W.item i s Q E hi st fun v h' tk hP => hQ v h' tk (by obtain ⟨c, u, hc, rfl⟩ := hP; exact ⟨_, u, KBw.ints_get hc, rfl⟩) }
  · obtain ⟨o, ho, _⟩ := st
    exact ⟨o, ho⟩
theorem src_str {x : Str} {t : Tok} (hh : A.handled = none) : Src prog w A s (.str x t) x.cps.size (fun i v => ∃ c u, x.cps[i]? = some c ∧ v = .str ⟨#[c]⟩ u) := by
  cases ha : x.cps.all (· < 128)
  · exact ⟨_, _, fun Q E hQ => wpAny_pyIter_wide ha hQ, Walks.strWide hh _ x t, fun i h st => let ⟨o, ho, _⟩ := st; ⟨o, ho⟩, ⟨_, Heap.get?_push_size _ rfl, rfl, rfl⟩⟩
  · exact ⟨_, _, fun Q E hQ => wpAny_pyIter_ascii ha hQ, Walks.strAscii hh _ x t, fun i h st => let ⟨o, ho, _⟩ := st; ⟨o, ho⟩, ⟨_, Heap.get?_push_size _ rfl, rfl, rfl⟩⟩
theorem src_range {r : Addr} {a b c : Int} {t u v : Tok} {n : Nat} (hh : A.handled = none) (hr : IsRange s.heap r a b c t u v) (hsm : Builtin.Range.small a b c = true) (hn : Builtin.Range.rangeSize a b c = ((n : Nat) : Int)) :
    Src prog w A s (.ref r) n (fun i v => ∃ t, v = .int (a + (i : Int) * c) t) := by
  refine ⟨_, _, fun Q E hQ => wpAny_pyIter_range hr hsm hQ, Walks.range hh _ a c n, fun i h st => ⟨_, st⟩, ?_⟩
  show IsRangeIter _ _ _ _ _
  rw [hn]
  simpa using Heap.get?_push_size _ rfl

def CompOver (prog : Program) (w : World) (A : Around) (h₀ : Heap) (L : Addr) (m : Str → Option Value) (env : Env) (elt : Expr) (x : Str) (scope : Scope) (cl : List (Str × Addr)) (Q : Value → Shared → Prop) (xv : Value) (s₁ : Shared) : Prop :=
  ∃ n P news, Src prog w A s₁ xv n P ∧ Fr h₀ L s₁.heap m ∧ News h₀ L s₁.heap news ∧ n ≤ sizeLine ∧
      ∀ g, LCg.CompRest prog w A h₀ L m env elt x scope cl { s₁ with heap := g } (fun _ => True) P (LCg.FinE h₀ L m { s₁ with heap := g } Q) n 0 [] news
/-- a list comprehension without a test over such an iterable -/
theorem comp1 {elt iter : Expr} {x : Str} {px : Pos} {scope : Scope} {cl : List (Str × Addr)} {pos : Pos} {Q : Value → Shared → Prop} (_F₀ : Fr h₀ L s.heap m)
    (hclos : closureFor scope env = pure cl) (hcell : ∀ y ∈ scope.names, y.2 ≠ .cell) (hkind : scope.kind = .function)
    (hnames : ∀ y ∈ scope.names, y.2 = .local → scope.names.lookup y.1 = some .local) (hx : scope.names.lookup x = some .local)
    (h : wpAny (model prog w) A (eval iter env) (CompOver prog w A h₀ L m env elt x scope cl Q) E s)
    (hs : ∀ x, foldedSetIterable iter env x = pure x := by intro _; rfl) :
    wpAny (model prog w) A (eval (.ListComp elt [⟨.Name x px, iter, [], 0⟩] scope pos) env) Q E s := by
  rw [eval_ListComp]
  refine wpAny_comprehension_free (use := none) rfl hs hclos hkind hnames (wpAny_mono h (fun xv s₁ h₁ => ?_) fun _ _ e => e)
  obtain ⟨n, P, news, ⟨o, St, hit, W, hIo, hst⟩, F, N, hsz, R⟩ := h₁
  refine hit _ _ ?_
  refine LCg.block_U W hsz hIo (fun i h h' o nw st e e' _ _ _ => W.frame _ _ _ st fun b hb o' eb => ?_) hcell hkind hx hst (fun b hb => ?_)
    (F.keeps fun _ _ e => Heap.get?_push_of_some _ e) (N.grown fun _ _ e => Heap.get?_push_of_some _ e) (Nat.ne_of_lt F.ns.lt) (next_is_new F) (fun p hp => Nat.ne_of_lt (Heap.lt_size (N p hp).1)) trivial (R _) ?_
  · have hb' := List.mem_singleton.mp hb
    rw [hb'] at eb ⊢
    rw [e] at eb
    exact e'.trans eb
  · rw [List.mem_singleton.mp hb]
    show s₁.heap.objs.size < (s₁.heap.push _).objs.size
    rw [Heap.size_push]; exact Nat.lt_succ_self _
  · intro D C h tk m' ys news' F' N' o1 hn hC₀ hD₀ hCL hDL hCD offC fin
    refine ⟨m', hn, fun h'' hs'' => fin D h'' tk (F'.change hs'' hCL hC₀) (fun p hp => ?_) o1⟩
    refine ⟨hs''.extBut _ _ ?_ (N' p hp).1, (N' p hp).2⟩
    rcases List.mem_cons.mp hp with rfl | hp
    · exact Ne.symm hCD
    · exact offC p hp

/-- each turn by itself: the ledger stays, what is said of the i-th item is said of its value -/
theorem rest_each {elt : Expr} {x : Str} {scope : Scope} {cl : List (Str × Addr)} {S : List (Addr × Obj) → Prop} {P : Nat → Value → Prop} {Fin : List Value → List (Addr × Obj) → Prop} {n : Nat} {news : List (Addr × Obj)} (R : Nat → Value → Prop)
    (turn : ∀ i v I oI C oC D m₂ ys h tk (E' : Value → Shared → Prop), i < n → P i v → LCg.NsObj oC m₂ → m₂ x = some v → Fr h₀ L h m → News h₀ L h ((I, oI) :: (C, oC) :: (D, LCg.lst ys) :: news) → LCg.Off3 I C D news → ((@Ne Nat I C) ∧ (@Ne Nat I D) ∧ (@Ne Nat C D)) →
      wpAny (model prog w) A (eval elt (compEnvC scope cl C env)) (LCg.CompEnd h₀ L m { s with heap := h, toks := tk } I oI C oC D (LCg.lst ys) S (fun y news' => news' = news ∧ R i y)) E' { s with heap := h, toks := tk })
    (fin : ∀ ys, ys.length = n → (∀ i y, ys[i]? = some y → R i y) → Fin ys news) : LCg.CompRest prog w A h₀ L m env elt x scope cl s S P Fin n 0 [] news := by
  have key : ∀ (j i : Nat) (ys : List Value), i + j = n → ys.length = i → (∀ k y, ys[k]? = some y → R k y) → LCg.CompRest prog w A h₀ L m env elt x scope cl s S P Fin j i ys news := by
    intro j
    induction j with
    | zero =>
      intro i ys hi hl hy
      exact LCg.CompRest.zero (fin ys (by omega) hy)
    | succ j ih =>
      intro i ys hi hl hy
      refine LCg.CompRest.succ ?_
      intro v I oI C oC D m₂ h tk E' hv hC hx F N off ne
      refine wpAny_mono (turn i v I oI C oC D m₂ ys h tk E' (by omega) hv hC hx F N off ne) (fun y s₂ hq => ?_) fun _ _ e => e
      obtain ⟨h', tk', nw, e, F', N', off', hS, hn, hr⟩ := hq
      subst hn
      refine ⟨h', tk', nw, e, F', N', off', hS, ih (i + 1) (ys ++ [y]) (by omega) (by simp [hl]) fun k y' hk => ?_⟩
      rw [List.getElem?_append] at hk
      split at hk
      · exact hy k y' hk
      · rename_i hlt
        have h0 : k - ys.length = 0 := by
          cases q : k - ys.length with
          | zero => rfl
          | succ q' => rw [q] at hk; cases hk
        rw [h0] at hk
        have ek : k = i := by omega
        rw [ek]
        cases hk
        exact hr
  exact key n 0 [] (by omega) rfl (fun k y hk => by cases hk)

theorem ints_of_each {ks : List Int} : ∀ {ys : List Value}, ys.length = ks.length → (∀ i y, ys[i]? = some y → IsI (ks.getD i 0) y) → IntsAre ys ks := by
  induction ks with
  | nil => intro ys hl _; cases ys with | nil => exact .nil | cons _ _ => cases hl
  | cons k r ih =>
    intro ys hl h
    cases ys with
    | nil => cases hl
    | cons y ys =>
      obtain ⟨t, ht⟩ := h 0 y rfl
      have ht' : y = .int k t := ht
      subst ht'
      exact .cons k t (ih (by simpa using hl) fun i y' hy => h (i + 1) y' hy)
theorem strs_of_each {xs : List Str} : ∀ {ys : List Value}, ys.length = xs.length → (∀ i y, ys[i]? = some y → IsS (xs.getD i Str.empty) y) → StrsAre ys xs := by
  induction xs with
  | nil => intro ys hl _; cases ys with | nil => exact .nil | cons _ _ => cases hl
  | cons k r ih =>
    intro ys hl h
    cases ys with
    | nil => cases hl
    | cons y ys =>
      obtain ⟨t, ht⟩ := h 0 y rfl
      have ht' : y = .str k t := ht
      subst ht'
      exact .cons k t (ih (by simpa using hl) fun i y' hy => h (i + 1) y' hy)

/-- a for over such an iterable, by what holds between its turns -/
theorem loop1 {x : Str} {body : List Stmt} {Q : Flow → Shared → Prop} {xv : Value} {n : Nat} {P : Nat → Value → Prop} {m₀ : Str → Option Value} {news : List (Addr × Obj)} (S : Src prog w A s xv n P) (J : Nat → (Str → Option Value) → List (Addr × Obj) → Prop)
    (F : Fr h₀ env.locals s.heap m₀) (N : News h₀ env.locals s.heap news) (hj : J 0 m₀ news)
    (turn : ∀ i v m₁ news₁ h tk own, i < n → P i v → news₁.map (·.1) = news.map (·.1) → OwnOff own (news.map (·.1)) → J i m₁ news₁ → Fr h₀ env.locals h (fun y => if y = x then some v else m₁ y) → News h₀ env.locals h (news₁ ++ own) →
      wpAny (model prog w) A (execs body env) (InvPostN h₀ env.locals (J (i + 1)) own (news.map (·.1)) { s with heap := h, toks := tk } Q) E { s with heap := h, toks := tk })
    (done : ∀ m₁ news₁ h tk, J n m₁ news₁ → Fr h₀ env.locals h m₁ → News h₀ env.locals h news₁ → Q .next { s with heap := h, toks := tk }) :
    wpAny (model prog w) A (pyIter xv) (fun it s₂ => LoopAtV prog w A h₀ env x body Q E it s₂) E s := by
  obtain ⟨o, St, hit, W, hIo, hst⟩ := S
  refine hit _ _ ?_
  refine loop_invN J W ?_ ?_ ?_ ?_ hst (F.push _) (fun p hp => ⟨Heap.get?_push_of_some _ (N p hp).1, (N p hp).2⟩) hj turn done
  · intro hm
    exact absurd F.ns.lt ((List.mem_singleton.mp hm) ▸ Nat.lt_irrefl _)
  · intro b' hb
    rw [List.mem_singleton.mp hb]
    exact next_is_new F
  · intro p hp hI
    exact absurd (Heap.lt_size (N p hp).1) ((List.mem_singleton.mp hI) ▸ Nat.lt_irrefl _)
  · intro p hp hI
    exact absurd (Heap.lt_size (N p hp).1) ((List.mem_singleton.mp hI) ▸ Nat.lt_irrefl _)
end
def sgn (c : Nat) : Str := ⟨#[c]⟩
theorem join_sgns : ∀ cs : List Nat, Str.join (Str.ofString "") (cs.map sgn) = ⟨cs.toArray⟩
  | [] => rfl
  | [c] => rfl
  | c :: d :: r => by
    have ih := join_sgns (d :: r)
    have e : Str.join (Str.ofString "") ((c :: d :: r).map sgn) = sgn c ++ Str.ofString "" ++ Str.join (Str.ofString "") ((d :: r).map sgn) := rfl
    rw [e, ih]
    refine Str.ext' (Array.toList_inj.mp ?_)
    simp [Str.cps_append, sgn]
    rfl
theorem sgns_sum : ∀ cs : List Nat, ((cs.map sgn).map (·.length)).sum = cs.length
  | [] => rfl
  | c :: r => by
    have ih := sgns_sum r
    simp only [List.map_cons, List.sum_cons, List.length_cons, ih]
    show 1 + r.length = r.length + 1
    omega
theorem join_signs_L {prog : Program} {w : World} {A : Around} {E : Value → Shared → Prop} {s : Shared} {D : Addr} {ys : List Value} {cs : List Nat} {t : Tok} {Q : Value → Shared → Prop} (hl : s.heap.IsList D ys.toArray) (hi : StrsAre ys (cs.map sgn)) (hz : cs.length ≤ 100000)
    (h : ∀ t' k, Q (.str ⟨cs.toArray⟩ t') { s with toks := k }) : wpAny (model prog w) A (call (.builtin "str.join") [.str (Str.ofString "") t, .ref D]) Q E s := by
  refine join_listW hl hi (by decide) ?_ fun t' k => ?_
  · rw [sgns_sum, List.length_map]; omega
  · have e : Txt.join (Str.ofString "") (cs.map sgn) = ⟨cs.toArray⟩ := (StrLaws.glued_eq_join _ _).trans (join_sgns cs)
    rw [e]
    exact h t' k
/-- a for over a tuple of the call's own -/
theorem loopTup {prog : Program} {w : World} {A : Around} {E : Value → Shared → Prop} {s : Shared} {h₀ : Heap} {env : Env} {x : Str} {body : List Stmt} {Q : Flow → Shared → Prop} {D : Addr} {items : List Value} {k : Nat} {m₀ : Str → Option Value} {news : List (Addr × Obj)} (J : Nat → (Str → Option Value) → List (Addr × Obj) → Prop)
    (hh : A.handled = none) (F : Fr h₀ env.locals s.heap m₀) (N : News h₀ env.locals s.heap ((D, { cls := .type "tuple", data := .seq items.toArray k }) :: news)) (off : ∀ p ∈ news, p.1 ≠ D) (hj : J 0 m₀ news)
    (turn : ∀ i v m₁ news₁ h tk own, i < items.length → items[i]? = some v → news₁.map (·.1) = news.map (·.1) → OwnOff own (news.map (·.1)) → J i m₁ news₁ → Fr h₀ env.locals h (fun y => if y = x then some v else m₁ y) → News h₀ env.locals h (news₁ ++ own) →
      wpAny (model prog w) A (execs body env) (InvPostN h₀ env.locals (J (i + 1)) own (news.map (·.1)) { s with heap := h, toks := tk } Q) E { s with heap := h, toks := tk })
    (done : ∀ m₁ news₁ h tk, J items.length m₁ news₁ → Fr h₀ env.locals h m₁ → News h₀ env.locals h news₁ → Q .next { s with heap := h, toks := tk }) :
    wpAny (model prog w) A (pyIter (.ref D)) (fun it s₂ => LoopAtV prog w A h₀ env x body Q E it s₂) E s := by
  have hD := N _ (.head _)
  have N' : News h₀ env.locals s.heap news := fun p hp => N p (.tail _ hp)
  have ht : s.heap.IsTuple D items.toArray := ⟨_, hD.1, rfl, k, rfl⟩
  have hne : D ≠ s.heap.objs.size := Nat.ne_of_lt (Heap.lt_size hD.1)
  refine wpAny_pyIter_tuple ht ?_
  have W := Walks.tuple (prog := prog) (w := w) hh s.heap.objs.size D hne items.toArray
  rw [List.size_toArray] at W
  refine loop_invN J W ?_ ?_ ?_ ?_ ⟨⟨_, Heap.get?_push_size _ rfl, rfl, rfl⟩, ht.at fun o e => Heap.get?_push_of_some _ e⟩ (F.push _) (fun p hp => ⟨Heap.get?_push_of_some _ (N' p hp).1, (N' p hp).2⟩) hj ?_ done
  · intro hm
    rcases List.mem_cons.mp hm with e | hm
    · exact absurd F.ns.lt (e ▸ Nat.lt_irrefl _)
    · exact hD.2.1 (List.mem_singleton.mp hm).symm
  · intro b' hb
    rw [List.mem_singleton.mp hb]
    exact next_is_new F
  · intro p hp hI
    exact absurd (Heap.lt_size (N' p hp).1) ((List.mem_singleton.mp hI) ▸ Nat.lt_irrefl _)
  · intro p hp hI
    rcases List.mem_cons.mp hI with e | hI
    · exact absurd (Heap.lt_size (N' p hp).1) (e ▸ Nat.lt_irrefl _)
    · exact off p hp (List.mem_singleton.mp hI)
  · intro i v m₁ news₁ h tk own hi hv
    exact turn i v m₁ news₁ h tk own hi (by simpa using hv)
theorem with_map {h₀ h : Heap} {L : Addr} {m : Str → Option Value} {P : Prop} (F : Fr h₀ L h m) (k : ∀ m₀, m₀ = m → Fr h₀ L h m₀ → P) : P := k m rfl F
theorem map_over {x : Str} {u : Option Value} {v : Value} {m₀ : Str → Option Value} : (fun y => if y = x then some v else (fun z => if z = x then u else m₀ z) y) = fun z => if z = x then some v else m₀ z := by
  funext z
  by_cases h : z = x
  · simp [h]
  · simp [h]
theorem map_self {x : Str} {m₀ : Str → Option Value} : m₀ = fun z => if z = x then m₀ x else m₀ z := by
  funext z
  by_cases h : z = x <;> simp [h]
theorem strs_at {vs : List Value} {ys : List Str} (h : StrsAre vs ys) : ∀ {i : Nat} {v : Value}, vs[i]? = some v → ∃ y t, ys[i]? = some y ∧ v = .str y t := by
  induction h with
  | nil => intro i v e; cases e
  | cons y t _ ih =>
    intro i v e
    cases i with
    | zero => cases e; exact ⟨y, t, rfl, rfl⟩
    | succ i => exact ih (by simpa using e)
/-- the table after some names, all with one value -/
def fillAll (xs : List Str) (v : Value) (kvs : List (Str × Value)) : List (Str × Value) := xs.foldl (fun k x => stored k x v) kvs
theorem fillAll_succ {xs : List Str} {v : Value} {kvs : List (Str × Value)} {i : Nat} {x : Str} (h : xs[i]? = some x) : fillAll (xs.take (i + 1)) v kvs = stored (fillAll (xs.take i) v kvs) x v := by
  unfold fillAll
  rw [List.take_add_one, h]
  simp
theorem stored_len (kvs : List (Str × Value)) (k : Str) (v : Value) : (stored kvs k v).length ≤ kvs.length + 1 := by
  unfold stored
  split <;> simp
theorem fillAll_len (v : Value) : ∀ (xs : List Str) (kvs : List (Str × Value)), (fillAll xs v kvs).length ≤ kvs.length + xs.length
  | [], kvs => by simp [fillAll]
  | x :: r, kvs => by
    have ih := fillAll_len v r (stored kvs x v)
    have h := stored_len kvs x v
    show (fillAll r v (stored kvs x v)).length ≤ _
    simp only [List.length_cons]
    omega
/-- the end of a part: over what is left -/
def pe : List Int → Nat → Int
  | [], _ => -1
  | c :: r, i => if isWS c then pe r (i + 1) else if c = 63 then i else -1
def partEnd (ks : List Int) (i : Nat) : Int := pe (ks.drop i) i
theorem partEnd_step {ks : List Int} {i : Nat} (h : i < ks.length) (hw : isWS (ks.getD i 0) = true) : partEnd ks (i + 1) = partEnd ks i := by
  unfold partEnd
  rw [List.drop_eq_getElem_cons h, pe]
  have : ks.getD i 0 = ks[i] := by simp [List.getD_eq_getElem?_getD, h]
  rw [this] at hw
  rw [if_pos hw]
theorem partEnd_stop {ks : List Int} {i : Nat} (h : i < ks.length) (hw : isWS (ks.getD i 0) = false) : partEnd ks i = if ks.getD i 0 = 63 then (i : Int) else -1 := by
  unfold partEnd
  have e : ks.getD i 0 = ks[i] := by simp [List.getD_eq_getElem?_getD, h]
  rw [List.drop_eq_getElem_cons h, pe, ← e, if_neg (by rw [hw]; exact Bool.false_ne_true)]
theorem partEnd_out {ks : List Int} {i : Nat} (h : ks.length ≤ i) : partEnd ks i = -1 := by
  unfold partEnd
  rw [List.drop_eq_nil_of_le h, pe]
set_option maxHeartbeats 4000000 in
theorem part_end_ok (b : Array UInt8) (ks : List Int) (hb : KBw.bInts b = ks) (hk : ks.length ≤ 1000) (i : Nat) (t1 t2 : Tok) : PC 2 208 [.bytes b t1, .int i t2] (Im (IsI (partEnd ks i))) := by
  unfold PC
  k_fill
  intro w mean mg mb dp un gd cn cs a ccd cl outer A₀ base h₀ L m s Q E B F X T hcs hd hu hret
  (k_dflt (refine' enter ?zh1365k1 ?zh1365k2 ?zh1365k3 ?zh1365k5 ?zh1365kA ?zh1365kF ?zh1365kK ?zh1365k6 ?zh1365k7 ?zh1365k8 ?zh1365k9 ?zh1365kB ?_ ?zh1365c2 ?zh1365c3 ?zh1365c4 ?zh1365c5; (case zh1365kA => exact rfl); (case zh1365kF => exact rfl); (case zh1365kK => first | assumption | exact rfl); (case zh1365k1 => k_asm); (case zh1365k2 => k_asm); (case zh1365k3 => k_asm); (case zh1365k5 => k_asm); (case zh1365k6 => k_is); (case zh1365k7 => k_is); (case zh1365k8 => (first | exact room_1 hd rfl | exact room_0 hd | ktr_room)); (case zh1365k9 => exact BindsTo.of_eq rfl); (case zh1365c5 => decide); (case zh1365kB => exact locs rfl); (case zh1365c2 => exact rfl); (case zh1365c3 => exact rfl); (case zh1365c4 => exact rfl); k_whole; intro gzz Lzz hzz hgzz FGzz Fzz Nzz Bzz Xzz Tzz; (try dsimp only); (try k_lift Bzz); (try (show wpAny _ _ _ _ _ _)); (try k_fold)))
  (repeat' (first | (k_unfold; (try dsimp only)) | ((fail_if_success (with_reducible show KswEnd _ _ _ _ _ _ _ _ _ _ _ _)); (fail_if_success (with_reducible show InvEndN _ _ _ _ _ _ _)); (fail_if_success (with_reducible show wpAny _ _ (exec (Stmt.While _ _ _ _) _) _ _ _)); (fail_if_success (with_reducible show wpAny _ _ (exec (Stmt.For _ _ _ _ _) _) _ _ _)); (fail_if_success (with_reducible show wpAny _ _ (exec (Stmt.Assign _ (PySem.Expr.ListComp _ _ _ _) _) _) _ _ _)); (fail_if_success (with_reducible show wpAny _ _ (eval (PySem.Expr.ListComp _ _ _ _) _) _ _ _)); (first | (k_here; (with_reducible show wpAny _ _ (call (Value.ref 201) [Value.int _ _] _) _ _ _); k_dflt (refine' PC.use (is_word_sign_ok _ _) ?zh57515k1 ?zh57515k2 ?zh57515k3 ?zh57515k4 ?zh57515k5 ?zh57515kK ?zh57515kd ?zh57515ku ?_); (( (case zh57515k1 => k_asm); (case zh57515k2 => k_asm); (case zh57515k3 => k_asm); (case zh57515k4 => k_asm); (case zh57515k5 => k_asm); (case zh57515kK => first | exact rfl | assumption); (case zh57515kd => (first | exact room_1 hd rfl | exact room_0 hd | ktr_room)); (case zh57515ku => (first | exact unit_3 hu rfl | ktr_units)))); intro vzz ownzz hzz tkzz hRzz hKzz Fzz Nzz hUzz; clear hKzz hUzz; obtain ⟨hOzz, hVzz⟩ := hRzz; subst hOzz; unfold IsBo at hVzz; subst hVzz; (try simp only [List.nil_append] at Nzz); (try dsimp only)) | walk1 | (dsimp only; walk1))) | (leave1; walk_say "STEP leave1"; try dsimp only)))
  rename Fr _ _ _ _ => lF
  rename News _ _ _ _ => lN
  with_unfolding_all refine' ksw_while (σ := Int × Tok) (fun _ => ([] : List (Addr × Obj))) (fun c => [(Str.ofString "here", .int c.1 c.2)]) (fun _ => True) [] (fun c => ∃ j : Nat, c.1 = j ∧ partEnd ks j = partEnd ks i) (fun c => ks.length - c.1.toNat) ((i : Int), t2) lF lN trivial ?kk ⟨i, rfl, rfl⟩ ?_
  case kk => intro p hp; rw [List.mem_singleton.mp hp]; rfl
  clear lF lN
  rintro ⟨_, tj⟩ u h tk - ⟨j, hj, hP⟩ lF lN
  dsimp only at hj
  subst hj
  have e0 : ((j : Int)).toNat = j := Int.toNat_natCast j
  have hin : 0 ≤ ks.getD j 0 ∧ ks.getD j 0 < 256 := KBw.getD_in fun k hk => KBw.ints_in (b := b) (by rw [hb]; exact hk)
  dsimp only at lF ⊢
  show wpAny _ _ _ _ _ _
  k_fold
  (repeat' (first | (k_unfold; (try dsimp only)) | ((fail_if_success (with_reducible show KswEnd _ _ _ _ _ _ _ _ _ _ _ _)); (fail_if_success (with_reducible show InvEndN _ _ _ _ _ _ _)); (fail_if_success (with_reducible show wpAny _ _ (exec (Stmt.While _ _ _ _) _) _ _ _)); (fail_if_success (with_reducible show wpAny _ _ (exec (Stmt.For _ _ _ _ _) _) _ _ _)); (fail_if_success (with_reducible show wpAny _ _ (exec (Stmt.Assign _ (PySem.Expr.ListComp _ _ _ _) _) _) _ _ _)); (fail_if_success (with_reducible show wpAny _ _ (eval (PySem.Expr.ListComp _ _ _ _) _) _ _ _)); (first | (k_here; (with_reducible show wpAny _ _ (call (Value.ref 201) [Value.int _ _] _) _ _ _); k_dflt (refine' PC.use (is_word_sign_ok _ _) ?zh57515k1 ?zh57515k2 ?zh57515k3 ?zh57515k4 ?zh57515k5 ?zh57515kK ?zh57515kd ?zh57515ku ?_); (( (case zh57515k1 => k_asm); (case zh57515k2 => k_asm); (case zh57515k3 => k_asm); (case zh57515k4 => k_asm); (case zh57515k5 => k_asm); (case zh57515kK => first | exact rfl | assumption); (case zh57515kd => (first | exact room_1 hd rfl | exact room_0 hd | ktr_room)); (case zh57515ku => (first | exact unit_3 hu rfl | ktr_units)))); intro vzz ownzz hzz tkzz hRzz hKzz Fzz Nzz hUzz; clear hKzz hUzz; obtain ⟨hOzz, hVzz⟩ := hRzz; subst hOzz; unfold IsBo at hVzz; subst hVzz; (try simp only [List.nil_append] at Nzz); (try dsimp only)) | walk1 | (dsimp only; walk1))) | (leave1; walk_say "STEP leave1"; try dsimp only)))
  · rename _ = true => hw
    rw [e0, if_pos hin] at hw
    refine ksw_end ((j : Int) + 1, _) (by assumption) (by assumption) (fun _ hp => hp) trivial (fun p hp => (by rw [List.mem_singleton.mp hp]; rfl)) ?_ ⟨j + 1, by simp, (partEnd_step (by omega) hw).trans hP⟩ ?_
    · intro z h2 _
      have h2 := h2 _ (List.mem_singleton.mpr rfl)
      simp [h2, kstB]
    · dsimp only; omega
  · rename _ = false => hw
    rename _ = (63 : Int) => h63
    rw [e0, if_pos hin] at hw
    rw [e0] at h63
    refine ret_im hret (by assumption) ⟨_, congrArg (fun k => Value.int k _) ?_⟩ (by assumption) (by assumption)
    rw [← hP, partEnd_stop (by omega) hw, if_pos h63]
  · rename _ = false => hw
    rename _ ≠ (63 : Int) => h63
    rw [e0, if_pos hin] at hw
    rw [e0] at h63
    refine ret_im hret (by assumption) ⟨_, congrArg (fun k => Value.int k _) ?_⟩ (by assumption) (by assumption)
    rw [← hP, partEnd_stop (by omega) hw, if_neg h63]
  · refine ret_im hret (by assumption) ⟨_, congrArg (fun k => Value.int k _) ?_⟩ (by assumption) (by assumption)
    rw [← hP, partEnd_out (by omega)]
theorem part_end_okI (b : Array UInt8) (ks : List Int) (hb : KBw.bInts b = ks) (hk : ks.length ≤ 1000) (i : Int) (hi : 0 ≤ i) (t1 t2 : Tok) : PC 2 208 [.bytes b t1, .int i t2] (Im (IsI (partEnd ks i.toNat))) := by
  have h := part_end_ok b ks hb hk i.toNat t1 t2
  rw [Int.toNat_of_nonneg hi] at h
  exact h
set_option maxHeartbeats 4000000 in
theorem plain_text_ok (b : Array UInt8) (ks : List Int) (hb : KBw.bInts b = ks) (hk : ks.length ≤ 1000) (t1 : Tok) : PC 2 225 [.bytes b t1] (Im (IsS ⟨(ks.map Int.toNat).toArray⟩)) := by
  have hin : ∀ k ∈ ks, 0 ≤ k ∧ k < 256 := fun k hk => KBw.ints_in (b := b) (by rw [hb]; exact hk)
  unfold PC
  k_fill
  intro w mean mg mb dp un gd cn cs a ccd cl outer A₀ base h₀ L m s Q E B F X T hcs hd hu hret
  (k_dflt (refine' enter ?zh1365k1 ?zh1365k2 ?zh1365k3 ?zh1365k5 ?zh1365kA ?zh1365kF ?zh1365kK ?zh1365k6 ?zh1365k7 ?zh1365k8 ?zh1365k9 ?zh1365kB ?_ ?zh1365c2 ?zh1365c3 ?zh1365c4 ?zh1365c5; (case zh1365kA => exact rfl); (case zh1365kF => exact rfl); (case zh1365kK => first | assumption | exact rfl); (case zh1365k1 => k_asm); (case zh1365k2 => k_asm); (case zh1365k3 => k_asm); (case zh1365k5 => k_asm); (case zh1365k6 => k_is); (case zh1365k7 => k_is); (case zh1365k8 => (first | exact room_1 hd rfl | exact room_0 hd | ktr_room)); (case zh1365k9 => exact BindsTo.of_eq rfl); (case zh1365c5 => decide); (case zh1365kB => exact locs rfl); (case zh1365c2 => exact rfl); (case zh1365c3 => exact rfl); (case zh1365c4 => exact rfl); k_whole; intro gzz Lzz hzz hgzz FGzz Fzz Nzz Bzz Xzz Tzz; (try dsimp only); (try k_lift Bzz); (try (show wpAny _ _ _ _ _ _)); (try k_fold)))
  (repeat' (first | (k_unfold; (try dsimp only)) | ((fail_if_success (with_reducible show KswEnd _ _ _ _ _ _ _ _ _ _ _ _)); (fail_if_success (with_reducible show InvEndN _ _ _ _ _ _ _)); (fail_if_success (with_reducible show wpAny _ _ (exec (Stmt.While _ _ _ _) _) _ _ _)); (fail_if_success (with_reducible show wpAny _ _ (exec (Stmt.For _ _ _ _ _) _) _ _ _)); (fail_if_success (with_reducible show wpAny _ _ (exec (Stmt.Assign _ (PySem.Expr.ListComp _ _ _ _) _) _) _ _ _)); (fail_if_success (with_reducible show wpAny _ _ (eval (PySem.Expr.ListComp _ _ _ _) _) _ _ _)); (first | (k_here; (with_reducible show wpAny _ _ (call (Value.builtin "str.join") [Value.str _ _, Value.ref _]) _ _ _); k_dflt (refine' join_signs_L ?zh54658jl ?zh54658ji ?zh54658jz ?_; (case zh54658jl => is_list); (case zh54658ji => assumption); (case zh54658jz => first | omega | (simp only [List.length_map]; omega)); k_whole); intro _ _) | walk1 | (dsimp only; walk1))) | (leave1; walk_say "STEP leave1"; try dsimp only)))
  ((k_dflt refine comp1 (by k_asm) (by with_unfolding_all rfl) (by decide) (by rfl) (by decide) (by rfl) ?_))
  (repeat' (first | (k_unfold; (try dsimp only)) | ((fail_if_success (with_reducible show KswEnd _ _ _ _ _ _ _ _ _ _ _ _)); (fail_if_success (with_reducible show InvEndN _ _ _ _ _ _ _)); (fail_if_success (with_reducible show wpAny _ _ (exec (Stmt.While _ _ _ _) _) _ _ _)); (fail_if_success (with_reducible show wpAny _ _ (exec (Stmt.For _ _ _ _ _) _) _ _ _)); (fail_if_success (with_reducible show wpAny _ _ (exec (Stmt.Assign _ (PySem.Expr.ListComp _ _ _ _) _) _) _ _ _)); (fail_if_success (with_reducible show wpAny _ _ (eval (PySem.Expr.ListComp _ _ _ _) _) _ _ _)); (first | (k_here; (with_reducible show wpAny _ _ (call (Value.builtin "str.join") [Value.str _ _, Value.ref _]) _ _ _); k_dflt (refine' join_signs_L ?zh54658jl ?zh54658ji ?zh54658jz ?_; (case zh54658jl => is_list); (case zh54658ji => assumption); (case zh54658jz => first | omega | (simp only [List.length_map]; omega)); k_whole); intro _ _) | walk1 | (dsimp only; walk1))) | (leave1; walk_say "STEP leave1"; try dsimp only)))
  k_dflt refine ⟨_, _, [], src_bytes (by rfl) hb, by assumption, by assumption, ?_, fun g => rest_each (fun i y => IsS ⟨#[(ks.getD i 0).toNat]⟩ y) ?_ ?_⟩
  · rw [PySem.sizeLine_eq]; omega
  · rintro i v I oI C oC D m₂ ys h tk E' hi ⟨k, u, hk', rfl⟩ hC hx F' N' off ne
    have hkb := hin k (List.mem_of_getElem? hk')
    (repeat' (first | (k_unfold; (try dsimp only)) | ((fail_if_success (with_reducible show KswEnd _ _ _ _ _ _ _ _ _ _ _ _)); (fail_if_success (with_reducible show InvEndN _ _ _ _ _ _ _)); (fail_if_success (with_reducible show wpAny _ _ (exec (Stmt.While _ _ _ _) _) _ _ _)); (fail_if_success (with_reducible show wpAny _ _ (exec (Stmt.For _ _ _ _ _) _) _ _ _)); (fail_if_success (with_reducible show wpAny _ _ (exec (Stmt.Assign _ (PySem.Expr.ListComp _ _ _ _) _) _) _ _ _)); (fail_if_success (with_reducible show wpAny _ _ (eval (PySem.Expr.ListComp _ _ _ _) _) _ _ _)); (first | (k_here; (with_reducible show wpAny _ _ (call (Value.builtin "str.join") [Value.str _ _, Value.ref _]) _ _ _); k_dflt (refine' join_signs_L ?zh54658jl ?zh54658ji ?zh54658jz ?_; (case zh54658jl => is_list); (case zh54658ji => assumption); (case zh54658jz => first | omega | (simp only [List.length_map]; omega)); k_whole); intro _ _) | walk1 | (dsimp only; walk1))) | (leave1; walk_say "STEP leave1"; try dsimp only)))
    all_goals (refine ⟨_, congrArg (fun k : Int => Value.str ⟨#[k.toNat]⟩ _) ?_⟩; rw [List.getD_eq_getElem?_getD, hk']; rfl)
  · intro ys hl hy
    have hst : StrsAre ys ((ks.map Int.toNat).map sgn) := strs_of_each (by simpa using hl) fun i y h => (by
      have h' := hy i y h
      have hi : i < ks.length := by rw [← hl]; exact (List.getElem?_eq_some_iff.mp h).1
      rw [List.getD_eq_getElem?_getD, List.getElem?_map, List.getElem?_map, List.getElem?_eq_getElem hi]
      rw [List.getD_eq_getElem?_getD, List.getElem?_eq_getElem hi] at h'
      exact h')
    unfold LCg.FinE
    intro D h tk F' N' o1
    (repeat' (first | (k_unfold; (try dsimp only)) | ((fail_if_success (with_reducible show KswEnd _ _ _ _ _ _ _ _ _ _ _ _)); (fail_if_success (with_reducible show InvEndN _ _ _ _ _ _ _)); (fail_if_success (with_reducible show wpAny _ _ (exec (Stmt.While _ _ _ _) _) _ _ _)); (fail_if_success (with_reducible show wpAny _ _ (exec (Stmt.For _ _ _ _ _) _) _ _ _)); (fail_if_success (with_reducible show wpAny _ _ (exec (Stmt.Assign _ (PySem.Expr.ListComp _ _ _ _) _) _) _ _ _)); (fail_if_success (with_reducible show wpAny _ _ (eval (PySem.Expr.ListComp _ _ _ _) _) _ _ _)); (first | (k_here; (with_reducible show wpAny _ _ (call (Value.builtin "str.join") [Value.str _ _, Value.ref _]) _ _ _); k_dflt (refine' join_signs_L ?zh54658jl ?zh54658ji ?zh54658jz ?_; (case zh54658jl => is_list); (case zh54658ji => assumption); (case zh54658jz => first | omega | (simp only [List.length_map]; omega)); k_whole); intro _ _) | walk1 | (dsimp only; walk1))) | (leave1; walk_say "STEP leave1"; try dsimp only)))
    all_goals exact ret_im hret (by assumption) ⟨_, rfl⟩ (by assumption) (by assumption)
theorem dl_entry : entryFor table "dict.update.loop" = some Builtin.«dict.update.loop» := entryFor_of_tree (by kernel_rfl)
theorem dl_plain : plainId "dict.update.loop" = true := by decide +kernel
section
variable {prog : Program} {w : World} {A : Around} {E : Value → Shared → Prop} {s : Shared}
theorem getAttr?_keys_list {a : Addr} {xs : Array Value} {k : Nat} {sl : Array (Option Value)} {Q : Option Value → Shared → Prop}
    (hx : s.heap.get? a = some { cls := .type "list", dict := none, data := .seq xs k, slots := sl }) (hA : A.handled = none)
    (h : ∀ h' tk, (∀ b o, s.heap.get? b = some o → h'.get? b = some o) → Q none { s with heap := h', toks := tk }) :
    wpAny (model prog w) A (getAttr? (.ref a) "keys") Q E s := by
  obtain ⟨hp, g, d, tk, os⟩ := s
  have hT : ∀ tk', (⟨hp, g, d, tk', os⟩ : Shared).TypeIs (.ref a) "list" := fun _ => ⟨_, hx, rfl⟩
  have f1 := sub_AttributeError
  have f3 := F.slot_list_getattribute.lookup
  have f4 := F.slot_list_getattribute.bind (.ref a)
  have f5 := am_list_getattr_none
  unfold getAttr? getAttrBy? getAttrBy
  repeat (any_goals (first | assumption | exact hT _ | ((with_reducible show wpAny _ _ (call (Value.builtin "list.__getattribute__") _ _) _ _ _); refine call_meets F.slot_list_getattribute (hT _) am_entry_list_getattribute (F.args_list_getattribute_2 _ _) (meets_getattribute_miss_list a xs k sl "keys" _ (am_miss_of_fast (by decide +kernel)) (by decide +kernel) (by decide +kernel)) ⟨hx, hA, fun h' tk' e hx' => ?_⟩) | wp_step))
  have hkeep : ∀ b o, hp.get? b = some o → h'.get? b = some o := hx'.1
  obtain ⟨t', u', he⟩ := hx'.there
  show wpAny _ _ (getattributeRaised _ _ _ _ _ _ _) _ _ _
  unfold getattributeRaised
  repeat (any_goals (first | assumption | wp_step))
  exact h h' tk' hkeep
theorem keep_all {hb h h' : Heap} {wr : List Addr} (a : ∀ b o, b ∉ wr → hb.get? b = some o → h.get? b = some o) (c : ∀ b o, b ∉ wr → h.get? b = some o → h'.get? b = some o) : ∀ b o, b ∉ wr → hb.get? b = some o → h'.get? b = some o := fun b o n e => c b o n (a b o n e)
/-- the loop over pairs -/
theorem dict_loop {K : Type} [DecidableEq K] {knd : KeyKind prog w K} {I D : Addr} {fp : List Addr} {n : Nat} {P : Nat → Value → Prop} {St : Nat → Heap → Prop} {R : Result → Shared → Prop} (W : Walks prog w A.in1 I fp [I] n P St) (hDf : D ∉ fp) (hDI : D ≠ I)
    (hb : Heap) (kv : Nat → K × Value) (hval : ∀ i v, P i v → ∃ T key k, v = .ref T ∧ T ≠ D ∧ T ≠ I ∧ hb.get? T = some { cls := .type "tuple", data := .seq #[key, (kv i).2] k } ∧ knd.is (kv i).1 key = true) (hn : n + 1 < sizeLine) :
    ∀ (k i : Nat) (s : Shared) (t : Tok), n - i = k → i ≤ n → St i s.heap → (∀ b o, b ∉ [D, I] → hb.get? b = some o → s.heap.get? b = some o) →
      s.heap.DictOf knd D (merged [] ((List.range i).map kv)) →
      (∀ h' tk, (∀ b o, b ∉ [D, I] → hb.get? b = some o → h'.get? b = some o) → h'.DictOf knd D (merged [] ((List.range n).map kv)) → R (.ok (.ret .none)) { s with heap := h', toks := tk }) →
      codeAny (model prog w) A (.builtin "dict.update.loop" ⟨[.ref D, .ref I, .int i t, .none], []⟩) R s := by
  have hIf : ∀ b, b ∈ [I] → b ∈ [D, I] := fun b h => .tail _ h
  intro k
  induction k with
  | zero =>
    intro i s t hk hi hst hK hS hR
    have hin : i = n := by omega
    subst hin
    refine codeAny_builtin dl_entry ?_
    rw [Around.under_plainId dl_plain _]
    show wpAny _ A.in1 (pyNext (.ref I) >>= _) _ _ s
    refine wpAny_bind (W.done s _ _ hst fun h' tk hm => ?_)
    show wpAny _ A.in1 (Builtin.Dict.addKeywords D [] >>= _) _ _ _
    refine wpAny_bind (wpAny_pure (wpAny_pure (hR h' tk (fun b o n e => hm b o (fun q => n (hIf b q)) (hK b o n e)) ?_)))
    obtain ⟨o, es, ep, ho, rest⟩ := hS
    exact ⟨o, es, ep, hm D o (fun q => hDI (List.mem_singleton.mp q)) ho, rest⟩
  | succ k ih =>
    intro i s t hk hi hst hK hS hR
    have hlt : i < n := by omega
    refine codeAny_builtin dl_entry ?_
    rw [Around.under_plainId dl_plain _]
    show wpAny _ A.in1 (pyNext (.ref I) >>= _) _ _ s
    refine wpAny_bind (W.item i s _ _ hlt hst fun v h' tk hP hst' hm => ?_)
    obtain ⟨T, key, kt, rfl, hTD, hTI, hT, hkey⟩ := hval i v hP
    have hK' : ∀ b o, b ∉ [D, I] → hb.get? b = some o → h'.get? b = some o := fun b o n e => hm b o (fun q => n (hIf b q)) (hK b o n e)
    have hT' := hK' T _ (by simp [hTD, hTI]) hT
    have hS' : h'.DictOf knd D (merged [] ((List.range i).map kv)) := by
      obtain ⟨o, es, ep, ho, rest⟩ := hS
      exact ⟨o, es, ep, hm D o (fun q => hDI (List.mem_singleton.mp q)) ho, rest⟩
    have hTy : Shared.TypeIs { s with heap := h', toks := tk } (.ref T) "tuple" := ⟨_, hT', rfl⟩
    have hlen : (merged [] ((List.range i).map kv)).length ≤ sizeLine := by
      have := merged_length_le ([] : List (K × Value)) ((List.range i).map kv)
      simp only [List.length_nil, List.length_map, List.length_range] at this
      omega
    show wpAny _ A.in1 (holding [Value.ref T] _ >>= _) _ _ _
    refine wpAny_bind (wpAny_holding ?_)
    refine wpAny_bind (wpAny_tryCatch ?_)
    unfold Builtin.Dict.pairItems
    refine wpAny_bind (wpAny_typeOf hTy ?_)
    rw [if_pos (by decide)]
    refine wpAny_bind (wpAny_seqItems hT' rfl (wpAny_pure ?_))
    show wpAny _ A.in1 (holding [key, (kv i).2] (dictSet D key (kv i).2)) _ _ _
    refine wpAny_holding (wpAny_dictSet_pairs (hsz := hlen) hkey hS' fun h2 hS2 hsb => ?_)
    have hSi : h2.DictOf knd D (merged [] ((List.range (i + 1)).map kv)) := by
      have : merged [] ((List.range (i + 1)).map kv) = stored (merged [] ((List.range i).map kv)) (kv i).1 (kv i).2 := by
        rw [List.range_succ, List.map_append]; simp [merged]
      rw [this]; exact hS2
    refine wpAny_pure ⟨plainId_quiet dl_plain _, ih (i + 1) _ _ (by omega) hlt (W.frame _ _ _ hst' fun b hb o e => ?_) (fun b o n e => ?_) hSi fun h3 tk3 hK3 hS3 => ?_⟩
    · rw [hsb.2 b (fun h : b = D => hDf (by rw [← h]; exact hb))]; exact e
    · rw [hsb.2 b (fun h : b = D => n (by rw [h]; exact .head _))]; exact hK' b o n e
    · exact hR h3 tk3 hK3 hS3
theorem call_dict_pairs {K : Type} [DecidableEq K] {knd : KeyKind prog w K} {o : Addr} {items : Array Value} {ko : Nat} {sl : Array (Option Value)} {Q : Value → Shared → Prop} (hA : A.handled = none)
    (ho : s.heap.get? o = some { cls := .type "list", dict := none, data := .seq items ko, slots := sl }) (kv : Nat → K × Value)
    (hval : ∀ i v, items[i]? = some v → ∃ T key k, v = .ref T ∧ s.heap.get? T = some { cls := .type "tuple", data := .seq #[key, (kv i).2] k } ∧ knd.is (kv i).1 key = true) (hn : items.size + 1 < sizeLine)
    (h : ∀ h' tk, (∀ b o, s.heap.get? b = some o → h'.get? b = some o) → h'.DictOf knd s.heap.objs.size (merged [] ((List.range items.size).map kv)) → Q (.ref s.heap.objs.size) { s with heap := h', toks := tk }) :
    wpAny (model prog w) A (call (.type "dict") [.ref o]) Q E s := by
  refine callType_codes (Q₁ := fun obj s₁ => obj = .ref s.heap.objs.size ∧ s₁ = { s with heap := s.heap.push { cls := .type "dict", data := .dict #[] } }) F.kt_called_dict (F.kt_typeCall_dict_1 _) F.entry_dict_init (kt_code_dict_new _ ⟨rfl, rfl⟩) ?_
  rintro obj s₁ ⟨rfl, rfl⟩
  have hnew : (s.heap.push { cls := .type "dict", data := .dict #[] }).DictOf knd s.heap.objs.size [] := Heap.DictOf.new s.heap
  have ho' : (s.heap.push { cls := .type "dict", data := .dict #[] }).get? o = some _ := Heap.get?_push_of_some _ ho
  have hT : Shared.TypeIs { s with heap := s.heap.push { cls := .type "dict", data := .dict #[] } } (.ref o) "list" := ⟨_, ho', rfl⟩
  have hlt : o < s.heap.objs.size := Heap.lt_size ho
  refine ⟨hnew.typeIs, F.args_dict_init_2 _ _, ?_⟩
  unfold Builtin.«dict.__init__»
  refine wpAny_bind ?_
  unfold Builtin.Dict.selfAndRest
  refine wpAny_bind (wpAny_notOrdered_dict hnew.typeIs ?_)
  show wpAny _ _ (pure (s.heap.objs.size, [Value.ref o])) _ _ _
  refine wpAny_pure ?_
  show wpAny _ _ (Builtin.Dict.updateFrom "dict.__init__" s.heap.objs.size (.ref o) [] .none) _ _ _
  unfold Builtin.Dict.updateFrom
  refine wpAny_bind (wpAny_typeOf hT ?_)
  rw [if_pos (by decide)]
  have hA2 : A.in1.in1.handled = none := by simp [hA]
  refine wpAny_bind (getAttr?_keys_list ho' hA2 fun h1 t1 hk1 => ?_)
  rw [if_pos (by decide)]
  refine wpAny_bind (wpAny_rule ?_)
  have ho1 : h1.IsList o items := ⟨_, hk1 _ _ ho', rfl, _, rfl⟩
  refine wpAny_bind (wpAny_pyIter_list (s := { s with heap := h1, toks := t1 }) ho1 ?_)
  have hD1 : h1.get? s.heap.objs.size = some { cls := .type "dict", data := .dict #[] } := hk1 _ _ (Heap.get?_push_size _ rfl)
  have hDlt : s.heap.objs.size < h1.objs.size := Heap.lt_size hD1
  have holt : o < h1.objs.size := Heap.lt_size (hk1 _ _ ho')
  refine wpAny_pure ⟨plainId_quiet dl_plain _, ?_⟩
  have hA3 : A.in1.in1.handled = none := by simp [hA]
  refine dict_loop (knd := knd) (Walks.list hA3 h1.objs.size o (Nat.ne_of_lt holt) items) (by simp; exact ⟨Nat.ne_of_lt hDlt, Nat.ne_of_gt hlt⟩) (Nat.ne_of_lt hDlt) (h1.push { cls := .type "list_iterator", data := .fields #[.ref o, .int 0 0] }) kv (fun i v hv => ?_) hn items.size 0 _ _ (by omega) (by omega) ⟨⟨_, Heap.get?_push_size _ rfl, rfl, rfl⟩, ho1.push _⟩ (fun b o n e => e) ?_ ?_
  · obtain ⟨T, key, k, rfl, hT, hk⟩ := hval i v hv
    have hTlt := Heap.lt_size hT
    exact ⟨T, key, k, rfl, Nat.ne_of_lt hTlt, Nat.ne_of_lt (Nat.lt_trans hTlt hDlt), Heap.get?_push_of_some _ (hk1 _ _ (Heap.get?_push_of_some _ hT)), hk⟩
  · obtain ⟨o2, es, ep, hg, r⟩ := hnew
    exact ⟨o2, es, ep, Heap.get?_push_of_some _ (hk1 _ _ hg), r⟩
  · intro h' tk hK hS
    refine ⟨rfl, h h' tk (fun b o e => ?_) hS⟩
    have hlt := Heap.lt_size e
    refine hK b o ?_ (Heap.get?_push_of_some _ (hk1 _ _ (Heap.get?_push_of_some _ e)))
    simp only [List.mem_cons, List.mem_singleton, List.not_mem_nil, or_false, not_or]
    exact ⟨Nat.ne_of_lt hlt, Nat.ne_of_lt (Nat.lt_trans hlt hDlt)⟩
end
def lowN (c : Nat) : Nat := if 65 ≤ c ∧ c ≤ 90 then c + 32 else c
def lowS (x : Str) : Str := ⟨(x.cps.toList.map lowN).toArray⟩
theorem lowC_nat (c : Nat) : lowC (c : Int) = (lowN c : Nat) := by unfold lowC lowN; split <;> split <;> omega
set_option maxHeartbeats 4000000 in
theorem lower_text_ok (x : Str) (hx : x.cps.size ≤ 1000) (hc : ∀ c ∈ x.cps.toList, c < 1000) (t1 : Tok) : PC 3 90 [.str x t1] (Im (IsS (lowS x))) := by
  unfold PC
  k_fill
  intro w mean mg mb dp un gd cn cs a ccd cl outer A₀ base h₀ L m s Q E B F X T hcs hd hu hret
  (k_dflt (refine' enter ?zh1365k1 ?zh1365k2 ?zh1365k3 ?zh1365k5 ?zh1365kA ?zh1365kF ?zh1365kK ?zh1365k6 ?zh1365k7 ?zh1365k8 ?zh1365k9 ?zh1365kB ?_ ?zh1365c2 ?zh1365c3 ?zh1365c4 ?zh1365c5; (case zh1365kA => exact rfl); (case zh1365kF => exact rfl); (case zh1365kK => first | assumption | exact rfl); (case zh1365k1 => k_asm); (case zh1365k2 => k_asm); (case zh1365k3 => k_asm); (case zh1365k5 => k_asm); (case zh1365k6 => k_is); (case zh1365k7 => k_is); (case zh1365k8 => (first | exact room_1 hd rfl | exact room_0 hd | ktr_room)); (case zh1365k9 => exact BindsTo.of_eq rfl); (case zh1365c5 => decide); (case zh1365kB => exact locs rfl); (case zh1365c2 => exact rfl); (case zh1365c3 => exact rfl); (case zh1365c4 => exact rfl); k_whole; intro gzz Lzz hzz hgzz FGzz Fzz Nzz Bzz Xzz Tzz; (try dsimp only); (try k_lift Bzz); (try (show wpAny _ _ _ _ _ _)); (try k_fold)))
  (repeat' (first | (k_unfold; (try dsimp only)) | ((fail_if_success (with_reducible show KswEnd _ _ _ _ _ _ _ _ _ _ _ _)); (fail_if_success (with_reducible show InvEndN _ _ _ _ _ _ _)); (fail_if_success (with_reducible show wpAny _ _ (exec (Stmt.While _ _ _ _) _) _ _ _)); (fail_if_success (with_reducible show wpAny _ _ (exec (Stmt.For _ _ _ _ _) _) _ _ _)); (fail_if_success (with_reducible show wpAny _ _ (exec (Stmt.Assign _ (PySem.Expr.ListComp _ _ _ _) _) _) _ _ _)); (fail_if_success (with_reducible show wpAny _ _ (eval (PySem.Expr.ListComp _ _ _ _) _) _ _ _)); (first | (k_here; (with_reducible show wpAny _ _ (call (Value.builtin "str.join") [Value.str _ _, Value.ref _]) _ _ _); k_dflt (refine' join_signs_L ?zh54658jl ?zh54658ji ?zh54658jz ?_; (case zh54658jl => is_list); (case zh54658ji => assumption); (case zh54658jz => first | omega | (simp only [List.length_map]; omega)); k_whole); intro _ _) | (k_here; (with_reducible show wpAny _ _ (call (Value.ref 85) [Value.int _ _] _) _ _ _); k_dflt (refine' PC.use (lower_code_ok _ _) ?zh36715k1 ?zh36715k2 ?zh36715k3 ?zh36715k4 ?zh36715k5 ?zh36715kK ?zh36715kd ?zh36715ku ?_); (( (case zh36715k1 => k_asm); (case zh36715k2 => k_asm); (case zh36715k3 => k_asm); (case zh36715k4 => k_asm); (case zh36715k5 => k_asm); (case zh36715kK => first | exact rfl | assumption); (case zh36715kd => (first | exact room_1 hd rfl | exact room_0 hd | ktr_room)); (case zh36715ku => (first | exact unit_3 hu rfl | ktr_units)))); intro vzz ownzz hzz tkzz hRzz hKzz Fzz Nzz hUzz; clear hKzz hUzz; obtain ⟨hOzz, tVzz, hVzz⟩ := hRzz; subst hOzz hVzz; (try simp only [List.nil_append] at Nzz); (try dsimp only)) | walk1 | (dsimp only; walk1))) | (leave1; walk_say "STEP leave1"; try dsimp only)))
  ((k_dflt refine comp1 (by k_asm) (by with_unfolding_all rfl) (by decide) (by rfl) (by decide) (by rfl) ?_))
  (repeat' (first | (k_unfold; (try dsimp only)) | ((fail_if_success (with_reducible show KswEnd _ _ _ _ _ _ _ _ _ _ _ _)); (fail_if_success (with_reducible show InvEndN _ _ _ _ _ _ _)); (fail_if_success (with_reducible show wpAny _ _ (exec (Stmt.While _ _ _ _) _) _ _ _)); (fail_if_success (with_reducible show wpAny _ _ (exec (Stmt.For _ _ _ _ _) _) _ _ _)); (fail_if_success (with_reducible show wpAny _ _ (exec (Stmt.Assign _ (PySem.Expr.ListComp _ _ _ _) _) _) _ _ _)); (fail_if_success (with_reducible show wpAny _ _ (eval (PySem.Expr.ListComp _ _ _ _) _) _ _ _)); (first | (k_here; (with_reducible show wpAny _ _ (call (Value.builtin "str.join") [Value.str _ _, Value.ref _]) _ _ _); k_dflt (refine' join_signs_L ?zh54658jl ?zh54658ji ?zh54658jz ?_; (case zh54658jl => is_list); (case zh54658ji => assumption); (case zh54658jz => first | omega | (simp only [List.length_map]; omega)); k_whole); intro _ _) | (k_here; (with_reducible show wpAny _ _ (call (Value.ref 85) [Value.int _ _] _) _ _ _); k_dflt (refine' PC.use (lower_code_ok _ _) ?zh36715k1 ?zh36715k2 ?zh36715k3 ?zh36715k4 ?zh36715k5 ?zh36715kK ?zh36715kd ?zh36715ku ?_); (( (case zh36715k1 => k_asm); (case zh36715k2 => k_asm); (case zh36715k3 => k_asm); (case zh36715k4 => k_asm); (case zh36715k5 => k_asm); (case zh36715kK => first | exact rfl | assumption); (case zh36715kd => (first | exact room_1 hd rfl | exact room_0 hd | ktr_room)); (case zh36715ku => (first | exact unit_3 hu rfl | ktr_units)))); intro vzz ownzz hzz tkzz hRzz hKzz Fzz Nzz hUzz; clear hKzz hUzz; obtain ⟨hOzz, tVzz, hVzz⟩ := hRzz; subst hOzz hVzz; (try simp only [List.nil_append] at Nzz); (try dsimp only)) | walk1 | (dsimp only; walk1))) | (leave1; walk_say "STEP leave1"; try dsimp only)))
  k_dflt refine ⟨_, _, [], src_str (by rfl), by assumption, by assumption, ?_, fun g => rest_each (fun i y => IsS (sgn (lowN (x.cps.toList.getD i 0))) y) ?_ ?_⟩
  · rw [PySem.sizeLine_eq]; omega
  · rintro i v I oI C oC D m₂ ys h tk E' hi ⟨c, u, hk', rfl⟩ hC hx F' N' off ne
    have hcb : c < 1000 := hc c (by rw [Array.mem_toList_iff]; exact Array.mem_of_getElem? hk')
    have hlo := lowC_nat c
    have hlo2 : lowN c < 1032 := by unfold lowN; split <;> omega
    (repeat' (first | (k_unfold; (try dsimp only)) | ((fail_if_success (with_reducible show KswEnd _ _ _ _ _ _ _ _ _ _ _ _)); (fail_if_success (with_reducible show InvEndN _ _ _ _ _ _ _)); (fail_if_success (with_reducible show wpAny _ _ (exec (Stmt.While _ _ _ _) _) _ _ _)); (fail_if_success (with_reducible show wpAny _ _ (exec (Stmt.For _ _ _ _ _) _) _ _ _)); (fail_if_success (with_reducible show wpAny _ _ (exec (Stmt.Assign _ (PySem.Expr.ListComp _ _ _ _) _) _) _ _ _)); (fail_if_success (with_reducible show wpAny _ _ (eval (PySem.Expr.ListComp _ _ _ _) _) _ _ _)); (first | (k_here; (with_reducible show wpAny _ _ (call (Value.builtin "str.join") [Value.str _ _, Value.ref _]) _ _ _); k_dflt (refine' join_signs_L ?zh54658jl ?zh54658ji ?zh54658jz ?_; (case zh54658jl => is_list); (case zh54658ji => assumption); (case zh54658jz => first | omega | (simp only [List.length_map]; omega)); k_whole); intro _ _) | (k_here; (with_reducible show wpAny _ _ (call (Value.ref 85) [Value.int _ _] _) _ _ _); k_dflt (refine' PC.use (lower_code_ok _ _) ?zh36715k1 ?zh36715k2 ?zh36715k3 ?zh36715k4 ?zh36715k5 ?zh36715kK ?zh36715kd ?zh36715ku ?_); (( (case zh36715k1 => k_asm); (case zh36715k2 => k_asm); (case zh36715k3 => k_asm); (case zh36715k4 => k_asm); (case zh36715k5 => k_asm); (case zh36715kK => first | exact rfl | assumption); (case zh36715kd => (first | exact room_1 hd rfl | exact room_0 hd | ktr_room)); (case zh36715ku => (first | exact unit_3 hu rfl | ktr_units)))); intro vzz ownzz hzz tkzz hRzz hKzz Fzz Nzz hUzz; clear hKzz hUzz; obtain ⟨hOzz, tVzz, hVzz⟩ := hRzz; subst hOzz hVzz; (try simp only [List.nil_append] at Nzz); (try dsimp only)) | walk1 | (dsimp only; walk1))) | (leave1; walk_say "STEP leave1"; try dsimp only)))
    all_goals (
      refine ⟨_, congrArg (fun k => Value.str (sgn k) _) ?_⟩
      rw [hlo, Int.toNat_natCast, List.getD_eq_getElem?_getD, Array.getElem?_toList, hk']
      rfl)
  · intro ys hl hy
    have hst : StrsAre ys ((x.cps.toList.map lowN).map sgn) := strs_of_each (by simpa using hl) fun i y h => (by
      have h' := hy i y h
      have hi : i < x.cps.toList.length := by rw [Array.length_toList, ← hl]; exact (List.getElem?_eq_some_iff.mp h).1
      rw [List.getD_eq_getElem?_getD, List.getElem?_map, List.getElem?_map, List.getElem?_eq_getElem hi]
      rw [List.getD_eq_getElem?_getD, List.getElem?_eq_getElem hi] at h'
      exact h')
    unfold LCg.FinE
    intro D h tk F' N' o1
    have hsz : x.cps.toList.length ≤ 1000 := by simpa using hx
    (repeat' (first | (k_unfold; (try dsimp only)) | ((fail_if_success (with_reducible show KswEnd _ _ _ _ _ _ _ _ _ _ _ _)); (fail_if_success (with_reducible show InvEndN _ _ _ _ _ _ _)); (fail_if_success (with_reducible show wpAny _ _ (exec (Stmt.While _ _ _ _) _) _ _ _)); (fail_if_success (with_reducible show wpAny _ _ (exec (Stmt.For _ _ _ _ _) _) _ _ _)); (fail_if_success (with_reducible show wpAny _ _ (exec (Stmt.Assign _ (PySem.Expr.ListComp _ _ _ _) _) _) _ _ _)); (fail_if_success (with_reducible show wpAny _ _ (eval (PySem.Expr.ListComp _ _ _ _) _) _ _ _)); (first | (k_here; (with_reducible show wpAny _ _ (call (Value.builtin "str.join") [Value.str _ _, Value.ref _]) _ _ _); k_dflt (refine' join_signs_L ?zh54658jl ?zh54658ji ?zh54658jz ?_; (case zh54658jl => is_list); (case zh54658ji => assumption); (case zh54658jz => first | omega | (simp only [List.length_map]; omega)); k_whole); intro _ _) | (k_here; (with_reducible show wpAny _ _ (call (Value.ref 85) [Value.int _ _] _) _ _ _); k_dflt (refine' PC.use (lower_code_ok _ _) ?zh36715k1 ?zh36715k2 ?zh36715k3 ?zh36715k4 ?zh36715k5 ?zh36715kK ?zh36715kd ?zh36715ku ?_); (( (case zh36715k1 => k_asm); (case zh36715k2 => k_asm); (case zh36715k3 => k_asm); (case zh36715k4 => k_asm); (case zh36715k5 => k_asm); (case zh36715kK => first | exact rfl | assumption); (case zh36715kd => (first | exact room_1 hd rfl | exact room_0 hd | ktr_room)); (case zh36715ku => (first | exact unit_3 hu rfl | ktr_units)))); intro vzz ownzz hzz tkzz hRzz hKzz Fzz Nzz hUzz; clear hKzz hUzz; obtain ⟨hOzz, tVzz, hVzz⟩ := hRzz; subst hOzz hVzz; (try simp only [List.nil_append] at Nzz); (try dsimp only)) | walk1 | (dsimp only; walk1))) | (leave1; walk_say "STEP leave1"; try dsimp only)))
    all_goals exact ret_im hret (by assumption) ⟨_, rfl⟩ (by assumption) (by assumption)

def csTab1 : List Str := [Str.ofString "us-ascii", Str.ofString "ascii", Str.ofString "ansi_x3.4-1968", Str.ofString "iso_646.irv:1991", Str.ofString "iso-ir-6", Str.ofString "iso646-us", Str.ofString "us", Str.ofString "cp367", Str.ofString "ibm367"]
def csTab2 : List Str := [Str.ofString "iso-8859-1", Str.ofString "iso_8859-1", Str.ofString "iso_8859-1:1987", Str.ofString "iso-ir-100", Str.ofString "latin1", Str.ofString "l1", Str.ofString "cp819", Str.ofString "ibm819"]
def csTab3 : List Str := [Str.ofString "utf-8", Str.ofString "utf8"]
/-- what is unquoted, from an offset on -/
def unq (ks : List Int) : Nat → Nat → List Int
  | 0, _ => []
  | f + 1, i =>
    if i < ks.length then
      if ks.getD i 0 = 61 ∧ quotedAt ks i ≥ 0 then quotedAt ks i :: unq ks f (i + 3) else ks.getD i 0 :: unq ks f (i + 1)
    else []
theorem unq_more (ks : List Int) : ∀ f i, ks.length ≤ i + f → unq ks f i = unq ks (f + 1) i
  | 0, i, h => by
    have : ¬ i < ks.length := by omega
    simp [unq, this]
  | f + 1, i, h => by
    rw [unq, unq]
    split
    · split
      · rw [unq_more ks f (i + 3) (by omega)]
      · rw [unq_more ks f (i + 1) (by omega)]
    · rfl
theorem unq_any (ks : List Int) (f i : Nat) (h : ks.length ≤ i + f) : ∀ d, unq ks (f + d) i = unq ks f i
  | 0 => rfl
  | d + 1 => by rw [← Nat.add_assoc, ← unq_more ks (f + d) i (by omega)]; exact unq_any ks f i h d
def unqAll (ks : List Int) (i : Nat) : List Int := unq ks ks.length i
theorem unqAll_quoted {ks : List Int} {i : Nat} (h : i < ks.length) (h1 : ks.getD i 0 = 61) (h2 : 0 ≤ quotedAt ks i) : unqAll ks i = quotedAt ks i :: unqAll ks (i + 3) := by
  unfold unqAll
  obtain ⟨n, hn⟩ : ∃ n, ks.length = n + 1 := ⟨ks.length - 1, by omega⟩
  have e := unq_any ks n (i + 3) (by omega) 1
  rw [hn, unq, if_pos h, if_pos ⟨h1, h2⟩, ← e]
theorem unqAll_plain {ks : List Int} {i : Nat} (h : i < ks.length) (h1 : ks.getD i 0 ≠ 61 ∨ quotedAt ks i < 0) : unqAll ks i = ks.getD i 0 :: unqAll ks (i + 1) := by
  unfold unqAll
  obtain ⟨n, hn⟩ : ∃ n, ks.length = n + 1 := ⟨ks.length - 1, by omega⟩
  have e := unq_any ks n (i + 1) (by omega) 1
  rw [hn, unq, if_pos h, if_neg (fun q => h1.elim (fun x => x q.1) fun x => by omega), ← e]
theorem unqAll_end {ks : List Int} {i : Nat} (h : ks.length ≤ i) : unqAll ks i = [] := by
  unfold unqAll
  cases hn : ks.length with
  | zero => rfl
  | succ n => rw [unq, if_neg (by omega)]
theorem quoted_lt {ks : List Int} {i : Nat} : quotedAt ks i < 256 ∧ -1 ≤ quotedAt ks i := by
  have hw : ∀ c : Int, hexW c < 16 ∧ -1 ≤ hexW c := fun c => (by unfold hexW; (repeat' split) <;> omega)
  unfold quotedAt
  have a := hw (ks.getD (i + 1) 0)
  have b := hw (ks.getD (i + 2) 0)
  split
  · omega
  · split <;> omega
set_option maxHeartbeats 4000000 in
theorem unquoted_ok (b : Array UInt8) (ks : List Int) (hb : KBw.bInts b = ks) (hk : ks.length ≤ 1000) (t1 : Tok) : PC 3 187 [.bytes b t1] (Im (IsB (unqAll ks 0))) := by
  have hin : ∀ j, 0 ≤ ks.getD j 0 ∧ ks.getD j 0 < 256 := fun j => KBw.getD_in fun k hk => KBw.ints_in (b := b) (by rw [hb]; exact hk)
  unfold PC
  k_fill
  intro w mean mg mb dp un gd cn cs a ccd cl outer A₀ base h₀ L m s Q E B F X T hcs hd hu hret
  (k_dflt (refine' enter ?zh1365k1 ?zh1365k2 ?zh1365k3 ?zh1365k5 ?zh1365kA ?zh1365kF ?zh1365kK ?zh1365k6 ?zh1365k7 ?zh1365k8 ?zh1365k9 ?zh1365kB ?_ ?zh1365c2 ?zh1365c3 ?zh1365c4 ?zh1365c5; (case zh1365kA => exact rfl); (case zh1365kF => exact rfl); (case zh1365kK => first | assumption | exact rfl); (case zh1365k1 => k_asm); (case zh1365k2 => k_asm); (case zh1365k3 => k_asm); (case zh1365k5 => k_asm); (case zh1365k6 => k_is); (case zh1365k7 => k_is); (case zh1365k8 => (first | exact room_1 hd rfl | exact room_0 hd | ktr_room)); (case zh1365k9 => exact BindsTo.of_eq rfl); (case zh1365c5 => decide); (case zh1365kB => exact locs rfl); (case zh1365c2 => exact rfl); (case zh1365c3 => exact rfl); (case zh1365c4 => exact rfl); k_whole; intro gzz Lzz hzz hgzz FGzz Fzz Nzz Bzz Xzz Tzz; (try dsimp only); (try k_lift Bzz); (try (show wpAny _ _ _ _ _ _)); (try k_fold)))
  (repeat' (first | (k_unfold; (try dsimp only)) | ((fail_if_success (with_reducible show KswEnd _ _ _ _ _ _ _ _ _ _ _ _)); (fail_if_success (with_reducible show InvEndN _ _ _ _ _ _ _)); (fail_if_success (with_reducible show wpAny _ _ (exec (Stmt.While _ _ _ _) _) _ _ _)); (fail_if_success (with_reducible show wpAny _ _ (exec (Stmt.For _ _ _ _ _) _) _ _ _)); (fail_if_success (with_reducible show wpAny _ _ (exec (Stmt.Assign _ (PySem.Expr.ListComp _ _ _ _) _) _) _ _ _)); (fail_if_success (with_reducible show wpAny _ _ (eval (PySem.Expr.ListComp _ _ _ _) _) _ _ _)); (first | (k_here; (with_reducible show wpAny _ _ (call (Value.ref 180) [Value.bytes _ _, Value.int _ _] _) _ _ _); k_dflt (refine' PC.use (quoted_at_ok _ _ ?zh42081pb ?zh42081pk _ _ _) ?zh42081k1 ?zh42081k2 ?zh42081k3 ?zh42081k4 ?zh42081k5 ?zh42081kK ?zh42081kd ?zh42081ku ?_); (case zh42081pb => first | assumption | exact KBa.ints_make (by assumption)); (case zh42081pk => first | assumption | omega); (( (case zh42081k1 => k_asm); (case zh42081k2 => k_asm); (case zh42081k3 => k_asm); (case zh42081k4 => k_asm); (case zh42081k5 => k_asm); (case zh42081kK => first | exact rfl | assumption); (case zh42081kd => (first | exact room_1 hd rfl | exact room_0 hd | ktr_room)); (case zh42081ku => (first | exact unit_3 hu rfl | ktr_units)))); intro vzz ownzz hzz tkzz hRzz hKzz Fzz Nzz hUzz; clear hKzz hUzz; obtain ⟨hOzz, tVzz, hVzz⟩ := hRzz; subst hOzz hVzz; (try simp only [List.nil_append] at Nzz); (try dsimp only)) | walk1 | (dsimp only; walk1))) | (leave1; walk_say "STEP leave1"; try dsimp only)))
  rename Fr _ _ _ _ => lF
  rename News _ _ _ _ => lN
  with_unfolding_all refine' ksw_while (σ := (Int × Tok) × (List Value × List Int × Nat)) (fun c => [(_, W.listOf c.2.1.toArray c.2.2.2)]) (fun c => [(Str.ofString "at", .int c.1.1 c.1.2)]) (fun c => IntsAre c.2.1 c.2.2.1) [Str.ofString "code"] (fun c => ∃ j : Nat, c.1.1 = j ∧ j ≤ ks.length + 2 ∧ c.2.2.1.length ≤ j ∧ c.2.2.1 ++ unqAll ks j = unqAll ks 0 ∧ ∀ n ∈ c.2.2.1, 0 ≤ n ∧ n < 256) (fun c => ks.length + 3 - c.1.1.toNat) ((0, _), ([], [], 0)) lF lN .nil ?kk ⟨0, rfl, by omega, by simp, rfl, fun _ h => nomatch h⟩ ?_
  case kk => intro p hp; rw [List.mem_singleton.mp hp]; rfl
  clear lF lN
  rintro ⟨⟨_, tj⟩, ⟨vs, ns, nn⟩⟩ u h tk hvs ⟨j, hj, hjl, hnl, hP, hnb⟩ lF lN
  dsimp only at hj hvs hnl hP hnb
  subst hj
  have e0 : ((j : Int)).toNat = j := Int.toNat_natCast j
  have hjb := hin j
  have hq := @quoted_lt ks j
  dsimp only at lF lN ⊢
  show wpAny _ _ _ _ _ _
  k_fold
  (repeat' (first | (k_unfold; (try dsimp only)) | ((fail_if_success (with_reducible show KswEnd _ _ _ _ _ _ _ _ _ _ _ _)); (fail_if_success (with_reducible show InvEndN _ _ _ _ _ _ _)); (fail_if_success (with_reducible show wpAny _ _ (exec (Stmt.While _ _ _ _) _) _ _ _)); (fail_if_success (with_reducible show wpAny _ _ (exec (Stmt.For _ _ _ _ _) _) _ _ _)); (fail_if_success (with_reducible show wpAny _ _ (exec (Stmt.Assign _ (PySem.Expr.ListComp _ _ _ _) _) _) _ _ _)); (fail_if_success (with_reducible show wpAny _ _ (eval (PySem.Expr.ListComp _ _ _ _) _) _ _ _)); (first | (k_here; (with_reducible show wpAny _ _ (call (Value.ref 180) [Value.bytes _ _, Value.int _ _] _) _ _ _); k_dflt (refine' PC.use (quoted_at_ok _ _ ?zh42081pb ?zh42081pk _ _ _) ?zh42081k1 ?zh42081k2 ?zh42081k3 ?zh42081k4 ?zh42081k5 ?zh42081kK ?zh42081kd ?zh42081ku ?_); (case zh42081pb => first | assumption | exact KBa.ints_make (by assumption)); (case zh42081pk => first | assumption | omega); (( (case zh42081k1 => k_asm); (case zh42081k2 => k_asm); (case zh42081k3 => k_asm); (case zh42081k4 => k_asm); (case zh42081k5 => k_asm); (case zh42081kK => first | exact rfl | assumption); (case zh42081kd => (first | exact room_1 hd rfl | exact room_0 hd | ktr_room)); (case zh42081ku => (first | exact unit_3 hu rfl | ktr_units)))); intro vzz ownzz hzz tkzz hRzz hKzz Fzz Nzz hUzz; clear hKzz hUzz; obtain ⟨hOzz, tVzz, hVzz⟩ := hRzz; subst hOzz hVzz; (try simp only [List.nil_append] at Nzz); (try dsimp only)) | walk1 | (dsimp only; walk1))) | (leave1; walk_say "STEP leave1"; try dsimp only)))
  · rename _ = (61 : Int) => h61
    rename _ < (ks.length : Int) => hlt
    rename 0 ≤ quotedAt ks j => hq0
    rename News _ _ _ _ => nE
    simp only [List.push_toArray] at nE
    rw [e0] at h61
    have hlt' : j < ks.length := by omega
    refine' ksw_end (((j : Int) + 3, _), (_, ns ++ [quotedAt ks j], _)) (by assumption) nE ?a (IntsAre.append hvs (.cons _ _ .nil)) ?b ?c ⟨j + 3, by simp, by omega, by simp; omega, ?f, ?g⟩ ?h
    case a => intro p hp; rw [List.mem_singleton.mp hp]; exact List.Mem.head _
    case b => intro p hp; rw [List.mem_singleton.mp hp]; rfl
    case c =>
      intro z h2 h3
      have h2 := h2 _ (List.mem_singleton.mpr rfl)
      have h3' : z ≠ Str.ofString "code" := by simpa using h3
      simp [h2, h3', kstB]
    case f => rw [← hP, unqAll_quoted hlt' h61 hq0]; simp
    case g => intro n hn; rcases List.mem_append.mp hn with hn | hn; exact hnb n hn; rw [List.mem_singleton.mp hn]; omega
    case h => first | exact meas_1 (by assumption) | exact meas_i (by assumption) | exact meas_e (by assumption) (by assumption) | exact meas_p 0 (by assumption) | exact meas_p 2 (by assumption) | (dsimp only; omega)
  · rename _ = (61 : Int) => h61
    rename _ < (ks.length : Int) => hlt
    rename ¬ 0 ≤ quotedAt ks j => hq0
    rename News _ _ _ _ => nE
    simp only [List.push_toArray, e0] at nE
    have hlt' : j < ks.length := by omega
    refine' ksw_end (((j : Int) + 1, _), (_, ns ++ [ks.getD j 0], _)) (by assumption) nE ?a (IntsAre.append hvs (.cons _ _ .nil)) ?b ?c ⟨j + 1, by simp, by omega, by simp; omega, ?f, ?g⟩ ?h
    case a => intro p hp; rw [List.mem_singleton.mp hp]; exact List.Mem.head _
    case b => intro p hp; rw [List.mem_singleton.mp hp]; rfl
    case c =>
      intro z h2 h3
      have h2 := h2 _ (List.mem_singleton.mpr rfl)
      have h3' : z ≠ Str.ofString "code" := by simpa using h3
      simp [h2, h3', kstB]
    case f => rw [← hP, unqAll_plain hlt' (.inr (by omega))]; simp
    case g => intro n hn; rcases List.mem_append.mp hn with hn | hn; exact hnb n hn; rw [List.mem_singleton.mp hn]; omega
    case h => first | exact meas_1 (by assumption) | exact meas_i (by assumption) | exact meas_e (by assumption) (by assumption) | exact meas_p 0 (by assumption) | exact meas_p 2 (by assumption) | (dsimp only; omega)
  · rename _ ≠ (61 : Int) => h61
    rename _ < (ks.length : Int) => hlt
    rename News _ _ _ _ => nE
    simp only [List.push_toArray, e0] at nE
    rw [e0] at h61
    have hlt' : j < ks.length := by omega
    refine' ksw_end (((j : Int) + 1, _), (_, ns ++ [ks.getD j 0], _)) (by assumption) nE ?a (IntsAre.append hvs (.cons _ _ .nil)) ?b ?c ⟨j + 1, by simp, by omega, by simp; omega, ?f, ?g⟩ ?h
    case a => intro p hp; rw [List.mem_singleton.mp hp]; exact List.Mem.head _
    case b => intro p hp; rw [List.mem_singleton.mp hp]; rfl
    case c =>
      intro z h2 h3
      have h2 := h2 _ (List.mem_singleton.mpr rfl)
      have h3' : z ≠ Str.ofString "code" := by simpa using h3
      simp [h2, h3', kstB]
    case f => rw [← hP, unqAll_plain hlt' (.inl h61)]; simp
    case g => intro n hn; rcases List.mem_append.mp hn with hn | hn; exact hnb n hn; rw [List.mem_singleton.mp hn]; omega
    case h => first | exact meas_1 (by assumption) | exact meas_i (by assumption) | exact meas_e (by assumption) (by assumption) | exact meas_p 0 (by assumption) | exact meas_p 2 (by assumption) | (dsimp only; omega)
  · rename ¬ _ < (ks.length : Int) => hlt
    refine ret_im hret (by assumption) ⟨_, _, rfl, ?_⟩ (by assumption) (by assumption)
    rw [KBa.ints_make hnb, ← hP, unqAll_end (by omega), List.append_nil]
def blanks (ks : List Int) : List Int := ks.map fun c => if c = 95 then 32 else c
set_option maxHeartbeats 1000000 in
theorem word_q_decoded_ok (b : Array UInt8) (ks : List Int) (hb : KBw.bInts b = ks) (hk : ks.length ≤ 1000) (t1 : Tok) : PC 5 192 [.bytes b t1] (Im (IsB (unqAll (blanks ks) 0))) := by
  have hin : ∀ k ∈ ks, 0 ≤ k ∧ k < 256 := fun k hk => KBw.ints_in (b := b) (by rw [hb]; exact hk)
  unfold PC
  k_fill
  intro w mean mg mb dp un gd cn cs a ccd cl outer A₀ base h₀ L m s Q E B F X T hcs hd hu hret
  (k_dflt (refine' enter ?zh1365k1 ?zh1365k2 ?zh1365k3 ?zh1365k5 ?zh1365kA ?zh1365kF ?zh1365kK ?zh1365k6 ?zh1365k7 ?zh1365k8 ?zh1365k9 ?zh1365kB ?_ ?zh1365c2 ?zh1365c3 ?zh1365c4 ?zh1365c5; (case zh1365kA => exact rfl); (case zh1365kF => exact rfl); (case zh1365kK => first | assumption | exact rfl); (case zh1365k1 => k_asm); (case zh1365k2 => k_asm); (case zh1365k3 => k_asm); (case zh1365k5 => k_asm); (case zh1365k6 => k_is); (case zh1365k7 => k_is); (case zh1365k8 => (first | exact room_1 hd rfl | exact room_0 hd | ktr_room)); (case zh1365k9 => exact BindsTo.of_eq rfl); (case zh1365c5 => decide); (case zh1365kB => exact locs rfl); (case zh1365c2 => exact rfl); (case zh1365c3 => exact rfl); (case zh1365c4 => exact rfl); k_whole; intro gzz Lzz hzz hgzz FGzz Fzz Nzz Bzz Xzz Tzz; (try dsimp only); (try k_lift Bzz); (try (show wpAny _ _ _ _ _ _)); (try k_fold)))
  (repeat' (first | (k_unfold; (try dsimp only)) | ((fail_if_success (with_reducible show KswEnd _ _ _ _ _ _ _ _ _ _ _ _)); (fail_if_success (with_reducible show InvEndN _ _ _ _ _ _ _)); (fail_if_success (with_reducible show wpAny _ _ (exec (Stmt.While _ _ _ _) _) _ _ _)); (fail_if_success (with_reducible show wpAny _ _ (exec (Stmt.For _ _ _ _ _) _) _ _ _)); (fail_if_success (with_reducible show wpAny _ _ (exec (Stmt.Assign _ (PySem.Expr.ListComp _ _ _ _) _) _) _ _ _)); (fail_if_success (with_reducible show wpAny _ _ (eval (PySem.Expr.ListComp _ _ _ _) _) _ _ _)); (first | (k_here; (with_reducible show wpAny _ _ (call (Value.ref 187) [Value.bytes _ _] _) _ _ _); k_dflt (refine' PC.use (unquoted_ok _ _ ?zh4927pb ?zh4927pk _) ?zh4927k1 ?zh4927k2 ?zh4927k3 ?zh4927k4 ?zh4927k5 ?zh4927kK ?zh4927kd ?zh4927ku ?_); (case zh4927pb => first | assumption | exact KBa.ints_make (by assumption)); (case zh4927pk => first | assumption | omega); (( (case zh4927k1 => k_asm); (case zh4927k2 => k_asm); (case zh4927k3 => k_asm); (case zh4927k4 => k_asm); (case zh4927k5 => k_asm); (case zh4927kK => first | exact rfl | assumption); (case zh4927kd => (first | exact room_1 hd rfl | exact room_0 hd | ktr_room)); (case zh4927ku => (first | exact unit_3 hu rfl | ktr_units)))); intro vzz ownzz hzz tkzz hRzz hKzz Fzz Nzz hUzz; clear hKzz hUzz; obtain ⟨hOzz, bVzz, tVzz, hVzz, hBzz⟩ := hRzz; subst hOzz hVzz; (try simp only [List.nil_append] at Nzz); (try dsimp only)) | walk1 | (dsimp only; walk1))) | (leave1; walk_say "STEP leave1"; try dsimp only)))
  ((k_dflt refine comp1 (by k_asm) (by with_unfolding_all rfl) (by decide) (by rfl) (by decide) (by rfl) ?_))
  (repeat' (first | (k_unfold; (try dsimp only)) | ((fail_if_success (with_reducible show KswEnd _ _ _ _ _ _ _ _ _ _ _ _)); (fail_if_success (with_reducible show InvEndN _ _ _ _ _ _ _)); (fail_if_success (with_reducible show wpAny _ _ (exec (Stmt.While _ _ _ _) _) _ _ _)); (fail_if_success (with_reducible show wpAny _ _ (exec (Stmt.For _ _ _ _ _) _) _ _ _)); (fail_if_success (with_reducible show wpAny _ _ (exec (Stmt.Assign _ (PySem.Expr.ListComp _ _ _ _) _) _) _ _ _)); (fail_if_success (with_reducible show wpAny _ _ (eval (PySem.Expr.ListComp _ _ _ _) _) _ _ _)); (first | (k_here; (with_reducible show wpAny _ _ (call (Value.ref 187) [Value.bytes _ _] _) _ _ _); k_dflt (refine' PC.use (unquoted_ok _ _ ?zh4927pb ?zh4927pk _) ?zh4927k1 ?zh4927k2 ?zh4927k3 ?zh4927k4 ?zh4927k5 ?zh4927kK ?zh4927kd ?zh4927ku ?_); (case zh4927pb => first | assumption | exact KBa.ints_make (by assumption)); (case zh4927pk => first | assumption | omega); (( (case zh4927k1 => k_asm); (case zh4927k2 => k_asm); (case zh4927k3 => k_asm); (case zh4927k4 => k_asm); (case zh4927k5 => k_asm); (case zh4927kK => first | exact rfl | assumption); (case zh4927kd => (first | exact room_1 hd rfl | exact room_0 hd | ktr_room)); (case zh4927ku => (first | exact unit_3 hu rfl | ktr_units)))); intro vzz ownzz hzz tkzz hRzz hKzz Fzz Nzz hUzz; clear hKzz hUzz; obtain ⟨hOzz, bVzz, tVzz, hVzz, hBzz⟩ := hRzz; subst hOzz hVzz; (try simp only [List.nil_append] at Nzz); (try dsimp only)) | walk1 | (dsimp only; walk1))) | (leave1; walk_say "STEP leave1"; try dsimp only)))
  k_dflt refine ⟨_, _, [], src_bytes (by rfl) hb, by assumption, by assumption, ?_, fun g => rest_each (fun i y => IsI ((blanks ks).getD i 0) y) ?_ ?_⟩
  · rw [PySem.sizeLine_eq]; omega
  · rintro i v I oI C oC D m₂ ys h tk E' hi ⟨k, u, hk', rfl⟩ hC hx F' N' off ne
    have hkb := hin k (List.mem_of_getElem? hk')
    have hbl : (blanks ks).getD i 0 = if k = 95 then 32 else k := by
      unfold blanks
      rw [List.getD_eq_getElem?_getD, List.getElem?_map, hk']; rfl
    (repeat' (first | (k_unfold; (try dsimp only)) | ((fail_if_success (with_reducible show KswEnd _ _ _ _ _ _ _ _ _ _ _ _)); (fail_if_success (with_reducible show InvEndN _ _ _ _ _ _ _)); (fail_if_success (with_reducible show wpAny _ _ (exec (Stmt.While _ _ _ _) _) _ _ _)); (fail_if_success (with_reducible show wpAny _ _ (exec (Stmt.For _ _ _ _ _) _) _ _ _)); (fail_if_success (with_reducible show wpAny _ _ (exec (Stmt.Assign _ (PySem.Expr.ListComp _ _ _ _) _) _) _ _ _)); (fail_if_success (with_reducible show wpAny _ _ (eval (PySem.Expr.ListComp _ _ _ _) _) _ _ _)); (first | (k_here; (with_reducible show wpAny _ _ (call (Value.ref 187) [Value.bytes _ _] _) _ _ _); k_dflt (refine' PC.use (unquoted_ok _ _ ?zh4927pb ?zh4927pk _) ?zh4927k1 ?zh4927k2 ?zh4927k3 ?zh4927k4 ?zh4927k5 ?zh4927kK ?zh4927kd ?zh4927ku ?_); (case zh4927pb => first | assumption | exact KBa.ints_make (by assumption)); (case zh4927pk => first | assumption | omega); (( (case zh4927k1 => k_asm); (case zh4927k2 => k_asm); (case zh4927k3 => k_asm); (case zh4927k4 => k_asm); (case zh4927k5 => k_asm); (case zh4927kK => first | exact rfl | assumption); (case zh4927kd => (first | exact room_1 hd rfl | exact room_0 hd | ktr_room)); (case zh4927ku => (first | exact unit_3 hu rfl | ktr_units)))); intro vzz ownzz hzz tkzz hRzz hKzz Fzz Nzz hUzz; clear hKzz hUzz; obtain ⟨hOzz, bVzz, tVzz, hVzz, hBzz⟩ := hRzz; subst hOzz hVzz; (try simp only [List.nil_append] at Nzz); (try dsimp only)) | walk1 | (dsimp only; walk1))) | (leave1; walk_say "STEP leave1"; try dsimp only)))
    all_goals (refine ⟨_, congrArg (fun k : Int => Value.int k _) ?_⟩; rw [hbl]; simp [*])
  · intro ys hl hy
    have hst : IntsAre ys (blanks ks) := ints_of_each (by rw [hl]; unfold blanks; rw [List.length_map]) hy
    have hbn : ∀ k ∈ blanks ks, 0 ≤ k ∧ k < 256 := by
      intro k hk
      obtain ⟨c, hc, rfl⟩ := List.mem_map.mp hk
      have := hin c hc
      split <;> omega
    have hlen : (blanks ks).length = ks.length := by unfold blanks; rw [List.length_map]
    unfold LCg.FinE
    intro D h tk F' N' o1
    (repeat' (first | (k_unfold; (try dsimp only)) | ((fail_if_success (with_reducible show KswEnd _ _ _ _ _ _ _ _ _ _ _ _)); (fail_if_success (with_reducible show InvEndN _ _ _ _ _ _ _)); (fail_if_success (with_reducible show wpAny _ _ (exec (Stmt.While _ _ _ _) _) _ _ _)); (fail_if_success (with_reducible show wpAny _ _ (exec (Stmt.For _ _ _ _ _) _) _ _ _)); (fail_if_success (with_reducible show wpAny _ _ (exec (Stmt.Assign _ (PySem.Expr.ListComp _ _ _ _) _) _) _ _ _)); (fail_if_success (with_reducible show wpAny _ _ (eval (PySem.Expr.ListComp _ _ _ _) _) _ _ _)); (first | (k_here; (with_reducible show wpAny _ _ (call (Value.ref 187) [Value.bytes _ _] _) _ _ _); k_dflt (refine' PC.use (unquoted_ok _ _ ?zh4927pb ?zh4927pk _) ?zh4927k1 ?zh4927k2 ?zh4927k3 ?zh4927k4 ?zh4927k5 ?zh4927kK ?zh4927kd ?zh4927ku ?_); (case zh4927pb => first | assumption | exact KBa.ints_make (by assumption)); (case zh4927pk => first | assumption | omega); (( (case zh4927k1 => k_asm); (case zh4927k2 => k_asm); (case zh4927k3 => k_asm); (case zh4927k4 => k_asm); (case zh4927k5 => k_asm); (case zh4927kK => first | exact rfl | assumption); (case zh4927kd => (first | exact room_1 hd rfl | exact room_0 hd | ktr_room)); (case zh4927ku => (first | exact unit_3 hu rfl | ktr_units)))); intro vzz ownzz hzz tkzz hRzz hKzz Fzz Nzz hUzz; clear hKzz hUzz; obtain ⟨hOzz, bVzz, tVzz, hVzz, hBzz⟩ := hRzz; subst hOzz hVzz; (try simp only [List.nil_append] at Nzz); (try dsimp only)) | walk1 | (dsimp only; walk1))) | (leave1; walk_say "STEP leave1"; try dsimp only)))
    exact ret_im hret (by assumption) ⟨_, _, rfl, by assumption⟩ (by assumption) (by assumption)
section
variable {prog : Program} {w : World} {A : Around} {E : Value → Shared → Prop} {s : Shared} {h₀ : Heap} {L : Addr} {m : Str → Option Value} {env : Env}
/-- each turn from what holds to what holds, the ledger may grow -/
theorem rest_grow {elt : Expr} {x : Str} {scope : Scope} {cl : List (Str × Addr)} {S : List (Addr × Obj) → Prop} {P : Nat → Value → Prop} {Fin : List Value → List (Addr × Obj) → Prop} {n : Nat} {news : List (Addr × Obj)} (J : Nat → List Value → List (Addr × Obj) → Prop) (h0 : J 0 [] news)
    (turn : ∀ i v I oI C oC D m₂ ys nw h tk (E' : Value → Shared → Prop), i < n → P i v → J i ys nw → LCg.NsObj oC m₂ → m₂ x = some v → Fr h₀ L h m → News h₀ L h ((I, oI) :: (C, oC) :: (D, LCg.lst ys) :: nw) → LCg.Off3 I C D nw → ((@Ne Nat I C) ∧ (@Ne Nat I D) ∧ (@Ne Nat C D)) →
      wpAny (model prog w) A (eval elt (compEnvC scope cl C env)) (LCg.CompEnd h₀ L m { s with heap := h, toks := tk } I oI C oC D (LCg.lst ys) S (fun y nw' => J (i + 1) (ys ++ [y]) nw')) E' { s with heap := h, toks := tk })
    (fin : ∀ ys nw, J n ys nw → Fin ys nw) : LCg.CompRest prog w A h₀ L m env elt x scope cl s S P Fin n 0 [] news := by
  have key : ∀ (j i : Nat) (ys : List Value) (nw : List (Addr × Obj)), i + j = n → J i ys nw → LCg.CompRest prog w A h₀ L m env elt x scope cl s S P Fin j i ys nw := by
    intro j
    induction j with
    | zero =>
      intro i ys nw hi hj
      have : i = n := by omega
      subst this
      exact LCg.CompRest.zero (fin ys nw hj)
    | succ j ih =>
      intro i ys nw hi hj
      refine LCg.CompRest.succ ?_
      intro v I oI C oC D m₂ h tk E' hv hC hx F N off ne
      refine wpAny_mono (turn i v I oI C oC D m₂ ys nw h tk E' (by omega) hv hj hC hx F N off ne) (fun y s₂ hq => ?_) fun _ _ e => e
      obtain ⟨h', tk', nw', e, F', N', off', hS, hj'⟩ := hq
      exact ⟨h', tk', nw', e, F', N', off', hS, ih (i + 1) (ys ++ [y]) nw' (by omega) hj'⟩
  exact key n 0 [] news (by omega) h0
theorem comp_new_end {I C D T : Addr} {s₁ : Shared} {oI oC oD tup : Obj} {c : Addr × Obj} {nw : List (Addr × Obj)} {S : List (Addr × Obj) → Prop} {rest : Value → List (Addr × Obj) → Prop} {y : Value} {h' : Heap} {tk : Nat}
    (F : Fr h₀ L h' m) (N : News h₀ L h' ((T, tup) :: (I, oI) :: (C, oC) :: (D, oD) :: c :: nw)) (ne : (@Ne Nat T I) ∧ (@Ne Nat T C) ∧ (@Ne Nat T D)) (off : LCg.Off3 I C D nw) (hS : S ((T, tup) :: nw)) (r : rest y ((T, tup) :: nw)) :
    LCg.CompEnd h₀ L m s₁ I oI C oC D oD S rest y { s₁ with heap := h', toks := tk } :=
  LCg.CompEnd.intro F N ((T, tup) :: nw) (fun p hp => by
    simp only [List.mem_cons] at hp ⊢
    rcases hp with hp | hp | hp | hp | hp
    · exact .inr (.inl hp)
    · exact .inr (.inr (.inl hp))
    · exact .inr (.inr (.inr (.inl hp)))
    · exact .inl hp
    · exact .inr (.inr (.inr (.inr (.inr hp))))) ⟨ne, off⟩ hS r
theorem dict_pairs_F {K : Type} [DecidableEq K] {knd : KeyKind prog w K} {o : Addr} {ys : List Value} {news : List (Addr × Obj)} {Q : Value → Shared → Prop} (hA : A.handled = none) (F : Fr h₀ L s.heap m) (N : News h₀ L s.heap news) (hbig : h₀.NoLimit) (ho : (o, LCg.lst ys) ∈ news) (kv : Nat → K × Value)
    (hval : ∀ i v, ys[i]? = some v → ∃ T key k, v = .ref T ∧ (T, { cls := .type "tuple", data := .seq #[key, (kv i).2] k }) ∈ news ∧ knd.is (kv i).1 key = true) (hn : ys.length + 1 < sizeLine)
    (k : ∀ h' o' tk, Fr h₀ L h' m → News h₀ L h' ((s.heap.objs.size, o') :: news) → o'.IsDictOf knd (merged [] ((List.range ys.length).map kv)) → (∀ p ∈ news, p.1 ≠ s.heap.objs.size) → (s.heap.objs.size == sysModules) = false → Q (.ref s.heap.objs.size) { s with heap := h', toks := tk }) :
    wpAny (model prog w) A (call (.type "dict") [.ref o]) Q E s := by
  refine call_dict_pairs (knd := knd) (items := ys.toArray) (sl := #[]) hA (N _ ho).1 kv (fun i v hv => ?_) (by simpa using hn) fun h' tk hk hd => ?_
  · obtain ⟨T, key, k, rfl, hT, hkey⟩ := hval i v (by simpa using hv)
    exact ⟨T, key, k, rfl, (N _ hT).1, hkey⟩
  · rw [List.size_toArray] at hd
    obtain ⟨o', ho', hd'⟩ := Heap.dictOf_iff.mp hd
    have ap : ∀ p ∈ news, p.1 ≠ s.heap.objs.size := fun p hp => Nat.ne_of_lt (Heap.lt_size (N p hp).1)
    refine k h' o' tk (F.keeps hk) (fun p hp => ?_) hd' ap (F.notModules (modules_low hbig))
    rcases List.mem_cons.mp hp with rfl | hp
    · exact ⟨ho', Nat.ne_of_gt F.ns.lt, next_is_new F⟩
    · exact N.grown hk p hp
end
def sigs : List Int := (Str.ofString "ABCDEFGHIJKLMNOPQRSTUVWXYZabcdefghijklmnopqrstuvwxyz0123456789+/").cps.toList.map Int.ofNat
theorem sigs_len : sigs.length = 64 := by decide +kernel
def WorthR (v : Value) (own : List (Addr × Obj)) : Prop := ∃ (x : Addr) (o : Obj) (ts : Nat → Tok), v = .ref x ∧ own = [(x, o)] ∧ (x == sysModules) = false ∧ ∀ w, o.IsDictOf (intKind PySem.Challenge.rw_nz0298_01.row.prog w) ((List.range 64).map fun i => (sigs.getD i 0, .int (i : Int) (ts i)))
theorem pairs_w {p : Program} (w w' : World) {l : List DictEntry} {kvs : List (Int × Value)} (h : Pairs (PySem.intKind p w) l kvs) : Pairs (PySem.intKind p w') l kvs := by
  induction h with
  | nil => exact .nil
  | cons a b _ ih => exact .cons a b ih
theorem isDict_w {p : Program} (w w' : World) {o : Obj} {kvs : List (Int × Value)} (h : o.IsDictOf (PySem.intKind p w) kvs) : o.IsDictOf (PySem.intKind p w') kvs := by
  obtain ⟨es, ep, a, b, c, d, e⟩ := h
  exact ⟨es, ep, a, b, c, pairs_w w w' d, e⟩
set_option maxHeartbeats 1000000 in
theorem worth_table_ok (b : Array UInt8) (hb : KBw.bInts b = sigs) (t1 : Tok) : PC 3 26 [.bytes b t1] WorthR := by
  have hlen := sigs_len
  unfold PC
  k_fill
  intro w mean mg mb dp un gd cn cs a ccd cl outer A₀ base h₀ L m s Q E B F X T hcs hd hu hret
  (k_dflt (refine' enterC ?zh52620k1 ?zh52620k2 ?zh52620k3 ?zh52620k5 ?zh52620kA ?zh52620kF ?zh52620kK ?zh52620k6 ?zh52620k7 ?zh52620k8 ?zh52620k9 ?zh52620kB ?zh52620kD ?_ ?zh52620c2 ?zh52620c3 ?zh52620c4; (case zh52620kA => exact rfl); (case zh52620kF => exact rfl); (case zh52620kK => first | assumption | exact rfl); (case zh52620k1 => k_asm); (case zh52620k2 => k_asm); (case zh52620k3 => k_asm); (case zh52620k5 => k_asm); (case zh52620k6 => k_is); (case zh52620k7 => k_is); (case zh52620k8 => (first | exact room_1 hd rfl | exact room_0 hd | ktr_room)); (case zh52620k9 => exact BindsTo.of_eq rfl); (case zh52620kB => exact rfl); (case zh52620kD => decide +kernel); (case zh52620c2 => exact rfl); (case zh52620c3 => exact rfl); (case zh52620c4 => exact rfl); k_whole; intro gzz Lzz hzz tkzz cellszz hgzz FGzz Fzz Nzz Yzz Bzz Xzz Tzz; k_cells Yzz; (try dsimp only); (try k_lift Bzz); (try (show wpAny _ _ _ _ _ _)); (try k_fold)))
  (repeat' (first | (k_unfold; (try dsimp only)) | ((fail_if_success (with_reducible show KswEnd _ _ _ _ _ _ _ _ _ _ _ _)); (fail_if_success (with_reducible show InvEndN _ _ _ _ _ _ _)); (fail_if_success (with_reducible show wpAny _ _ (exec (Stmt.While _ _ _ _) _) _ _ _)); (fail_if_success (with_reducible show wpAny _ _ (exec (Stmt.For _ _ _ _ _) _) _ _ _)); (fail_if_success (with_reducible show wpAny _ _ (exec (Stmt.Assign _ (PySem.Expr.ListComp _ _ _ _) _) _) _ _ _)); (fail_if_success (with_reducible show wpAny _ _ (eval (PySem.Expr.ListComp _ _ _ _) _) _ _ _)); (first | walk1 | (dsimp only; walk1))) | (leave1; walk_say "STEP leave1"; try dsimp only)))
  ((k_dflt refine comp1 (by k_asm) (by with_unfolding_all rfl) (by decide) (by rfl) (by decide) (by rfl) ?_))
  (repeat' (first | (k_unfold; (try dsimp only)) | ((fail_if_success (with_reducible show KswEnd _ _ _ _ _ _ _ _ _ _ _ _)); (fail_if_success (with_reducible show InvEndN _ _ _ _ _ _ _)); (fail_if_success (with_reducible show wpAny _ _ (exec (Stmt.While _ _ _ _) _) _ _ _)); (fail_if_success (with_reducible show wpAny _ _ (exec (Stmt.For _ _ _ _ _) _) _ _ _)); (fail_if_success (with_reducible show wpAny _ _ (exec (Stmt.Assign _ (PySem.Expr.ListComp _ _ _ _) _) _) _ _ _)); (fail_if_success (with_reducible show wpAny _ _ (eval (PySem.Expr.ListComp _ _ _ _) _) _ _ _)); (first | walk1 | (dsimp only; walk1))) | (leave1; walk_say "STEP leave1"; try dsimp only)))
  rename IsRange _ _ _ _ _ _ _ _ => hR
  rename Fr _ _ _ _ => lF
  rename News _ _ _ _ => lN
  k_dflt refine ⟨_, _, _, src_range (n := 64) (by rfl) hR ?s1 ?s2, lF, lN, ?s3, fun g => rest_grow (fun i ys nw => (∀ p ∈ [(_, _)], p ∈ nw) ∧ ys.length = i ∧ ∀ j y, ys[j]? = some y → ∃ T t t' k, y = .ref T ∧ (T, { cls := .type "tuple", data := .seq #[.int (sigs.getD j 0) t, .int (j : Int) t'] k }) ∈ nw) ⟨fun p hp => hp, rfl, fun j y hj => by cases hj⟩ ?_ ?_⟩
  case s3 => decide
  case s1 => rw [hlen]; decide
  case s2 => rw [hlen]; decide
  · rintro i v I oI C oC D m₂ ys nw h tk E' hi ⟨tv, rfl⟩ ⟨hbase, hl, hy⟩ hC hx F₂ N₂ off ne
    have hc := hbase _ (.head _)
    have N₃ : News _ _ h ((I, oI) :: (C, oC) :: (D, LCg.lst ys) :: (_, _) :: nw) := fun p hp => N₂ p (by
      simp only [List.mem_cons] at hp ⊢
      rcases hp with hp | hp | hp | hp | hp
      · exact .inl hp
      · exact .inr (.inl hp)
      · exact .inr (.inr (.inl hp))
      · exact .inr (.inr (.inr (hp ▸ hc)))
      · exact .inr (.inr (.inr hp)))
    clear N₂
    (repeat' (first | (k_unfold; (try dsimp only)) | ((fail_if_success (with_reducible show KswEnd _ _ _ _ _ _ _ _ _ _ _ _)); (fail_if_success (with_reducible show InvEndN _ _ _ _ _ _ _)); (fail_if_success (with_reducible show wpAny _ _ (exec (Stmt.While _ _ _ _) _) _ _ _)); (fail_if_success (with_reducible show wpAny _ _ (exec (Stmt.For _ _ _ _ _) _) _ _ _)); (fail_if_success (with_reducible show wpAny _ _ (exec (Stmt.Assign _ (PySem.Expr.ListComp _ _ _ _) _) _) _ _ _)); (fail_if_success (with_reducible show wpAny _ _ (eval (PySem.Expr.ListComp _ _ _ _) _) _ _ _)); (first | walk1 | (dsimp only; walk1))) | (leave1; walk_say "STEP leave1"; try dsimp only)))
    rename I < _ ∧ _ => hlt
    rename News _ _ _ _ => nE
    simp only [Int.zero_add, Int.mul_one, Int.toNat_natCast] at nE
    refine comp_new_end (by assumption) nE ⟨Nat.ne_of_gt hlt.1, Nat.ne_of_gt hlt.2.1, Nat.ne_of_gt hlt.2.2.1⟩ off trivial ⟨fun p hp => .tail _ (hbase p hp), by simp [hl], ?jy⟩
    case jy =>
      intro j y hj
      rw [List.getElem?_append] at hj
      split at hj
      · obtain ⟨T, t, t', k, e, hm⟩ := hy j y hj
        exact ⟨T, t, t', k, e, .tail _ hm⟩
      · rename_i hlt2
        have hj0 : j - ys.length = 0 := by
          cases q : j - ys.length with
          | zero => rfl
          | succ q' => rw [q] at hj; cases hj
        rw [hj0] at hj
        have ej : j = i := by omega
        subst ej
        cases hj
        exact ⟨_, _, _, _, rfl, .head _⟩
  · rintro ys nw ⟨hbase, hl, hy⟩
    unfold LCg.FinE
    intro D h tk F' N' o1
    have hex : ∀ j : Nat, ∃ t' : Tok, ∀ y, ys[j]? = some y → ∃ T t k, y = .ref T ∧ (T, { cls := .type "tuple", data := .seq #[.int (sigs.getD j 0) t, .int (j : Int) t'] k }) ∈ nw := by
      intro j
      cases hj : ys[j]? with
      | none => exact ⟨0, fun y h => nomatch h⟩
      | some y =>
        obtain ⟨T, t, t', k, e, hm⟩ := hy j y hj
        exact ⟨t', fun y' h' => (by cases h'; exact ⟨T, t, k, e, hm⟩)⟩
    obtain ⟨ts, hts⟩ := Classical.axiomOfChoice hex
    clear hy hex
    (repeat' (first | (k_unfold; (try dsimp only)) | ((fail_if_success (with_reducible show KswEnd _ _ _ _ _ _ _ _ _ _ _ _)); (fail_if_success (with_reducible show InvEndN _ _ _ _ _ _ _)); (fail_if_success (with_reducible show wpAny _ _ (exec (Stmt.While _ _ _ _) _) _ _ _)); (fail_if_success (with_reducible show wpAny _ _ (exec (Stmt.For _ _ _ _ _) _) _ _ _)); (fail_if_success (with_reducible show wpAny _ _ (exec (Stmt.Assign _ (PySem.Expr.ListComp _ _ _ _) _) _) _ _ _)); (fail_if_success (with_reducible show wpAny _ _ (eval (PySem.Expr.ListComp _ _ _ _) _) _ _ _)); (first | walk1 | (dsimp only; walk1))) | (leave1; walk_say "STEP leave1"; try dsimp only)))
    k_dflt refine dict_pairs_F (knd := PySem.intKind _ _) (by rfl) F' N' (TopRead.nolimit (by k_asm)) (.head _) (fun i => (sigs.getD i 0, .int (i : Int) (ts i))) ?v (by rw [hl]; decide) ?k
    case v =>
      intro i v hv
      obtain ⟨T, t, k, e, hm⟩ := hts i v hv
      exact ⟨T, _, k, e, .tail _ hm, intKind_is _ _ _ _⟩
    case k =>
      intro h' o' tk' F2 N2 hd2 ap lo
      rw [hl, merged_nil_of_nodup _ (by rw [List.map_map]; show ((List.range 64).map fun i => sigs.getD i 0).Nodup; decide +kernel)] at hd2
      clear F' N' lF lN
      (repeat' (first | (k_unfold; (try dsimp only)) | ((fail_if_success (with_reducible show KswEnd _ _ _ _ _ _ _ _ _ _ _ _)); (fail_if_success (with_reducible show InvEndN _ _ _ _ _ _ _)); (fail_if_success (with_reducible show wpAny _ _ (exec (Stmt.While _ _ _ _) _) _ _ _)); (fail_if_success (with_reducible show wpAny _ _ (exec (Stmt.For _ _ _ _ _) _) _ _ _)); (fail_if_success (with_reducible show wpAny _ _ (exec (Stmt.Assign _ (PySem.Expr.ListComp _ _ _ _) _) _) _ _ _)); (fail_if_success (with_reducible show wpAny _ _ (eval (PySem.Expr.ListComp _ _ _ _) _) _ _ _)); (first | walk1 | (dsimp only; walk1))) | (leave1; walk_say "STEP leave1"; try dsimp only)))
      exact ret_own [_] hret (by assumption) ⟨_, _, ts, rfl, rfl, lo, fun w' => isDict_w w w' hd2⟩ (by assumption) (by assumption) (by assumption) (by assumption) (fun p hp => by rw [List.mem_singleton.mp hp]; exact .head _)
/-- a call that reads what stands in the heap -/
abbrev PCp (k : Nat) (f : Addr) (vs : List Value) (P : Heap → Prop) (R : Value → List (Addr × Obj) → Prop) : Prop :=
  ∀ (w : World) (mean : ExcName → Option Value) (mg mb : Str → Option Value)
    (dp un : Nat) (gd : Option (List Code)) (cn : Str) (cs : Scope) (a : Addr) (ccd : Value) (cl : List (Str × Addr)) (outer : List Env) (A₀ : Around) (base h₀ : Heap) (L : Addr) (m : Str → Option Value) (s : Shared) (Q E : Value → Shared → Prop),
    Below A₀ base outer h₀ → Fr h₀ L s.heap m → (fragK w.params).In h₀ → Top viewQ loose mean mg mb h₀ → cs.kind = .function →
    dp + k < recursionLimit → un + 8 * k < cLine → P s.heap → Ret h₀ L m s Q R →
      wpAny (model PySem.Challenge.rw_nz0298_01.row.prog w) (ktrTop dp un gd cn cs L a ccd cl outer) (call (.ref f) vs) Q E s
theorem PCp.use {k : Nat} {f : Addr} {vs : List Value} {P : Heap → Prop} {R : Value → List (Addr × Obj) → Prop} (c : PCp k f vs P R)
    {w : World} {mean : ExcName → Option Value} {mg mb : Str → Option Value} {news : List (Addr × Obj)}
    {dp un : Nat} {gd : Option (List Code)} {cn : Str} {cs : Scope} {a : Addr} {ccd : Value} {cl : List (Str × Addr)} {outer : List Env} {A₀ : Around} {base h₀ : Heap} {L : Addr} {m : Str → Option Value} {s : Shared} {Q E : Value → Shared → Prop}
    (B : Below A₀ base outer h₀) (F : Fr h₀ L s.heap m) (X : (fragK w.params).In h₀) (N : News h₀ L s.heap news) (T : Top viewQ loose mean mg mb h₀) (hk : cs.kind = .function)
    (hd : dp + k < recursionLimit) (hu : un + 8 * k < cLine) (hp : P s.heap)
    (ret : ∀ (v : Value) (own : List (Addr × Obj)) (h' : Heap) (tk' : Nat), R v own → Kept s.heap h' → Fr h₀ L h' m → News h₀ L h' (own ++ news) → (∀ p ∈ own, ∀ q ∈ news, q.1 ≠ p.1) → Q v { s with heap := h', toks := tk' }) :
    wpAny (model PySem.Challenge.rw_nz0298_01.row.prog w) (ktrTop dp un gd cn cs L a ccd cl outer) (call (.ref f) vs) Q E s :=
  c w mean mg mb dp un gd cn cs a ccd cl outer A₀ base h₀ L m s Q E B F X T hk hd hu hp fun v own h' tk' hR hK hF hN hO =>
    ret v own h' tk' hR hK hF (fun p hp => (List.mem_append.mp hp).elim (hN p) fun hp => ⟨hK _ _ (N p hp).1, (N p hp).2⟩) fun p hp q hq e => by
      have h1 := (N q hq).1
      rw [e, hO p hp] at h1
      cases h1
/-- a for over a list of the ground -/
theorem loopBase {prog : Program} {w : World} {A : Around} {E : Value → Shared → Prop} {s : Shared} {h₀ : Heap} {env : Env} {x : Str} {body : List Stmt} {Q : Flow → Shared → Prop} {D : Addr} {items : List Value} {m₀ : Str → Option Value} {news : List (Addr × Obj)} (J : Nat → (Str → Option Value) → List (Addr × Obj) → Prop)
    (hh : A.handled = none) (hl : h₀.IsList D items.toArray) (F : Fr h₀ env.locals s.heap m₀) (N : News h₀ env.locals s.heap news) (hj : J 0 m₀ news)
    (turn : ∀ i v m₁ news₁ h tk own, i < items.length → items[i]? = some v → news₁.map (·.1) = news.map (·.1) → OwnOff own (news.map (·.1)) → J i m₁ news₁ → Fr h₀ env.locals h (fun y => if y = x then some v else m₁ y) → News h₀ env.locals h (news₁ ++ own) →
      wpAny (model prog w) A (execs body env) (InvPostN h₀ env.locals (J (i + 1)) own (news.map (·.1)) { s with heap := h, toks := tk } Q) E { s with heap := h, toks := tk })
    (done : ∀ m₁ news₁ h tk, J items.length m₁ news₁ → Fr h₀ env.locals h m₁ → News h₀ env.locals h news₁ → Q .next { s with heap := h, toks := tk }) :
    wpAny (model prog w) A (pyIter (.ref D)) (fun it s₂ => LoopAtV prog w A h₀ env x body Q E it s₂) E s := by
  have hls : s.heap.IsList D items.toArray := hl.at fun o e => F.keep _ o e
  obtain ⟨oD, hoD, _⟩ := hl
  have hDlt : D < s.heap.objs.size := Heap.lt_size (F.keep _ _ hoD)
  have hne : D ≠ s.heap.objs.size := Nat.ne_of_lt hDlt
  refine wpAny_pyIter_list hls ?_
  have W := Walks.list (prog := prog) (w := w) hh s.heap.objs.size D hne items.toArray
  rw [List.size_toArray] at W
  refine loop_invN J W ?_ ?_ ?_ ?_ ⟨⟨_, Heap.get?_push_size _ rfl, rfl, rfl⟩, hls.push _⟩ (F.push _) (fun p hp => ⟨Heap.get?_push_of_some _ (N p hp).1, (N p hp).2⟩) hj ?_ done
  · intro hm
    rcases List.mem_cons.mp hm with e | hm
    · exact absurd F.ns.lt (e ▸ Nat.lt_irrefl _)
    · have := List.mem_singleton.mp hm
      have h2 := Heap.lt_size hoD
      rw [← this] at h2
      exact absurd h2 (Nat.not_lt.mpr F.above)
  · intro b' hb
    rw [List.mem_singleton.mp hb]
    exact next_is_new F
  · intro p hp hI
    exact absurd (Heap.lt_size (N p hp).1) ((List.mem_singleton.mp hI) ▸ Nat.lt_irrefl _)
  · intro p hp hI
    rcases List.mem_cons.mp hI with e | hI
    · exact absurd (Heap.lt_size (N p hp).1) (e ▸ Nat.lt_irrefl _)
    · have h1 := (N p hp).2.2
      rw [List.mem_singleton.mp hI, hoD] at h1
      cases h1
  · intro i v m₁ news₁ h tk own hi hv
    exact turn i v m₁ news₁ h tk own hi (by simpa using hv)
theorem ints_at {vs : List Value} {ys : List Int} (h : IntsAre vs ys) : ∀ {i : Nat} {v : Value}, vs[i]? = some v → ∃ y t, ys[i]? = some y ∧ v = .int y t := by
  induction h with
  | nil => intro i v e; cases e
  | cons y t _ ih =>
    intro i v e
    cases i with
    | zero => cases e; exact ⟨y, t, rfl, rfl⟩
    | succ i => exact ih (by simpa using e)
theorem map_two {x a : Str} {v : Value} {m₀ : Str → Option Value} (h : m₀ a = some v) : m₀ = fun z => if z = x then m₀ x else if z = a then some v else m₀ z := by
  funext z
  by_cases h1 : z = x
  · simp [h1]
  · by_cases h2 : z = a
    · rw [if_neg h1, if_pos h2]; exact (congrArg m₀ h2).trans h
    · simp only [if_neg h1, if_neg h2]
theorem map_three {x a : Str} {u w : Option Value} {v : Value} {m₀ : Str → Option Value} (n : x ≠ a) : (fun y => if y = a then some v else if y = x then u else if y = a then w else m₀ y) = fun z => if z = x then u else if z = a then some v else m₀ z := by
  funext z
  by_cases h1 : z = x
  · have h2 : ¬ z = a := fun e => n (h1.symm.trans e)
    rw [if_neg h2, if_pos h1, if_pos h1]
  · by_cases h2 : z = a
    · rw [if_pos h2, if_neg h1, if_pos h2]
    · rw [if_neg h2, if_neg h1, if_neg h2, if_neg h1, if_neg h2]
theorem ints_len {vs : List Value} {ys : List Int} (h : IntsAre vs ys) : vs.length = ys.length := by
  induction h with
  | nil => rfl
  | cons _ _ _ ih => simp [ih]
def packed (ns : List Int) : Int := ns.foldl (fun t n => 64 * t + n) 0
theorem packed_succ {ns : List Int} {i : Nat} {n : Int} (h : ns[i]? = some n) : packed (ns.take (i + 1)) = 64 * packed (ns.take i) + n := by
  unfold packed
  rw [List.take_add_one, h]
  simp [List.foldl_append]
def grpAt (ns : List Int) (i : Nat) : Int := Builtin.bitAnd (((packed ns).fdiv (2 ^ (6 * (ns.length : Int) - 8 * ((ns.length : Int) - 1)).toNat)).fdiv (2 ^ (8 * ((ns.length : Int) - 1 - 1 + (i : Int) * -1)).toNat)) 255
def grp (ns : List Int) : List Int := (List.range (ns.length - 1)).map (grpAt ns)
theorem grp_lt (ns : List Int) (i : Nat) : 0 ≤ grpAt ns i ∧ grpAt ns i < 256 := by
  unfold grpAt
  rw [bitAnd_m8]
  omega
def GrpR (ks : List Int) (v : Value) (own : List (Addr × Obj)) : Prop := ∃ x vb n t, v = .ref x ∧ own = [(x, { cls := .type "tuple", data := .seq #[vb, .int n t] })] ∧ IsB ks vb
set_option maxHeartbeats 1000000 in
theorem group_octets_ok (x : Addr) (vs : List Value) (ns : List Int) (hvs : IntsAre vs ns) (hns : ∀ n ∈ ns, 0 ≤ n ∧ n < 64) (h2 : 2 ≤ ns.length) (h4 : ns.length ≤ 4) : PCp 3 31 [.ref x] (fun h => h.IsList x vs.toArray) (GrpR (grp ns)) := by
  unfold PCp
  k_fill
  intro w mean mg mb dp un gd cn cs a ccd cl outer A₀ base h₀ L m s Q E B F X T hcs hd hu hP hret
  (k_dflt (refine' enterC ?zh52620k1 ?zh52620k2 ?zh52620k3 ?zh52620k5 ?zh52620kA ?zh52620kF ?zh52620kK ?zh52620k6 ?zh52620k7 ?zh52620k8 ?zh52620k9 ?zh52620kB ?zh52620kD ?_ ?zh52620c2 ?zh52620c3 ?zh52620c4; (case zh52620kA => exact rfl); (case zh52620kF => exact rfl); (case zh52620kK => first | assumption | exact rfl); (case zh52620k1 => k_asm); (case zh52620k2 => k_asm); (case zh52620k3 => k_asm); (case zh52620k5 => k_asm); (case zh52620k6 => k_is); (case zh52620k7 => k_is); (case zh52620k8 => (first | exact room_1 hd rfl | exact room_0 hd | ktr_room)); (case zh52620k9 => exact BindsTo.of_eq rfl); (case zh52620kB => exact rfl); (case zh52620kD => decide +kernel); (case zh52620c2 => exact rfl); (case zh52620c3 => exact rfl); (case zh52620c4 => exact rfl); k_whole; intro gzz Lzz hzz tkzz cellszz hgzz FGzz Fzz Nzz Yzz Bzz Xzz Tzz; k_cells Yzz; (try dsimp only); (try k_lift Bzz); (try (show wpAny _ _ _ _ _ _)); (try k_fold)))
  have hl : Heap.IsList _ x vs.toArray := hP.at fun o e => (by assumption : Kept s.heap _) _ o e
  clear hP
  (repeat' (first | (k_unfold; (try dsimp only)) | ((fail_if_success (with_reducible show KswEnd _ _ _ _ _ _ _ _ _ _ _ _)); (fail_if_success (with_reducible show InvEndN _ _ _ _ _ _ _)); (fail_if_success (with_reducible show wpAny _ _ (exec (Stmt.While _ _ _ _) _) _ _ _)); (fail_if_success (with_reducible show wpAny _ _ (exec (Stmt.For _ _ _ _ _) _) _ _ _)); (fail_if_success (with_reducible show wpAny _ _ (exec (Stmt.Assign _ (PySem.Expr.ListComp _ _ _ _) _) _) _ _ _)); (fail_if_success (with_reducible show wpAny _ _ (eval (PySem.Expr.ListComp _ _ _ _) _) _ _ _)); (first | walk1 | (dsimp only; walk1))) | (leave1; walk_say "STEP leave1"; try dsimp only)))
  (((rename Fr _ _ _ _ => lFzz); (with_unfolding_all refine' For_invVF lFzz ?zh39862k1 ?zh39862k2 ?_); (case zh39862k1 => exact rfl); (case zh39862k2 => exact rfl); (repeat' (first | (k_unfold; (try dsimp only)) | ((fail_if_success (with_reducible show wpAny _ _ (pyIter _) _ _ _)); (fail_if_success (with_reducible show wpAny _ _ (exec (Stmt.While _ _ _ _) _) _ _ _)); (fail_if_success (with_reducible show wpAny _ _ (exec (Stmt.For _ _ _ _ _) _) _ _ _)); (fail_if_success (with_reducible show wpAny _ _ (exec (Stmt.Assign _ (PySem.Expr.ListComp _ _ _ _) _) _) _ _ _)); (fail_if_success (with_reducible show wpAny _ _ (eval (PySem.Expr.ListComp _ _ _ _) _) _ _ _)); (first | walk1 | (dsimp only; walk1))) | (leave1; walk_say "STEP leave1"; try dsimp only)))))
  rename Fr _ _ _ _ => lF
  rename News _ _ _ _ => lN
  refine with_map lF ?_
  intro m₀ em lF2
  obtain ⟨tt0, htt⟩ : ∃ t, m₀ (Str.ofString "total") = some (.int 0 t) := ⟨_, by rw [em]; exact if_pos rfl⟩
  k_dflt refine loopBase (fun i m nx => ∃ tt u, nx = [(_, _)] ∧ m = fun z => if z = Str.ofString "number" then u else if z = Str.ofString "total" then some (.int (packed (ns.take i)) tt) else m₀ z) (by rfl) hl lF2 lN ⟨tt0, _, rfl, map_two htt⟩ ?_ ?_
  · rintro i v m₁ nx h tk own hi hv _ hoff ⟨tt, u, rfl, rfl⟩ F₁ N₁
    obtain ⟨n, tn, hn, rfl⟩ := ints_at hvs hv
    rw [map_over] at F₁
    subst em
    dsimp only at F₁
    simp only [List.cons_append, List.nil_append, List.map_cons, List.map_nil] at N₁ hoff
    clear htt lN lF lF2
    (repeat' (first | (k_unfold; (try dsimp only)) | ((fail_if_success (with_reducible show KswEnd _ _ _ _ _ _ _ _ _ _ _ _)); (fail_if_success (with_reducible show InvEndN _ _ _ _ _ _ _)); (fail_if_success (with_reducible show wpAny _ _ (exec (Stmt.While _ _ _ _) _) _ _ _)); (fail_if_success (with_reducible show wpAny _ _ (exec (Stmt.For _ _ _ _ _) _) _ _ _)); (fail_if_success (with_reducible show wpAny _ _ (exec (Stmt.Assign _ (PySem.Expr.ListComp _ _ _ _) _) _) _ _ _)); (fail_if_success (with_reducible show wpAny _ _ (eval (PySem.Expr.ListComp _ _ _ _) _) _ _ _)); (first | walk1 | (dsimp only; walk1))) | (leave1; walk_say "STEP leave1"; try dsimp only)))
    rename Fr _ _ _ _ => fE
    rw [← packed_succ hn] at fE
    refine InvEndN.intro fE (by assumption) ⟨_, _, rfl, map_three (by decide)⟩ rfl (fun p hp => ?_) (fun p hp => .tail _ hp)
    rw [List.mem_singleton.mp hp]; exact .head _
  rintro m₁ nx h tk ⟨tt, u, rfl, rfl⟩ F₁ N₁
  clear htt lN lF lF2
  subst em
  (repeat' (first | (k_unfold; (try dsimp only)) | ((fail_if_success (with_reducible show KswEnd _ _ _ _ _ _ _ _ _ _ _ _)); (fail_if_success (with_reducible show InvEndN _ _ _ _ _ _ _)); (fail_if_success (with_reducible show wpAny _ _ (exec (Stmt.While _ _ _ _) _) _ _ _)); (fail_if_success (with_reducible show wpAny _ _ (exec (Stmt.For _ _ _ _ _) _) _ _ _)); (fail_if_success (with_reducible show wpAny _ _ (exec (Stmt.Assign _ (PySem.Expr.ListComp _ _ _ _) _) _) _ _ _)); (fail_if_success (with_reducible show wpAny _ _ (eval (PySem.Expr.ListComp _ _ _ _) _) _ _ _)); (first | walk1 | (dsimp only; walk1))) | (leave1; walk_say "STEP leave1"; try dsimp only)))
  have hln : ns.length = 2 ∨ ns.length = 3 ∨ ns.length = 4 := by omega
  rw [show List.take vs.length ns = ns from List.take_of_length_le (Nat.le_of_eq (ints_len hvs).symm)] at *
  ((k_dflt refine comp1 (by k_asm) (by with_unfolding_all rfl) (by decide) (by rfl) (by decide) (by rfl) ?_))
  (repeat' (first | (k_unfold; (try dsimp only)) | ((fail_if_success (with_reducible show KswEnd _ _ _ _ _ _ _ _ _ _ _ _)); (fail_if_success (with_reducible show InvEndN _ _ _ _ _ _ _)); (fail_if_success (with_reducible show wpAny _ _ (exec (Stmt.While _ _ _ _) _) _ _ _)); (fail_if_success (with_reducible show wpAny _ _ (exec (Stmt.For _ _ _ _ _) _) _ _ _)); (fail_if_success (with_reducible show wpAny _ _ (exec (Stmt.Assign _ (PySem.Expr.ListComp _ _ _ _) _) _) _ _ _)); (fail_if_success (with_reducible show wpAny _ _ (eval (PySem.Expr.ListComp _ _ _ _) _) _ _ _)); (first | walk1 | (dsimp only; walk1))) | (leave1; walk_say "STEP leave1"; try dsimp only)))
  rename IsRange _ _ _ _ _ _ _ _ => hR
  k_dflt refine ⟨_, _, [(_, _)], src_range (n := ns.length - 1) (by rfl) hR ?s1 ?s2, by assumption, by assumption, ?s3, fun g => rest_each (fun i y => IsI (grpAt ns i) y) ?_ ?_⟩
  case s1 => rcases hln with h | h | h <;> rw [h] <;> decide
  case s2 => rcases hln with h | h | h <;> rw [h] <;> decide
  case s3 => rw [PySem.sizeLine_eq]; omega
  · rintro i v I oI C oC D m₂ ys h tk E' hi ⟨tv, rfl⟩ hC hx F₂ N₂ off ne
    (repeat' (first | (k_unfold; (try dsimp only)) | ((fail_if_success (with_reducible show KswEnd _ _ _ _ _ _ _ _ _ _ _ _)); (fail_if_success (with_reducible show InvEndN _ _ _ _ _ _ _)); (fail_if_success (with_reducible show wpAny _ _ (exec (Stmt.While _ _ _ _) _) _ _ _)); (fail_if_success (with_reducible show wpAny _ _ (exec (Stmt.For _ _ _ _ _) _) _ _ _)); (fail_if_success (with_reducible show wpAny _ _ (exec (Stmt.Assign _ (PySem.Expr.ListComp _ _ _ _) _) _) _ _ _)); (fail_if_success (with_reducible show wpAny _ _ (eval (PySem.Expr.ListComp _ _ _ _) _) _ _ _)); (first | walk1 | (dsimp only; walk1))) | (leave1; walk_say "STEP leave1"; try dsimp only)))
    exact ⟨_, _, _, rfl, by assumption, by assumption, off, trivial, rfl, _, rfl⟩
  · intro ys hl hy
    unfold LCg.FinE
    intro D h tk F' N' o1
    have hlen : (grp ns).length = ns.length - 1 := by unfold grp; rw [List.length_map, List.length_range]
    have hst : IntsAre ys (grp ns) := ints_of_each (by rw [hl, hlen]) fun i y h => (by
      have h' := hy i y h
      have hi : i < ns.length - 1 := by rw [← hl]; exact (List.getElem?_eq_some_iff.mp h).1
      unfold grp
      rw [List.getD_eq_getElem?_getD, List.getElem?_map, List.getElem?_range hi]
      exact h')
    have hbn : ∀ k ∈ grp ns, 0 ≤ k ∧ k < 256 := by
      intro k hk
      obtain ⟨i, hi, rfl⟩ := List.mem_map.mp hk
      exact grp_lt _ _
    have hlz : (grp ns).length ≤ 1000 := by omega
    (repeat' (first | (k_unfold; (try dsimp only)) | ((fail_if_success (with_reducible show KswEnd _ _ _ _ _ _ _ _ _ _ _ _)); (fail_if_success (with_reducible show InvEndN _ _ _ _ _ _ _)); (fail_if_success (with_reducible show wpAny _ _ (exec (Stmt.While _ _ _ _) _) _ _ _)); (fail_if_success (with_reducible show wpAny _ _ (exec (Stmt.For _ _ _ _ _) _) _ _ _)); (fail_if_success (with_reducible show wpAny _ _ (exec (Stmt.Assign _ (PySem.Expr.ListComp _ _ _ _) _) _) _ _ _)); (fail_if_success (with_reducible show wpAny _ _ (eval (PySem.Expr.ListComp _ _ _ _) _) _ _ _)); (first | walk1 | (dsimp only; walk1))) | (leave1; walk_say "STEP leave1"; try dsimp only)))
    exact ret_own [_] hret (by assumption) ⟨_, _, _, _, rfl, rfl, _, _, rfl, KBa.ints_make hbn⟩ (by assumption) (by assumption) (by assumption) (by assumption) (fun p hp => by rw [List.mem_singleton.mp hp]; exact .head _)
namespace BJ
open Builtin
theorem slot : Slot "bytes" "join" "bytes.join" :=
  .of (owner := "bytes") (n := "join") (by rw [typeLookup_type, builtinLookup_eq_fast]; kernel_rfl) (by decide +kernel) (by decide +kernel) (by decide +kernel)
    (by first | exact .inl (by decide +kernel) | exact .inr (by decide +kernel)) (by rw [isSubtype_type]; kernel_rfl)
theorem type : typeOf (.builtin "bytes.join") = pure (.type "method_descriptor") := by show builtinType _ = _; rw [builtinType_eq_fast]; kernel_rfl
theorem entry : entryFor table "bytes.join" = some Builtin.«bytes.join» := entryFor_of_tree (by kernel_rfl)
theorem args (a b : Value) : argsOk "bytes.join" ⟨[a, b], []⟩ := by
  unfold argsOk; rw [signature?_of (id := "bytes.join") (n := ['n', 'i', 'o', 'j']) (o := ['s', 'e', 't', 'y', 'b']) (by kernel_rfl) FB.owner_bytes]; kernel_rfl
theorem take_eq {id : String} {b : Array UInt8} {t : Tok} : Bytes.takeBufferQuiet? id (.bytes b t) 0 = pure (some (b, none)) := by
  unfold Bytes.takeBufferQuiet? Bytes.takeBuffer?
  simp only [KBy.special_eq KBy.look_buffer, KBy.own_buffer, pure_bind]
  rw [if_neg (by decide), show ((0 : Int) == Bytes.fullReadOnly) = false from (by decide), KBy.buffer_eq]
  rfl
theorem joined_nil_go : ∀ (l : List (Array UInt8)) (k : Nat) (out : Array UInt8), ((l.zipIdx k).foldl (fun out (p, i) => (if i > 0 then out ++ #[] else out) ++ p) out).toList = out.toList ++ (l.map (·.toList)).flatten
  | [], _, out => by simp
  | p :: r, k, out => by
    rw [List.zipIdx_cons, List.foldl_cons, joined_nil_go r (k + 1)]
    simp
theorem joined_nil (l : List (Array UInt8)) : Bytes.joined #[] l = ((l.map (·.toList)).flatten).toArray := by
  have := joined_nil_go l 0 #[]
  unfold Bytes.joined
  apply Array.toList_inj.mp
  simpa using this
theorem foldl_size : ∀ (l : List (Array UInt8)) (k : Nat), l.foldl (fun n b => n + b.size) k = k + (l.map (·.size)).sum
  | [], k => by simp
  | p :: r, k => by rw [List.foldl_cons, foldl_size r]; simp; omega
theorem flat_size (l : List (Array UInt8)) : ((l.map (·.toList)).flatten).toArray.size = (l.map (·.size)).sum := by
  simp [List.length_flatten, Function.comp_def]
theorem letGo_all {M : Model} {A : Around} {E : Value → Shared → Prop} {s : Shared} {Q : Unit → Shared → Prop} (h : Q () s) (keep : List Value) : ∀ l : List (Array UInt8 × Tok), wpAny M A (Bytes.joinLetGo (l.map fun p => (Value.bytes p.1 p.2, none)) keep) Q E s
  | [] => wpAny_pure h
  | p :: r => by
    rw [List.map_cons]
    unfold Bytes.joinLetGo
    refine wpAny_bind ?_
    unfold PySem.letGo
    refine wpAny_bind (wpAny_holding (wpAny_point ?_))
    unfold PySem.letGo
    exact wpAny_pure (letGo_all h keep r)
section
variable {prog : Program} {w : World} {A : Around} {E : Value → Shared → Prop} {s : Shared}
set_option maxHeartbeats 2000000 in
theorem join {D : Addr} {bs : List (Array UInt8 × Tok)} {t : Tok} {Q : Value → Shared → Prop} (hl : s.heap.IsList D (bs.map fun p => Value.bytes p.1 p.2).toArray)
    (hz : (bs.map fun p => p.1.size).sum ≤ 100000)
    (h : ∀ t' k, Q (.bytes ((bs.map fun p => p.1.toList).flatten).toArray t') { s with toks := k }) : wpAny (model prog w) A (call (.builtin "bytes.join") [.bytes #[] t, .ref D]) Q E s := by
  refine wpAny_call_entry slot (typeIs_bytes _ _ _) entry ?_ (args _ _)
  unfold Builtin.«bytes.join» Builtin.Bytes.joinM
  obtain ⟨o, ho, hc, nn, hdata⟩ := id hl
  refine wpAny_bind ?_
  show wpAny _ _ (pure (Value.bytes #[] t, Value.ref D)) _ _ _
  refine wpAny_pure ?_
  refine wpAny_bind ?_
  show wpAny _ _ (Bytes.joinItems (.ref D)) _ _ _
  unfold Bytes.joinItems
  refine wpAny_bind (wpAny_typeOf hl.typeIs ?_)
  rw [if_pos (by decide)]
  refine wpAny_pure ?_
  dsimp only
  refine wpAny_bind (wpAny_seqItems ho hdata ?_)
  dsimp only
  rw [if_pos (by decide)]
  have hnow : s.heap.IsList D (bs.map fun p => Value.bytes p.1 p.2).toArray := hl
  rcases bs with _ | ⟨x, _ | ⟨y, r⟩⟩
  case cons.nil =>
    show wpAny _ _ (typeOf (Value.bytes x.1 x.2) >>= fun v => _) _ _ _
    refine wpAny_bind (wpAny_typeOf (typeIs_bytes _ _ _) ?_)
    rw [if_pos (by decide)]
    refine wpAny_bind (wpAny_rule ?_)
    refine wpAny_pure ⟨_, rfl, ?_⟩
    have h2 : Q (.bytes x.1 x.2) s := by simpa using h x.2 s.toks
    exact h2
  all_goals
    refine wpAny_bind ?_
    rw [Std.Legacy.Range.forIn_eq_forIn_range']
    simp only [Std.Legacy.Range.size, Nat.sub_zero, Nat.add_sub_cancel, Nat.div_one]
  case' nil => generalize hbs : ([] : List (Array UInt8 × Tok)) = bs at *
  case' cons.cons => generalize hbs : x :: y :: r = bs at *
  all_goals
    clear hbs
    have hlen : (bs.map fun p => Value.bytes p.1 p.2).toArray.size = bs.length := by simp
    rw [hlen]
    refine wpAny_forIn_list _
      (fun rest b s' => ∃ i, s' = s ∧ rest = List.range' i (bs.length - i) ∧ i ≤ bs.length ∧ b = (((bs.take i).map (·.1)).toArray, (bs.take i).map fun p => (Value.bytes p.1 p.2, none)))
      _ ?_ ?_ _ _ ⟨0, rfl, by simp, Nat.zero_le _, rfl⟩
    · rintro x rest b s' ⟨i, rfl, hr, hi, rfl⟩
      have hlt : i < bs.length := by
        rcases Nat.lt_or_ge i bs.length with h | h
        · exact h
        · rw [Nat.sub_eq_zero_of_le h] at hr; simp at hr
      obtain ⟨rfl, hrest⟩ : x = i ∧ rest = List.range' (i + 1) (bs.length - (i + 1)) := by
        have e : bs.length - i = (bs.length - (i + 1)) + 1 := by omega
        rw [e, List.range'_succ] at hr
        injection hr with h1 h2
        exact ⟨h1, h2⟩
      have hany : ((bs.take x).map fun p => (Value.bytes p.1 p.2, (none : Option Value))).any (fun x => x.1.onHeap) = false := by
        rw [List.any_map, List.any_eq_false]; intro p hp; exact Bool.false_ne_true
      have hx : (bs.map fun p => Value.bytes p.1 p.2).toArray.getD x .none = .bytes (bs[x]).1 (bs[x]).2 := by
        simp [Array.getD, hlt]
      refine wpAny_bind (wpAny_seqItems ho hdata ?_)
      dsimp only
      rw [if_neg (by rw [hany]; decide), hx]
      refine wpAny_bind (wpAny_holding (wpAny_of_eq take_eq ?_))
      dsimp only
      refine wpAny_bind (wpAny_seqItems ho hdata ?_)
      dsimp only
      rw [if_neg (by rw [hlen]; simp)]
      refine wpAny_pure ⟨x + 1, rfl, hrest, by omega, ?_⟩
      have e1 : bs.take (x + 1) = bs.take x ++ [bs[x]] := by rw [List.take_add_one, List.getElem?_eq_getElem hlt]; rfl
      rw [e1, List.map_append, List.map_append]
      simp only [List.map_cons, List.map_nil, List.push_toArray]
    · rintro b s' ⟨i, rfl, hr, hi, rfl⟩
      have hin : i = bs.length := by
        rcases Nat.lt_or_ge i bs.length with h | h
        · have e : bs.length - i = (bs.length - (i + 1)) + 1 := by omega
          rw [e, List.range'_succ] at hr; exact nomatch hr
        · exact Nat.le_antisymm hi h
      subst hin
      rw [List.take_length]
      have hsum : ((bs.map (·.1)).map (·.size)).sum ≤ 100000 := by rw [List.map_map]; exact hz
      refine wpAny_bind (wpAny_of_eq (show Bytes.payload (.bytes #[] t) = pure #[] from rfl) ?_)
      rw [if_neg (by rw [KBy.tooLong_not (by rw [List.foldl_toArray, foldl_size]; simp only [Array.size_empty, Nat.zero_mul, Nat.zero_add]; omega)]; exact Bool.false_ne_true)]
      refine wpAny_bind (wpAny_mkBytes ?_ (by rw [joined_nil, flat_size, PySem.sizeLine_eq]; dsimp only; omega))
      refine wpAny_bind (wpAny_holding (wpAny_point ?_))
      refine wpAny_bind (letGo_all ?_ _ bs)
      refine wpAny_pure ⟨_, rfl, ?_⟩
      have h2 := h s'.toks (s'.toks + 1)
      rw [joined_nil]
      rw [List.map_map]
      exact h2
end
end BJ
/-- values of bytes -/
inductive BytesAre : List Value → List (List Int) → Prop
  | nil : BytesAre [] []
  | cons {v : Value} {k : List Int} {vs : List Value} {ks : List (List Int)} : IsB k v → BytesAre vs ks → BytesAre (v :: vs) (k :: ks)
theorem BytesAre.append {vs : List Value} {ks : List (List Int)} (h : BytesAre vs ks) {v : Value} {k : List Int} (hv : IsB k v) : BytesAre (vs ++ [v]) (ks ++ [k]) := by
  induction h with
  | nil => exact .cons hv .nil
  | cons a _ ih => exact .cons a ih
theorem BytesAre.out {vs : List Value} {ks : List (List Int)} (h : BytesAre vs ks) : ∃ bs : List (Array UInt8 × Tok), vs = bs.map (fun p => .bytes p.1 p.2) ∧ bs.map (fun p => KBw.bInts p.1) = ks := by
  induction h with
  | nil => exact ⟨[], rfl, rfl⟩
  | cons a _ ih =>
    obtain ⟨b, t, rfl, rfl⟩ := a
    obtain ⟨bs, rfl, rfl⟩ := ih
    exact ⟨(b, t) :: bs, rfl, rfl⟩
theorem BytesAre.len {vs : List Value} {ks : List (List Int)} (h : BytesAre vs ks) : vs.length = ks.length := by
  induction h with
  | nil => rfl
  | cons _ _ ih => simp [ih]
theorem bInts_flat (bs : List (Array UInt8 × Tok)) : KBw.bInts ((bs.map fun p => p.1.toList).flatten).toArray = (bs.map fun p => KBw.bInts p.1).flatten := by
  unfold KBw.bInts
  simp [List.map_flatten, Function.comp_def]
theorem bytes_join_L {prog : Program} {w : World} {A : Around} {E : Value → Shared → Prop} {s : Shared} {D : Addr} {ys : List Value} {ks : List (List Int)} {t : Tok} {Q : Value → Shared → Prop} (hl : s.heap.IsList D ys.toArray) (hi : BytesAre ys ks) (hz : (ks.map (·.length)).sum ≤ 100000)
    (h : ∀ b' t' k, KBw.bInts b' = ks.flatten → Q (.bytes b' t') { s with toks := k }) : wpAny (model prog w) A (call (.builtin "bytes.join") [.bytes #[] t, .ref D]) Q E s := by
  obtain ⟨bs, rfl, rfl⟩ := hi.out
  refine BJ.join hl ?_ fun t' k => h _ t' k (bInts_flat bs)
  have e : (bs.map fun p => p.1.size) = (bs.map fun p => KBw.bInts p.1).map (·.length) := by
    rw [List.map_map]
    refine List.map_congr_left fun p _ => ?_
    unfold KBw.bInts
    simp
  rw [e]; exact hz
def csT1 : List (Str × Value) := fillAll (csTab1.take 9) (.str (Str.ofString "us-ascii") 299) []
def csT2 : List (Str × Value) := fillAll (csTab2.take 8) (.str (Str.ofString "iso-8859-1") 301) csT1
def csT3 : List (Str × Value) := fillAll (csTab3.take 2) (.str (Str.ofString "utf-8") 303) csT2
def isStrV : Value → Bool
  | .str _ _ => true
  | _ => false
def csOf (x : Str) : Str := match valueAt csT3 x with
  | some (.str y _) => y
  | _ => Str.ofString ""
theorem csOf_is (x : Str) (t : Tok) : IsS (csOf x) ((valueAt csT3 x).getD (.str (Str.ofString "") t)) := by
  have hall : ∀ p ∈ csT3, isStrV p.2 = true := List.all_eq_true.mp (by decide +kernel : csT3.all (fun p => isStrV p.2) = true)
  unfold csOf
  cases h : valueAt csT3 x with
  | none => exact ⟨_, rfl⟩
  | some v =>
    have hm : ∃ k, (k, v) ∈ csT3 := by
      unfold valueAt at h
      obtain ⟨p, hp, rfl⟩ := Option.map_eq_some_iff.mp h
      exact ⟨p.1, List.mem_of_find?_eq_some hp⟩
    obtain ⟨k, hk⟩ := hm
    have hv := hall _ hk
    cases v <;> first | exact ⟨_, rfl⟩ | cases hv
set_option maxHeartbeats 4000000 in
theorem charset_name_ok (x : Str) (hx : x.cps.size ≤ 1000) (hc : ∀ c ∈ x.cps.toList, c < 1000) (t1 : Tok) : PC 4 105 [.str x t1] (Im (IsS (csOf (lowS x)))) := by
  unfold PC
  k_fill
  intro w mean mg mb dp un gd cn cs a ccd cl outer A₀ base h₀ L m s Q E B F X T hcs hd hu hret
  (k_dflt (refine' enter ?zh1365k1 ?zh1365k2 ?zh1365k3 ?zh1365k5 ?zh1365kA ?zh1365kF ?zh1365kK ?zh1365k6 ?zh1365k7 ?zh1365k8 ?zh1365k9 ?zh1365kB ?_ ?zh1365c2 ?zh1365c3 ?zh1365c4 ?zh1365c5; (case zh1365kA => exact rfl); (case zh1365kF => exact rfl); (case zh1365kK => first | assumption | exact rfl); (case zh1365k1 => k_asm); (case zh1365k2 => k_asm); (case zh1365k3 => k_asm); (case zh1365k5 => k_asm); (case zh1365k6 => k_is); (case zh1365k7 => k_is); (case zh1365k8 => (first | exact room_1 hd rfl | exact room_0 hd | ktr_room)); (case zh1365k9 => exact BindsTo.of_eq rfl); (case zh1365c5 => decide); (case zh1365kB => exact locs rfl); (case zh1365c2 => exact rfl); (case zh1365c3 => exact rfl); (case zh1365c4 => exact rfl); k_whole; intro gzz Lzz hzz hgzz FGzz Fzz Nzz Bzz Xzz Tzz; (try dsimp only); (try k_lift Bzz); (try (show wpAny _ _ _ _ _ _)); (try k_fold)))
  (repeat' (first | (k_unfold; (try dsimp only)) | ((fail_if_success (with_reducible show KswEnd _ _ _ _ _ _ _ _ _ _ _ _)); (fail_if_success (with_reducible show InvEndN _ _ _ _ _ _ _)); (fail_if_success (with_reducible show wpAny _ _ (exec (Stmt.While _ _ _ _) _) _ _ _)); (fail_if_success (with_reducible show wpAny _ _ (exec (Stmt.For _ _ _ _ _) _) _ _ _)); (fail_if_success (with_reducible show wpAny _ _ (exec (Stmt.Assign _ (PySem.Expr.ListComp _ _ _ _) _) _) _ _ _)); (fail_if_success (with_reducible show wpAny _ _ (eval (PySem.Expr.ListComp _ _ _ _) _) _ _ _)); (first | (k_here; (with_reducible show wpAny _ _ (setItem (Value.ref _) (Value.str _ _) (Value.str _ _)) _ _ _); k_dflt (refine' kda_set (knd := PySem.strKind _ _) ?zh34604F ?zh34604N ?zh34604U ?zh34604d (strKind_is _ _ _ _) ?zh34604z ?_; (case zh34604F => k_asm); (case zh34604N => k_asm); (case zh34604U => k_updF); (case zh34604d => k_asm); (case zh34604z => rw [sizeLine_eq]; omega)); intro hzz ozz Fzz Nzz hdzz; (try dsimp only at Nzz)) | (k_here; (with_reducible show wpAny _ _ (call (Value.builtin "dict.get") [Value.ref _, Value.str _ _, Value.str _ _]) _ _ _); k_dflt (refine kdg_get2 (knd := PySem.strKind _ _) (by k_asm) (by k_mem) (by k_asm) (by assumption) (strKind_is _ _ _ _) _ rfl ?_)) | (k_here; (with_reducible show wpAny _ _ (call (Value.ref 90) [Value.str _ _] _) _ _ _); k_dflt (refine' PC.use (lower_text_ok _ ?zh1036px ?zh1036pc _) ?zh1036k1 ?zh1036k2 ?zh1036k3 ?zh1036k4 ?zh1036k5 ?zh1036kK ?zh1036kd ?zh1036ku ?_); (case zh1036px => assumption); (case zh1036pc => assumption); (( (case zh1036k1 => k_asm); (case zh1036k2 => k_asm); (case zh1036k3 => k_asm); (case zh1036k4 => k_asm); (case zh1036k5 => k_asm); (case zh1036kK => first | exact rfl | assumption); (case zh1036kd => (first | exact room_1 hd rfl | exact room_0 hd | ktr_room)); (case zh1036ku => (first | exact unit_3 hu rfl | ktr_units)))); intro vzz ownzz hzz tkzz hRzz hKzz Fzz Nzz hUzz; clear hKzz hUzz; obtain ⟨hOzz, tVzz, hVzz⟩ := hRzz; subst hOzz hVzz; (try simp only [List.nil_append] at Nzz); (try dsimp only)) | walk1 | (dsimp only; walk1))) | (leave1; walk_say "STEP leave1"; try dsimp only)))
  (k_dflt (refine' enter ?zh1365k1 ?zh1365k2 ?zh1365k3 ?zh1365k5 ?zh1365kA ?zh1365kF ?zh1365kK ?zh1365k6 ?zh1365k7 ?zh1365k8 ?zh1365k9 ?zh1365kB ?_ ?zh1365c2 ?zh1365c3 ?zh1365c4 ?zh1365c5; (case zh1365kA => exact rfl); (case zh1365kF => exact rfl); (case zh1365kK => first | assumption | exact rfl); (case zh1365k1 => k_asm); (case zh1365k2 => k_asm); (case zh1365k3 => k_asm); (case zh1365k5 => k_asm); (case zh1365k6 => k_is); (case zh1365k7 => k_is); (case zh1365k8 => (first | exact room_1 hd rfl | exact room_0 hd | ktr_room)); (case zh1365k9 => exact BindsTo.of_eq rfl); (case zh1365c5 => decide); (case zh1365kB => exact locs rfl); (case zh1365c2 => exact rfl); (case zh1365c3 => exact rfl); (case zh1365c4 => exact rfl); k_whole; intro gzz Lzz hzz hgzz FGzz Fzz Nzz Bzz Xzz Tzz; (try dsimp only); (try k_lift Bzz); (try (show wpAny _ _ _ _ _ _)); (try k_fold)))
  (repeat' (first | (k_unfold; (try dsimp only)) | ((fail_if_success (with_reducible show KswEnd _ _ _ _ _ _ _ _ _ _ _ _)); (fail_if_success (with_reducible show InvEndN _ _ _ _ _ _ _)); (fail_if_success (with_reducible show wpAny _ _ (exec (Stmt.While _ _ _ _) _) _ _ _)); (fail_if_success (with_reducible show wpAny _ _ (exec (Stmt.For _ _ _ _ _) _) _ _ _)); (fail_if_success (with_reducible show wpAny _ _ (exec (Stmt.Assign _ (PySem.Expr.ListComp _ _ _ _) _) _) _ _ _)); (fail_if_success (with_reducible show wpAny _ _ (eval (PySem.Expr.ListComp _ _ _ _) _) _ _ _)); (first | (k_here; (with_reducible show wpAny _ _ (setItem (Value.ref _) (Value.str _ _) (Value.str _ _)) _ _ _); k_dflt (refine' kda_set (knd := PySem.strKind _ _) ?zh34604F ?zh34604N ?zh34604U ?zh34604d (strKind_is _ _ _ _) ?zh34604z ?_; (case zh34604F => k_asm); (case zh34604N => k_asm); (case zh34604U => k_updF); (case zh34604d => k_asm); (case zh34604z => rw [sizeLine_eq]; omega)); intro hzz ozz Fzz Nzz hdzz; (try dsimp only at Nzz)) | (k_here; (with_reducible show wpAny _ _ (call (Value.builtin "dict.get") [Value.ref _, Value.str _ _, Value.str _ _]) _ _ _); k_dflt (refine kdg_get2 (knd := PySem.strKind _ _) (by k_asm) (by k_mem) (by k_asm) (by assumption) (strKind_is _ _ _ _) _ rfl ?_)) | (k_here; (with_reducible show wpAny _ _ (call (Value.ref 90) [Value.str _ _] _) _ _ _); k_dflt (refine' PC.use (lower_text_ok _ ?zh1036px ?zh1036pc _) ?zh1036k1 ?zh1036k2 ?zh1036k3 ?zh1036k4 ?zh1036k5 ?zh1036kK ?zh1036kd ?zh1036ku ?_); (case zh1036px => assumption); (case zh1036pc => assumption); (( (case zh1036k1 => k_asm); (case zh1036k2 => k_asm); (case zh1036k3 => k_asm); (case zh1036k4 => k_asm); (case zh1036k5 => k_asm); (case zh1036kK => first | exact rfl | assumption); (case zh1036kd => (first | exact room_1 hd rfl | exact room_0 hd | ktr_room)); (case zh1036ku => (first | exact unit_3 hu rfl | ktr_units)))); intro vzz ownzz hzz tkzz hRzz hKzz Fzz Nzz hUzz; clear hKzz hUzz; obtain ⟨hOzz, tVzz, hVzz⟩ := hRzz; subst hOzz hVzz; (try simp only [List.nil_append] at Nzz); (try dsimp only)) | walk1 | (dsimp only; walk1))) | (leave1; walk_say "STEP leave1"; try dsimp only)))
  rename (_ == sysModules) = false => lo
  (((rename Fr _ _ _ _ => lFzz); (with_unfolding_all refine' For_invVF lFzz ?zh56576k1 ?zh56576k2 ?_); (case zh56576k1 => exact rfl); (case zh56576k2 => exact rfl); (repeat' (first | (k_unfold; (try dsimp only)) | ((fail_if_success (with_reducible show KswEnd _ _ _ _ _ _ _ _ _ _ _ _)); (fail_if_success (with_reducible show InvEndN _ _ _ _ _ _ _)); (fail_if_success (with_reducible show wpAny _ _ (exec (Stmt.While _ _ _ _) _) _ _ _)); (fail_if_success (with_reducible show wpAny _ _ (exec (Stmt.For _ _ _ _ _) _) _ _ _)); (fail_if_success (with_reducible show wpAny _ _ (exec (Stmt.Assign _ (PySem.Expr.ListComp _ _ _ _) _) _) _ _ _)); (fail_if_success (with_reducible show wpAny _ _ (eval (PySem.Expr.ListComp _ _ _ _) _) _ _ _)); (first | (k_here; (with_reducible show wpAny _ _ (setItem (Value.ref _) (Value.str _ _) (Value.str _ _)) _ _ _); k_dflt (refine' kda_set (knd := PySem.strKind _ _) ?zh34604F ?zh34604N ?zh34604U ?zh34604d (strKind_is _ _ _ _) ?zh34604z ?_; (case zh34604F => k_asm); (case zh34604N => k_asm); (case zh34604U => k_updF); (case zh34604d => k_asm); (case zh34604z => rw [sizeLine_eq]; omega)); intro hzz ozz Fzz Nzz hdzz; (try dsimp only at Nzz)) | (k_here; (with_reducible show wpAny _ _ (call (Value.builtin "dict.get") [Value.ref _, Value.str _ _, Value.str _ _]) _ _ _); k_dflt (refine kdg_get2 (knd := PySem.strKind _ _) (by k_asm) (by k_mem) (by k_asm) (by assumption) (strKind_is _ _ _ _) _ rfl ?_)) | (k_here; (with_reducible show wpAny _ _ (call (Value.ref 90) [Value.str _ _] _) _ _ _); k_dflt (refine' PC.use (lower_text_ok _ ?zh1036px ?zh1036pc _) ?zh1036k1 ?zh1036k2 ?zh1036k3 ?zh1036k4 ?zh1036k5 ?zh1036kK ?zh1036kd ?zh1036ku ?_); (case zh1036px => assumption); (case zh1036pc => assumption); (( (case zh1036k1 => k_asm); (case zh1036k2 => k_asm); (case zh1036k3 => k_asm); (case zh1036k4 => k_asm); (case zh1036k5 => k_asm); (case zh1036kK => first | exact rfl | assumption); (case zh1036kd => (first | exact room_1 hd rfl | exact room_0 hd | ktr_room)); (case zh1036ku => (first | exact unit_3 hu rfl | ktr_units)))); intro vzz ownzz hzz tkzz hRzz hKzz Fzz Nzz hUzz; clear hKzz hUzz; obtain ⟨hOzz, tVzz, hVzz⟩ := hRzz; subst hOzz hVzz; (try simp only [List.nil_append] at Nzz); (try dsimp only)) | walk1 | (dsimp only; walk1))) | (leave1; walk_say "STEP leave1"; try dsimp only)))))
  rename Fr _ _ _ _ => lF
  rename News _ _ _ _ => lN
  rename Obj.IsDictOf (PySem.strKind _ _) _ _ => hD
  refine with_map lF ?_
  intro m₀ em lF2
  k_dflt refine loopTup (fun i m nx => ∃ o u, nx = [(_, o)] ∧ o.IsDictOf (PySem.strKind _ w) (fillAll (csTab1.take i) (.str (Str.ofString "us-ascii") 299) ([] : List (Str × Value))) ∧ m = fun z => if z = Str.ofString "alias" then u else m₀ z) (by rfl) lF2 lN ?_ ⟨_, _, rfl, hD, map_self⟩ ?_ ?_
  · intro p hp; rw [List.mem_singleton.mp hp]; exact Nat.ne_of_lt (by assumption)
  · rintro i v m₁ nx h tk own hi hv _ hoff ⟨o, u, rfl, hd, rfl⟩ F₁ N₁
    obtain ⟨y, ty, hy, rfl⟩ := strs_at (ys := csTab1) (by repeat' (first | exact StrsAre.nil | refine' StrsAre.cons _ _ ?_)) hv
    rw [map_over] at F₁
    subst em
    have hln := fillAll_len (.str (Str.ofString "us-ascii") 299) (csTab1.take i) ([] : List (Str × Value))
    have hln2 : (csTab1.take i).length ≤ 9 := by rw [List.length_take]; exact Nat.min_le_right _ _
    have hln3 : (([] : List (Str × Value))).length ≤ 17 := by decide +kernel
    simp only [List.cons_append, List.nil_append, List.map_cons, List.map_nil] at N₁ hoff
    clear hi hv hD lN lF lF2
    (repeat' (first | (k_unfold; (try dsimp only)) | ((fail_if_success (with_reducible show KswEnd _ _ _ _ _ _ _ _ _ _ _ _)); (fail_if_success (with_reducible show InvEndN _ _ _ _ _ _ _)); (fail_if_success (with_reducible show wpAny _ _ (exec (Stmt.While _ _ _ _) _) _ _ _)); (fail_if_success (with_reducible show wpAny _ _ (exec (Stmt.For _ _ _ _ _) _) _ _ _)); (fail_if_success (with_reducible show wpAny _ _ (exec (Stmt.Assign _ (PySem.Expr.ListComp _ _ _ _) _) _) _ _ _)); (fail_if_success (with_reducible show wpAny _ _ (eval (PySem.Expr.ListComp _ _ _ _) _) _ _ _)); (first | (k_here; (with_reducible show wpAny _ _ (setItem (Value.ref _) (Value.str _ _) (Value.str _ _)) _ _ _); k_dflt (refine' kda_set (knd := PySem.strKind _ _) ?zh34604F ?zh34604N ?zh34604U ?zh34604d (strKind_is _ _ _ _) ?zh34604z ?_; (case zh34604F => k_asm); (case zh34604N => k_asm); (case zh34604U => k_updF); (case zh34604d => k_asm); (case zh34604z => rw [sizeLine_eq]; omega)); intro hzz ozz Fzz Nzz hdzz; (try dsimp only at Nzz)) | (k_here; (with_reducible show wpAny _ _ (call (Value.builtin "dict.get") [Value.ref _, Value.str _ _, Value.str _ _]) _ _ _); k_dflt (refine kdg_get2 (knd := PySem.strKind _ _) (by k_asm) (by k_mem) (by k_asm) (by assumption) (strKind_is _ _ _ _) _ rfl ?_)) | (k_here; (with_reducible show wpAny _ _ (call (Value.ref 90) [Value.str _ _] _) _ _ _); k_dflt (refine' PC.use (lower_text_ok _ ?zh1036px ?zh1036pc _) ?zh1036k1 ?zh1036k2 ?zh1036k3 ?zh1036k4 ?zh1036k5 ?zh1036kK ?zh1036kd ?zh1036ku ?_); (case zh1036px => assumption); (case zh1036pc => assumption); (( (case zh1036k1 => k_asm); (case zh1036k2 => k_asm); (case zh1036k3 => k_asm); (case zh1036k4 => k_asm); (case zh1036k5 => k_asm); (case zh1036kK => first | exact rfl | assumption); (case zh1036kd => (first | exact room_1 hd rfl | exact room_0 hd | ktr_room)); (case zh1036ku => (first | exact unit_3 hu rfl | ktr_units)))); intro vzz ownzz hzz tkzz hRzz hKzz Fzz Nzz hUzz; clear hKzz hUzz; obtain ⟨hOzz, tVzz, hVzz⟩ := hRzz; subst hOzz hVzz; (try simp only [List.nil_append] at Nzz); (try dsimp only)) | walk1 | (dsimp only; walk1))) | (leave1; walk_say "STEP leave1"; try dsimp only)))
    rename Obj.IsDictOf _ _ (stored _ _ _) => hd9
    rw [← fillAll_succ hy] at hd9
    refine InvEndN.intro (by assumption) (by assumption) ⟨_, _, rfl, hd9, rfl⟩ ?_ (fun p hp => ?_) (fun p hp => .tail _ hp)
    · rfl
    · rw [List.mem_singleton.mp hp]; exact .head _
  rintro m₁ nx h tk ⟨o, u, rfl, hd, rfl⟩ F₁ N₁
  subst em
  clear hD lN lF lF2
  have hlt := Heap.lt_size (N₁ _ (.head _)).1
  replace hd : o.IsDictOf (PySem.strKind _ w) csT1 := hd
  (repeat' (first | (k_unfold; (try dsimp only)) | ((fail_if_success (with_reducible show KswEnd _ _ _ _ _ _ _ _ _ _ _ _)); (fail_if_success (with_reducible show InvEndN _ _ _ _ _ _ _)); (fail_if_success (with_reducible show wpAny _ _ (exec (Stmt.While _ _ _ _) _) _ _ _)); (fail_if_success (with_reducible show wpAny _ _ (exec (Stmt.For _ _ _ _ _) _) _ _ _)); (fail_if_success (with_reducible show wpAny _ _ (exec (Stmt.Assign _ (PySem.Expr.ListComp _ _ _ _) _) _) _ _ _)); (fail_if_success (with_reducible show wpAny _ _ (eval (PySem.Expr.ListComp _ _ _ _) _) _ _ _)); (first | (k_here; (with_reducible show wpAny _ _ (setItem (Value.ref _) (Value.str _ _) (Value.str _ _)) _ _ _); k_dflt (refine' kda_set (knd := PySem.strKind _ _) ?zh34604F ?zh34604N ?zh34604U ?zh34604d (strKind_is _ _ _ _) ?zh34604z ?_; (case zh34604F => k_asm); (case zh34604N => k_asm); (case zh34604U => k_updF); (case zh34604d => k_asm); (case zh34604z => rw [sizeLine_eq]; omega)); intro hzz ozz Fzz Nzz hdzz; (try dsimp only at Nzz)) | (k_here; (with_reducible show wpAny _ _ (call (Value.builtin "dict.get") [Value.ref _, Value.str _ _, Value.str _ _]) _ _ _); k_dflt (refine kdg_get2 (knd := PySem.strKind _ _) (by k_asm) (by k_mem) (by k_asm) (by assumption) (strKind_is _ _ _ _) _ rfl ?_)) | (k_here; (with_reducible show wpAny _ _ (call (Value.ref 90) [Value.str _ _] _) _ _ _); k_dflt (refine' PC.use (lower_text_ok _ ?zh1036px ?zh1036pc _) ?zh1036k1 ?zh1036k2 ?zh1036k3 ?zh1036k4 ?zh1036k5 ?zh1036kK ?zh1036kd ?zh1036ku ?_); (case zh1036px => assumption); (case zh1036pc => assumption); (( (case zh1036k1 => k_asm); (case zh1036k2 => k_asm); (case zh1036k3 => k_asm); (case zh1036k4 => k_asm); (case zh1036k5 => k_asm); (case zh1036kK => first | exact rfl | assumption); (case zh1036kd => (first | exact room_1 hd rfl | exact room_0 hd | ktr_room)); (case zh1036ku => (first | exact unit_3 hu rfl | ktr_units)))); intro vzz ownzz hzz tkzz hRzz hKzz Fzz Nzz hUzz; clear hKzz hUzz; obtain ⟨hOzz, tVzz, hVzz⟩ := hRzz; subst hOzz hVzz; (try simp only [List.nil_append] at Nzz); (try dsimp only)) | walk1 | (dsimp only; walk1))) | (leave1; walk_say "STEP leave1"; try dsimp only)))
  (((rename Fr _ _ _ _ => lFzz); (with_unfolding_all refine' For_invVF lFzz ?zh56576k1 ?zh56576k2 ?_); (case zh56576k1 => exact rfl); (case zh56576k2 => exact rfl); (repeat' (first | (k_unfold; (try dsimp only)) | ((fail_if_success (with_reducible show KswEnd _ _ _ _ _ _ _ _ _ _ _ _)); (fail_if_success (with_reducible show InvEndN _ _ _ _ _ _ _)); (fail_if_success (with_reducible show wpAny _ _ (exec (Stmt.While _ _ _ _) _) _ _ _)); (fail_if_success (with_reducible show wpAny _ _ (exec (Stmt.For _ _ _ _ _) _) _ _ _)); (fail_if_success (with_reducible show wpAny _ _ (exec (Stmt.Assign _ (PySem.Expr.ListComp _ _ _ _) _) _) _ _ _)); (fail_if_success (with_reducible show wpAny _ _ (eval (PySem.Expr.ListComp _ _ _ _) _) _ _ _)); (first | (k_here; (with_reducible show wpAny _ _ (setItem (Value.ref _) (Value.str _ _) (Value.str _ _)) _ _ _); k_dflt (refine' kda_set (knd := PySem.strKind _ _) ?zh34604F ?zh34604N ?zh34604U ?zh34604d (strKind_is _ _ _ _) ?zh34604z ?_; (case zh34604F => k_asm); (case zh34604N => k_asm); (case zh34604U => k_updF); (case zh34604d => k_asm); (case zh34604z => rw [sizeLine_eq]; omega)); intro hzz ozz Fzz Nzz hdzz; (try dsimp only at Nzz)) | (k_here; (with_reducible show wpAny _ _ (call (Value.builtin "dict.get") [Value.ref _, Value.str _ _, Value.str _ _]) _ _ _); k_dflt (refine kdg_get2 (knd := PySem.strKind _ _) (by k_asm) (by k_mem) (by k_asm) (by assumption) (strKind_is _ _ _ _) _ rfl ?_)) | (k_here; (with_reducible show wpAny _ _ (call (Value.ref 90) [Value.str _ _] _) _ _ _); k_dflt (refine' PC.use (lower_text_ok _ ?zh1036px ?zh1036pc _) ?zh1036k1 ?zh1036k2 ?zh1036k3 ?zh1036k4 ?zh1036k5 ?zh1036kK ?zh1036kd ?zh1036ku ?_); (case zh1036px => assumption); (case zh1036pc => assumption); (( (case zh1036k1 => k_asm); (case zh1036k2 => k_asm); (case zh1036k3 => k_asm); (case zh1036k4 => k_asm); (case zh1036k5 => k_asm); (case zh1036kK => first | exact rfl | assumption); (case zh1036kd => (first | exact room_1 hd rfl | exact room_0 hd | ktr_room)); (case zh1036ku => (first | exact unit_3 hu rfl | ktr_units)))); intro vzz ownzz hzz tkzz hRzz hKzz Fzz Nzz hUzz; clear hKzz hUzz; obtain ⟨hOzz, tVzz, hVzz⟩ := hRzz; subst hOzz hVzz; (try simp only [List.nil_append] at Nzz); (try dsimp only)) | walk1 | (dsimp only; walk1))) | (leave1; walk_say "STEP leave1"; try dsimp only)))))
  rename Fr _ _ _ _ => lF
  rename News _ _ _ _ => lN
  rename Obj.IsDictOf (PySem.strKind _ _) _ _ => hD
  refine with_map lF ?_
  intro m₀ em lF2
  k_dflt refine loopTup (fun i m nx => ∃ o u, nx = [(_, o)] ∧ o.IsDictOf (PySem.strKind _ w) (fillAll (csTab2.take i) (.str (Str.ofString "iso-8859-1") 301) csT1) ∧ m = fun z => if z = Str.ofString "alias" then u else m₀ z) (by rfl) lF2 lN ?_ ⟨_, _, rfl, hD, map_self⟩ ?_ ?_
  · intro p hp; rw [List.mem_singleton.mp hp]; exact Nat.ne_of_lt (by assumption)
  · rintro i v m₁ nx h tk own hi hv _ hoff ⟨o, u, rfl, hd, rfl⟩ F₁ N₁
    obtain ⟨y, ty, hy, rfl⟩ := strs_at (ys := csTab2) (by repeat' (first | exact StrsAre.nil | refine' StrsAre.cons _ _ ?_)) hv
    rw [map_over] at F₁
    subst em
    have hln := fillAll_len (.str (Str.ofString "iso-8859-1") 301) (csTab2.take i) csT1
    have hln2 : (csTab2.take i).length ≤ 8 := by rw [List.length_take]; exact Nat.min_le_right _ _
    have hln3 : (csT1).length ≤ 17 := by decide +kernel
    simp only [List.cons_append, List.nil_append, List.map_cons, List.map_nil] at N₁ hoff
    clear hi hv hD lN lF lF2
    (repeat' (first | (k_unfold; (try dsimp only)) | ((fail_if_success (with_reducible show KswEnd _ _ _ _ _ _ _ _ _ _ _ _)); (fail_if_success (with_reducible show InvEndN _ _ _ _ _ _ _)); (fail_if_success (with_reducible show wpAny _ _ (exec (Stmt.While _ _ _ _) _) _ _ _)); (fail_if_success (with_reducible show wpAny _ _ (exec (Stmt.For _ _ _ _ _) _) _ _ _)); (fail_if_success (with_reducible show wpAny _ _ (exec (Stmt.Assign _ (PySem.Expr.ListComp _ _ _ _) _) _) _ _ _)); (fail_if_success (with_reducible show wpAny _ _ (eval (PySem.Expr.ListComp _ _ _ _) _) _ _ _)); (first | (k_here; (with_reducible show wpAny _ _ (setItem (Value.ref _) (Value.str _ _) (Value.str _ _)) _ _ _); k_dflt (refine' kda_set (knd := PySem.strKind _ _) ?zh34604F ?zh34604N ?zh34604U ?zh34604d (strKind_is _ _ _ _) ?zh34604z ?_; (case zh34604F => k_asm); (case zh34604N => k_asm); (case zh34604U => k_updF); (case zh34604d => k_asm); (case zh34604z => rw [sizeLine_eq]; omega)); intro hzz ozz Fzz Nzz hdzz; (try dsimp only at Nzz)) | (k_here; (with_reducible show wpAny _ _ (call (Value.builtin "dict.get") [Value.ref _, Value.str _ _, Value.str _ _]) _ _ _); k_dflt (refine kdg_get2 (knd := PySem.strKind _ _) (by k_asm) (by k_mem) (by k_asm) (by assumption) (strKind_is _ _ _ _) _ rfl ?_)) | (k_here; (with_reducible show wpAny _ _ (call (Value.ref 90) [Value.str _ _] _) _ _ _); k_dflt (refine' PC.use (lower_text_ok _ ?zh1036px ?zh1036pc _) ?zh1036k1 ?zh1036k2 ?zh1036k3 ?zh1036k4 ?zh1036k5 ?zh1036kK ?zh1036kd ?zh1036ku ?_); (case zh1036px => assumption); (case zh1036pc => assumption); (( (case zh1036k1 => k_asm); (case zh1036k2 => k_asm); (case zh1036k3 => k_asm); (case zh1036k4 => k_asm); (case zh1036k5 => k_asm); (case zh1036kK => first | exact rfl | assumption); (case zh1036kd => (first | exact room_1 hd rfl | exact room_0 hd | ktr_room)); (case zh1036ku => (first | exact unit_3 hu rfl | ktr_units)))); intro vzz ownzz hzz tkzz hRzz hKzz Fzz Nzz hUzz; clear hKzz hUzz; obtain ⟨hOzz, tVzz, hVzz⟩ := hRzz; subst hOzz hVzz; (try simp only [List.nil_append] at Nzz); (try dsimp only)) | walk1 | (dsimp only; walk1))) | (leave1; walk_say "STEP leave1"; try dsimp only)))
    rename Obj.IsDictOf _ _ (stored _ _ _) => hd9
    rw [← fillAll_succ hy] at hd9
    refine InvEndN.intro (by assumption) (by assumption) ⟨_, _, rfl, hd9, rfl⟩ ?_ (fun p hp => ?_) (fun p hp => .tail _ hp)
    · rfl
    · rw [List.mem_singleton.mp hp]; exact .head _
  rintro m₁ nx h tk ⟨o, u, rfl, hd, rfl⟩ F₁ N₁
  subst em
  clear hD lN lF lF2
  have hlt := Heap.lt_size (N₁ _ (.head _)).1
  replace hd : o.IsDictOf (PySem.strKind _ w) csT2 := hd
  (repeat' (first | (k_unfold; (try dsimp only)) | ((fail_if_success (with_reducible show KswEnd _ _ _ _ _ _ _ _ _ _ _ _)); (fail_if_success (with_reducible show InvEndN _ _ _ _ _ _ _)); (fail_if_success (with_reducible show wpAny _ _ (exec (Stmt.While _ _ _ _) _) _ _ _)); (fail_if_success (with_reducible show wpAny _ _ (exec (Stmt.For _ _ _ _ _) _) _ _ _)); (fail_if_success (with_reducible show wpAny _ _ (exec (Stmt.Assign _ (PySem.Expr.ListComp _ _ _ _) _) _) _ _ _)); (fail_if_success (with_reducible show wpAny _ _ (eval (PySem.Expr.ListComp _ _ _ _) _) _ _ _)); (first | (k_here; (with_reducible show wpAny _ _ (setItem (Value.ref _) (Value.str _ _) (Value.str _ _)) _ _ _); k_dflt (refine' kda_set (knd := PySem.strKind _ _) ?zh34604F ?zh34604N ?zh34604U ?zh34604d (strKind_is _ _ _ _) ?zh34604z ?_; (case zh34604F => k_asm); (case zh34604N => k_asm); (case zh34604U => k_updF); (case zh34604d => k_asm); (case zh34604z => rw [sizeLine_eq]; omega)); intro hzz ozz Fzz Nzz hdzz; (try dsimp only at Nzz)) | (k_here; (with_reducible show wpAny _ _ (call (Value.builtin "dict.get") [Value.ref _, Value.str _ _, Value.str _ _]) _ _ _); k_dflt (refine kdg_get2 (knd := PySem.strKind _ _) (by k_asm) (by k_mem) (by k_asm) (by assumption) (strKind_is _ _ _ _) _ rfl ?_)) | (k_here; (with_reducible show wpAny _ _ (call (Value.ref 90) [Value.str _ _] _) _ _ _); k_dflt (refine' PC.use (lower_text_ok _ ?zh1036px ?zh1036pc _) ?zh1036k1 ?zh1036k2 ?zh1036k3 ?zh1036k4 ?zh1036k5 ?zh1036kK ?zh1036kd ?zh1036ku ?_); (case zh1036px => assumption); (case zh1036pc => assumption); (( (case zh1036k1 => k_asm); (case zh1036k2 => k_asm); (case zh1036k3 => k_asm); (case zh1036k4 => k_asm); (case zh1036k5 => k_asm); (case zh1036kK => first | exact rfl | assumption); (case zh1036kd => (first | exact room_1 hd rfl | exact room_0 hd | ktr_room)); (case zh1036ku => (first | exact unit_3 hu rfl | ktr_units)))); intro vzz ownzz hzz tkzz hRzz hKzz Fzz Nzz hUzz; clear hKzz hUzz; obtain ⟨hOzz, tVzz, hVzz⟩ := hRzz; subst hOzz hVzz; (try simp only [List.nil_append] at Nzz); (try dsimp only)) | walk1 | (dsimp only; walk1))) | (leave1; walk_say "STEP leave1"; try dsimp only)))
  (((rename Fr _ _ _ _ => lFzz); (with_unfolding_all refine' For_invVF lFzz ?zh56576k1 ?zh56576k2 ?_); (case zh56576k1 => exact rfl); (case zh56576k2 => exact rfl); (repeat' (first | (k_unfold; (try dsimp only)) | ((fail_if_success (with_reducible show KswEnd _ _ _ _ _ _ _ _ _ _ _ _)); (fail_if_success (with_reducible show InvEndN _ _ _ _ _ _ _)); (fail_if_success (with_reducible show wpAny _ _ (exec (Stmt.While _ _ _ _) _) _ _ _)); (fail_if_success (with_reducible show wpAny _ _ (exec (Stmt.For _ _ _ _ _) _) _ _ _)); (fail_if_success (with_reducible show wpAny _ _ (exec (Stmt.Assign _ (PySem.Expr.ListComp _ _ _ _) _) _) _ _ _)); (fail_if_success (with_reducible show wpAny _ _ (eval (PySem.Expr.ListComp _ _ _ _) _) _ _ _)); (first | (k_here; (with_reducible show wpAny _ _ (setItem (Value.ref _) (Value.str _ _) (Value.str _ _)) _ _ _); k_dflt (refine' kda_set (knd := PySem.strKind _ _) ?zh34604F ?zh34604N ?zh34604U ?zh34604d (strKind_is _ _ _ _) ?zh34604z ?_; (case zh34604F => k_asm); (case zh34604N => k_asm); (case zh34604U => k_updF); (case zh34604d => k_asm); (case zh34604z => rw [sizeLine_eq]; omega)); intro hzz ozz Fzz Nzz hdzz; (try dsimp only at Nzz)) | (k_here; (with_reducible show wpAny _ _ (call (Value.builtin "dict.get") [Value.ref _, Value.str _ _, Value.str _ _]) _ _ _); k_dflt (refine kdg_get2 (knd := PySem.strKind _ _) (by k_asm) (by k_mem) (by k_asm) (by assumption) (strKind_is _ _ _ _) _ rfl ?_)) | (k_here; (with_reducible show wpAny _ _ (call (Value.ref 90) [Value.str _ _] _) _ _ _); k_dflt (refine' PC.use (lower_text_ok _ ?zh1036px ?zh1036pc _) ?zh1036k1 ?zh1036k2 ?zh1036k3 ?zh1036k4 ?zh1036k5 ?zh1036kK ?zh1036kd ?zh1036ku ?_); (case zh1036px => assumption); (case zh1036pc => assumption); (( (case zh1036k1 => k_asm); (case zh1036k2 => k_asm); (case zh1036k3 => k_asm); (case zh1036k4 => k_asm); (case zh1036k5 => k_asm); (case zh1036kK => first | exact rfl | assumption); (case zh1036kd => (first | exact room_1 hd rfl | exact room_0 hd | ktr_room)); (case zh1036ku => (first | exact unit_3 hu rfl | ktr_units)))); intro vzz ownzz hzz tkzz hRzz hKzz Fzz Nzz hUzz; clear hKzz hUzz; obtain ⟨hOzz, tVzz, hVzz⟩ := hRzz; subst hOzz hVzz; (try simp only [List.nil_append] at Nzz); (try dsimp only)) | walk1 | (dsimp only; walk1))) | (leave1; walk_say "STEP leave1"; try dsimp only)))))
  rename Fr _ _ _ _ => lF
  rename News _ _ _ _ => lN
  rename Obj.IsDictOf (PySem.strKind _ _) _ _ => hD
  refine with_map lF ?_
  intro m₀ em lF2
  k_dflt refine loopTup (fun i m nx => ∃ o u, nx = [(_, o)] ∧ o.IsDictOf (PySem.strKind _ w) (fillAll (csTab3.take i) (.str (Str.ofString "utf-8") 303) csT2) ∧ m = fun z => if z = Str.ofString "alias" then u else m₀ z) (by rfl) lF2 lN ?_ ⟨_, _, rfl, hD, map_self⟩ ?_ ?_
  · intro p hp; rw [List.mem_singleton.mp hp]; exact Nat.ne_of_lt (by assumption)
  · rintro i v m₁ nx h tk own hi hv _ hoff ⟨o, u, rfl, hd, rfl⟩ F₁ N₁
    obtain ⟨y, ty, hy, rfl⟩ := strs_at (ys := csTab3) (by repeat' (first | exact StrsAre.nil | refine' StrsAre.cons _ _ ?_)) hv
    rw [map_over] at F₁
    subst em
    have hln := fillAll_len (.str (Str.ofString "utf-8") 303) (csTab3.take i) csT2
    have hln2 : (csTab3.take i).length ≤ 2 := by rw [List.length_take]; exact Nat.min_le_right _ _
    have hln3 : (csT2).length ≤ 17 := by decide +kernel
    simp only [List.cons_append, List.nil_append, List.map_cons, List.map_nil] at N₁ hoff
    clear hi hv hD lN lF lF2
    (repeat' (first | (k_unfold; (try dsimp only)) | ((fail_if_success (with_reducible show KswEnd _ _ _ _ _ _ _ _ _ _ _ _)); (fail_if_success (with_reducible show InvEndN _ _ _ _ _ _ _)); (fail_if_success (with_reducible show wpAny _ _ (exec (Stmt.While _ _ _ _) _) _ _ _)); (fail_if_success (with_reducible show wpAny _ _ (exec (Stmt.For _ _ _ _ _) _) _ _ _)); (fail_if_success (with_reducible show wpAny _ _ (exec (Stmt.Assign _ (PySem.Expr.ListComp _ _ _ _) _) _) _ _ _)); (fail_if_success (with_reducible show wpAny _ _ (eval (PySem.Expr.ListComp _ _ _ _) _) _ _ _)); (first | (k_here; (with_reducible show wpAny _ _ (setItem (Value.ref _) (Value.str _ _) (Value.str _ _)) _ _ _); k_dflt (refine' kda_set (knd := PySem.strKind _ _) ?zh34604F ?zh34604N ?zh34604U ?zh34604d (strKind_is _ _ _ _) ?zh34604z ?_; (case zh34604F => k_asm); (case zh34604N => k_asm); (case zh34604U => k_updF); (case zh34604d => k_asm); (case zh34604z => rw [sizeLine_eq]; omega)); intro hzz ozz Fzz Nzz hdzz; (try dsimp only at Nzz)) | (k_here; (with_reducible show wpAny _ _ (call (Value.builtin "dict.get") [Value.ref _, Value.str _ _, Value.str _ _]) _ _ _); k_dflt (refine kdg_get2 (knd := PySem.strKind _ _) (by k_asm) (by k_mem) (by k_asm) (by assumption) (strKind_is _ _ _ _) _ rfl ?_)) | (k_here; (with_reducible show wpAny _ _ (call (Value.ref 90) [Value.str _ _] _) _ _ _); k_dflt (refine' PC.use (lower_text_ok _ ?zh1036px ?zh1036pc _) ?zh1036k1 ?zh1036k2 ?zh1036k3 ?zh1036k4 ?zh1036k5 ?zh1036kK ?zh1036kd ?zh1036ku ?_); (case zh1036px => assumption); (case zh1036pc => assumption); (( (case zh1036k1 => k_asm); (case zh1036k2 => k_asm); (case zh1036k3 => k_asm); (case zh1036k4 => k_asm); (case zh1036k5 => k_asm); (case zh1036kK => first | exact rfl | assumption); (case zh1036kd => (first | exact room_1 hd rfl | exact room_0 hd | ktr_room)); (case zh1036ku => (first | exact unit_3 hu rfl | ktr_units)))); intro vzz ownzz hzz tkzz hRzz hKzz Fzz Nzz hUzz; clear hKzz hUzz; obtain ⟨hOzz, tVzz, hVzz⟩ := hRzz; subst hOzz hVzz; (try simp only [List.nil_append] at Nzz); (try dsimp only)) | walk1 | (dsimp only; walk1))) | (leave1; walk_say "STEP leave1"; try dsimp only)))
    rename Obj.IsDictOf _ _ (stored _ _ _) => hd9
    rw [← fillAll_succ hy] at hd9
    refine InvEndN.intro (by assumption) (by assumption) ⟨_, _, rfl, hd9, rfl⟩ ?_ (fun p hp => ?_) (fun p hp => .tail _ hp)
    · rfl
    · rw [List.mem_singleton.mp hp]; exact .head _
  rintro m₁ nx h tk ⟨o, u, rfl, hd, rfl⟩ F₁ N₁
  subst em
  clear hD lN lF lF2
  have hlt := Heap.lt_size (N₁ _ (.head _)).1
  replace hd : o.IsDictOf (PySem.strKind _ w) csT3 := hd
  (repeat' (first | (k_unfold; (try dsimp only)) | ((fail_if_success (with_reducible show KswEnd _ _ _ _ _ _ _ _ _ _ _ _)); (fail_if_success (with_reducible show InvEndN _ _ _ _ _ _ _)); (fail_if_success (with_reducible show wpAny _ _ (exec (Stmt.While _ _ _ _) _) _ _ _)); (fail_if_success (with_reducible show wpAny _ _ (exec (Stmt.For _ _ _ _ _) _) _ _ _)); (fail_if_success (with_reducible show wpAny _ _ (exec (Stmt.Assign _ (PySem.Expr.ListComp _ _ _ _) _) _) _ _ _)); (fail_if_success (with_reducible show wpAny _ _ (eval (PySem.Expr.ListComp _ _ _ _) _) _ _ _)); (first | (k_here; (with_reducible show wpAny _ _ (setItem (Value.ref _) (Value.str _ _) (Value.str _ _)) _ _ _); k_dflt (refine' kda_set (knd := PySem.strKind _ _) ?zh34604F ?zh34604N ?zh34604U ?zh34604d (strKind_is _ _ _ _) ?zh34604z ?_; (case zh34604F => k_asm); (case zh34604N => k_asm); (case zh34604U => k_updF); (case zh34604d => k_asm); (case zh34604z => rw [sizeLine_eq]; omega)); intro hzz ozz Fzz Nzz hdzz; (try dsimp only at Nzz)) | (k_here; (with_reducible show wpAny _ _ (call (Value.builtin "dict.get") [Value.ref _, Value.str _ _, Value.str _ _]) _ _ _); k_dflt (refine kdg_get2 (knd := PySem.strKind _ _) (by k_asm) (by k_mem) (by k_asm) (by assumption) (strKind_is _ _ _ _) _ rfl ?_)) | (k_here; (with_reducible show wpAny _ _ (call (Value.ref 90) [Value.str _ _] _) _ _ _); k_dflt (refine' PC.use (lower_text_ok _ ?zh1036px ?zh1036pc _) ?zh1036k1 ?zh1036k2 ?zh1036k3 ?zh1036k4 ?zh1036k5 ?zh1036kK ?zh1036kd ?zh1036ku ?_); (case zh1036px => assumption); (case zh1036pc => assumption); (( (case zh1036k1 => k_asm); (case zh1036k2 => k_asm); (case zh1036k3 => k_asm); (case zh1036k4 => k_asm); (case zh1036k5 => k_asm); (case zh1036kK => first | exact rfl | assumption); (case zh1036kd => (first | exact room_1 hd rfl | exact room_0 hd | ktr_room)); (case zh1036ku => (first | exact unit_3 hu rfl | ktr_units)))); intro vzz ownzz hzz tkzz hRzz hKzz Fzz Nzz hUzz; clear hKzz hUzz; obtain ⟨hOzz, tVzz, hVzz⟩ := hRzz; subst hOzz hVzz; (try simp only [List.nil_append] at Nzz); (try dsimp only)) | walk1 | (dsimp only; walk1))) | (leave1; walk_say "STEP leave1"; try dsimp only)))
  all_goals exact ret_im hret (by assumption) (csOf_is _ _) (by assumption) (by assumption)
/-- the marks of a word: the first ? and the ends of the three parts -/
def mk (ks : List Int) (i : Nat) : Nat → Int
  | 0 => (i : Int) + 1
  | j + 1 => partEnd ks (mk ks i j + 1).toNat
def mkL (ks : List Int) (i j : Nat) : List Int := (List.range (j + 1)).map (mk ks i)
theorem mkL_succ (ks : List Int) (i j : Nat) : mkL ks i (j + 1) = mkL ks i j ++ [mk ks i (j + 1)] := by
  unfold mkL; rw [List.range_succ (n := j + 1), List.map_append]; rfl
theorem ints1 {vs : List Value} {a : Int} (h : IntsAre vs [a]) : ∃ t, vs = [.int a t] := by
  cases h with | cons k t h => cases h; exact ⟨t, rfl⟩
theorem ints2 {vs : List Value} {a b : Int} (h : IntsAre vs [a, b]) : ∃ t u, vs = [.int a t, .int b u] := by
  cases h with | cons k t h => obtain ⟨u, rfl⟩ := ints1 h; exact ⟨t, u, rfl⟩
theorem ints3 {vs : List Value} {a b c : Int} (h : IntsAre vs [a, b, c]) : ∃ t u v, vs = [.int a t, .int b u, .int c v] := by
  cases h with | cons k t h => obtain ⟨u, v, rfl⟩ := ints2 h; exact ⟨t, u, v, rfl⟩
theorem ints4 {vs : List Value} {a b c d : Int} (h : IntsAre vs [a, b, c, d]) : ∃ t u v w, vs = [.int a t, .int b u, .int c v, .int d w] := by
  cases h with | cons k t h => obtain ⟨u, v, w, rfl⟩ := ints3 h; exact ⟨t, u, v, w, rfl⟩
/-- a slice -/
def sl (ks : List Int) (a b : Int) : List Int := List.take (clipAt ks.length b - clipAt ks.length a) (List.drop (clipAt ks.length a) ks)
def partsP (ks : List Int) (i : Nat) : Option (List Int × List Int × List Int × Int) :=
  if sl ks i (i + 2) ≠ [61, 63] then none
  else if mk ks i 1 < 0 ∨ mk ks i 2 < 0 ∨ mk ks i 3 < 0 then none
  else if sl ks (mk ks i 3) (mk ks i 3 + 2) ≠ [63, 61] then none
  else some (sl ks (mk ks i 0 + 1) (mk ks i 1), sl ks (mk ks i 1 + 1) (mk ks i 2), sl ks (mk ks i 2 + 1) (mk ks i 3), mk ks i 3 + 2)
def PartsR (r : Option (List Int × List Int × List Int × Int)) (v : Value) (own : List (Addr × Obj)) : Prop := match r with
  | none => v = .none ∧ own = []
  | some (p, q, r, e) => ∃ x vp vq vr te, v = .ref x ∧ own = [(x, { cls := .type "tuple", data := .seq #[vp, vq, vr, .int e te] })] ∧ IsB p vp ∧ IsB q vq ∧ IsB r vr
theorem clipAt_nat (n i : Nat) : clipAt n i = min i n := by
  unfold clipAt; split <;> omega
theorem bInts_inj {a b : Array UInt8} (h : KBw.bInts a = KBw.bInts b) : a = b := by
  have : ∀ {x y : List UInt8}, (x.map fun c => (c.toNat : Int)) = (y.map fun c => (c.toNat : Int)) → x = y := by
    intro x y h
    exact List.map_inj_right (f := fun c : UInt8 => (c.toNat : Int)) (fun p q e => UInt8.toNat_inj.mp (Int.ofNat.inj e)) |>.mp h
  exact Array.toList_inj.mp (this h)
theorem ne_of_test {a b : Array UInt8} (h : (a.toList != b.toList) = true) : KBw.bInts a ≠ KBw.bInts b := by
  intro e; rw [bInts_inj e] at h; simp at h
theorem eq_of_test {a b : Array UInt8} (h : (a.toList != b.toList) = false) : KBw.bInts a = KBw.bInts b := by
  have : a.toList = b.toList := by simpa using h
  rw [Array.toList_inj.mp this]
theorem ret_none {h₀ g h' : Heap} {L L' : Addr} {m m' : Str → Option Value} {s : Shared} {Q : Value → Shared → Prop} {r : Option (List Int × List Int × List Int × Int)} {tk' : Nat}
    (hret : Ret h₀ L m s Q (PartsR r)) (hg : Kept s.heap g) (hR : r = none) (F : Fr h₀ L h' m) (F' : Fr g L' h' m') : Q .none { s with heap := h', toks := tk' } :=
  hret .none [] h' tk' (by rw [hR]; exact ⟨rfl, rfl⟩) (hg.fr F') F (fun _ h => nomatch h) (fun _ h => nomatch h)
theorem len3 {l : List Value} (h : l.length = 3) : ∃ a b c, l = [a, b, c] := by
  match l, h with
  | [a, b, c], _ => exact ⟨a, b, c, rfl⟩
inductive WpInv (l : List Int) (x : Addr) (p q : Addr × Obj) (m₀ m : Str → Option Value) : List (Addr × Obj) → Prop
  | mk (vs : List Value) (nn : Nat) (u : Option Value) : IntsAre vs l → (∀ z ∈ l, 0 ≤ z) → (m = fun z => if z = Str.ofString "turn" then u else m₀ z) → WpInv l x p q m₀ m [(x, PySem.W.listOf vs.toArray nn), p, q]
set_option maxHeartbeats 1000000 in
theorem word_parts_ok (b : Array UInt8) (ks : List Int) (hb : KBw.bInts b = ks) (hk : ks.length ≤ 1000) (i : Nat) (hi : i < ks.length) (t1 t2 : Tok) : PC 4 213 [.bytes b t1, .int i t2] (PartsR (partsP ks i)) := by
  unfold PC
  k_fill
  intro w mean mg mb dp un gd cn cs a ccd cl outer A₀ base h₀ L m s Q E B F X T hcs hd hu hret
  (k_dflt (refine' enterC ?zh52620k1 ?zh52620k2 ?zh52620k3 ?zh52620k5 ?zh52620kA ?zh52620kF ?zh52620kK ?zh52620k6 ?zh52620k7 ?zh52620k8 ?zh52620k9 ?zh52620kB ?zh52620kD ?_ ?zh52620c2 ?zh52620c3 ?zh52620c4; (case zh52620kA => exact rfl); (case zh52620kF => exact rfl); (case zh52620kK => first | assumption | exact rfl); (case zh52620k1 => k_asm); (case zh52620k2 => k_asm); (case zh52620k3 => k_asm); (case zh52620k5 => k_asm); (case zh52620k6 => k_is); (case zh52620k7 => k_is); (case zh52620k8 => (first | exact room_1 hd rfl | exact room_0 hd | ktr_room)); (case zh52620k9 => exact BindsTo.of_eq rfl); (case zh52620kB => exact rfl); (case zh52620kD => decide +kernel); (case zh52620c2 => exact rfl); (case zh52620c3 => exact rfl); (case zh52620c4 => exact rfl); k_whole; intro gzz Lzz hzz tkzz cellszz hgzz FGzz Fzz Nzz Yzz Bzz Xzz Tzz; k_cells Yzz; (try dsimp only); (try k_lift Bzz); (try (show wpAny _ _ _ _ _ _)); (try k_fold)))
  (repeat' (first | (k_unfold; (try dsimp only)) | ((fail_if_success (with_reducible show KswEnd _ _ _ _ _ _ _ _ _ _ _ _)); (fail_if_success (with_reducible show InvEndN _ _ _ _ _ _ _)); (fail_if_success (with_reducible show wpAny _ _ (exec (Stmt.While _ _ _ _) _) _ _ _)); (fail_if_success (with_reducible show wpAny _ _ (exec (Stmt.For _ _ _ _ _) _) _ _ _)); (fail_if_success (with_reducible show wpAny _ _ (exec (Stmt.Assign _ (PySem.Expr.ListComp _ _ _ _) _) _) _ _ _)); (fail_if_success (with_reducible show wpAny _ _ (eval (PySem.Expr.ListComp _ _ _ _) _) _ _ _)); (first | (k_here; (with_reducible show wpAny _ _ (call (Value.ref 208) [Value.bytes _ _, Value.int _ _] _) _ _ _); k_dflt (refine' PC.use (part_end_okI _ _ ?zh62033pb ?zh62033pk _ ?zh62033pi _ _) ?zh62033k1 ?zh62033k2 ?zh62033k3 ?zh62033k4 ?zh62033k5 ?zh62033kK ?zh62033kd ?zh62033ku ?_); (case zh62033pb => first | assumption | exact KBa.ints_make (by assumption)); (case zh62033pk => first | assumption | omega); (case zh62033pi => first | assumption | omega); (( (case zh62033k1 => k_asm); (case zh62033k2 => k_asm); (case zh62033k3 => k_asm); (case zh62033k4 => k_asm); (case zh62033k5 => k_asm); (case zh62033kK => first | exact rfl | assumption); (case zh62033kd => (first | exact room_1 hd rfl | exact room_0 hd | ktr_room)); (case zh62033ku => (first | exact unit_3 hu rfl | ktr_units)))); intro vzz ownzz hzz tkzz hRzz hKzz Fzz Nzz hUzz; clear hKzz hUzz; obtain ⟨hOzz, tVzz, hVzz⟩ := hRzz; subst hOzz hVzz; (try simp only [List.nil_append] at Nzz); (try dsimp only)) | walk1 | (dsimp only; walk1))) | (leave1; walk_say "STEP leave1"; try dsimp only)))
  · rename KBw.bInts _ = List.take _ _ => hA
    rename (_ != _) = true => hB
    have hA' : KBw.bInts _ = sl ks i (i + 2) := hA.trans (by unfold sl; rw [clipAt_nat])
    exact ret_none hret (by assumption) (by unfold partsP; rw [if_pos (by rw [← hA']; exact ne_of_test hB)]) (by assumption) (by assumption)
  rename KBw.bInts _ = List.take _ _ => hA
  rename (_ != _) = false => hB
  have hS : sl ks i (i + 2) = [61, 63] := (show _ = KBw.bInts _ from (by unfold sl; rw [clipAt_nat]; exact hA.symm)).trans (eq_of_test hB)
  clear hA hB
  (((rename Fr _ _ _ _ => lFzz); (with_unfolding_all refine' For_invVF lFzz ?zh39862k1 ?zh39862k2 ?_); (case zh39862k1 => exact rfl); (case zh39862k2 => exact rfl); (repeat' (first | (k_unfold; (try dsimp only)) | ((fail_if_success (with_reducible show wpAny _ _ (pyIter _) _ _ _)); (fail_if_success (with_reducible show wpAny _ _ (exec (Stmt.While _ _ _ _) _) _ _ _)); (fail_if_success (with_reducible show wpAny _ _ (exec (Stmt.For _ _ _ _ _) _) _ _ _)); (fail_if_success (with_reducible show wpAny _ _ (exec (Stmt.Assign _ (PySem.Expr.ListComp _ _ _ _) _) _) _ _ _)); (fail_if_success (with_reducible show wpAny _ _ (eval (PySem.Expr.ListComp _ _ _ _) _) _ _ _)); (first | (k_here; (with_reducible show wpAny _ _ (call (Value.ref 208) [Value.bytes _ _, Value.int _ _] _) _ _ _); k_dflt (refine' PC.use (part_end_okI _ _ ?zh62033pb ?zh62033pk _ ?zh62033pi _ _) ?zh62033k1 ?zh62033k2 ?zh62033k3 ?zh62033k4 ?zh62033k5 ?zh62033kK ?zh62033kd ?zh62033ku ?_); (case zh62033pb => first | assumption | exact KBa.ints_make (by assumption)); (case zh62033pk => first | assumption | omega); (case zh62033pi => first | assumption | omega); (( (case zh62033k1 => k_asm); (case zh62033k2 => k_asm); (case zh62033k3 => k_asm); (case zh62033k4 => k_asm); (case zh62033k5 => k_asm); (case zh62033kK => first | exact rfl | assumption); (case zh62033kd => (first | exact room_1 hd rfl | exact room_0 hd | ktr_room)); (case zh62033ku => (first | exact unit_3 hu rfl | ktr_units)))); intro vzz ownzz hzz tkzz hRzz hKzz Fzz Nzz hUzz; clear hKzz hUzz; obtain ⟨hOzz, tVzz, hVzz⟩ := hRzz; subst hOzz hVzz; (try simp only [List.nil_append] at Nzz); (try dsimp only)) | walk1 | (dsimp only; walk1))) | (leave1; walk_say "STEP leave1"; try dsimp only)))))
  rename IsRange _ _ _ _ _ _ _ _ => hR
  rename Fr _ _ _ _ => lF
  rename News _ _ _ _ => lN
  revert lF lN
  rename Fr _ _ _ _ => l1
  rename News _ _ _ _ => l2
  clear l1 l2
  intro lF lN
  refine with_map lF ?_
  intro m₀ em lF2
  k_dflt refine loop1 (src_range (n := 3) (by rfl) hR (by decide) (by decide)) (fun j m nx => WpInv (mkL ks i j) _ _ _ m₀ m nx) lF2 lN (.mk [_] _ _ (.cons _ _ .nil) ?a map_self) ?_ ?_
  case a => intro z hz; rw [List.mem_singleton.mp hz]; show (0 : Int) ≤ (i : Int) + 1; omega
  · rintro j v m₁ nx h tk own hj ⟨tv, rfl⟩ _ hoff ⟨vs, nn, u, hvs, hnn, rfl⟩ F₁ N₁
    rw [map_over] at F₁
    subst em
    simp only [List.cons_append, List.nil_append, List.map_cons, List.map_nil] at N₁ hoff
    clear lN lF lF2 hR
    obtain ⟨m0, e0⟩ : ∃ z, z = mk ks i 0 := ⟨_, rfl⟩
    obtain ⟨m1, e1⟩ : ∃ z, z = mk ks i 1 := ⟨_, rfl⟩
    obtain ⟨m2, e2⟩ : ∃ z, z = mk ks i 2 := ⟨_, rfl⟩
    obtain rfl | rfl | rfl : j = 0 ∨ j = 1 ∨ j = 2 := by omega
    · have h0 : 0 ≤ m0 := e0 ▸ hnn _ (List.mem_map_of_mem (by decide))
      obtain ⟨w0, rfl⟩ := ints1 (show IntsAre vs [m0] from (by rw [e0]; exact hvs))
      have eL : mkL ks i 1 = [m0] ++ [partEnd ks (m0 + 1).toNat] := (mkL_succ ks i 0).trans (by rw [e0]; rfl)
      have hnn' : ∀ z ∈ [m0], 0 ≤ z := (by rw [e0]; exact hnn)
      have eP : partEnd ks (m0 + 1).toNat = mk ks i 1 := (by rw [e0]; rfl)
      clear hvs hnn e0 e1 e2
      (repeat' (first | (k_unfold; (try dsimp only)) | ((fail_if_success (with_reducible show KswEnd _ _ _ _ _ _ _ _ _ _ _ _)); (fail_if_success (with_reducible show InvEndN _ _ _ _ _ _ _)); (fail_if_success (with_reducible show wpAny _ _ (exec (Stmt.While _ _ _ _) _) _ _ _)); (fail_if_success (with_reducible show wpAny _ _ (exec (Stmt.For _ _ _ _ _) _) _ _ _)); (fail_if_success (with_reducible show wpAny _ _ (exec (Stmt.Assign _ (PySem.Expr.ListComp _ _ _ _) _) _) _ _ _)); (fail_if_success (with_reducible show wpAny _ _ (eval (PySem.Expr.ListComp _ _ _ _) _) _ _ _)); (first | (k_here; (with_reducible show wpAny _ _ (call (Value.ref 208) [Value.bytes _ _, Value.int _ _] _) _ _ _); k_dflt (refine' PC.use (part_end_okI _ _ ?zh62033pb ?zh62033pk _ ?zh62033pi _ _) ?zh62033k1 ?zh62033k2 ?zh62033k3 ?zh62033k4 ?zh62033k5 ?zh62033kK ?zh62033kd ?zh62033ku ?_); (case zh62033pb => first | assumption | exact KBa.ints_make (by assumption)); (case zh62033pk => first | assumption | omega); (case zh62033pi => first | assumption | omega); (( (case zh62033k1 => k_asm); (case zh62033k2 => k_asm); (case zh62033k3 => k_asm); (case zh62033k4 => k_asm); (case zh62033k5 => k_asm); (case zh62033kK => first | exact rfl | assumption); (case zh62033kd => (first | exact room_1 hd rfl | exact room_0 hd | ktr_room)); (case zh62033ku => (first | exact unit_3 hu rfl | ktr_units)))); intro vzz ownzz hzz tkzz hRzz hKzz Fzz Nzz hUzz; clear hKzz hUzz; obtain ⟨hOzz, tVzz, hVzz⟩ := hRzz; subst hOzz hVzz; (try simp only [List.nil_append] at Nzz); (try dsimp only)) | walk1 | (dsimp only; walk1))) | (leave1; walk_say "STEP leave1"; try dsimp only)))
      · rename partEnd ks _ < 0 => hneg
        exact ret_none hret (by assumption) (by unfold partsP; rw [if_neg (fun q => q hS), if_pos (by rw [← eP]; omega)]) (by assumption) (by assumption)
      · rename ¬ partEnd ks _ < 0 => hneg
        rename News _ _ _ _ => nE
        simp only [List.push_toArray] at nE
        refine' InvEndN.intro (by assumption) nE (.mk ([.int m0 w0] ++ [.int (partEnd ks (m0 + 1).toNat) _]) _ _ ?zyi ?zyz rfl) ?zyr ?zyp (fun p hp => List.mem_append_right [_, _, _] hp)
        case zyp => intro p hp; exact List.mem_append_left own hp
        case zyr => rfl
        case zyi => exact eL ▸ .cons _ _ (.cons _ _ (.nil))
        case zyz =>
          intro z hz
          rw [eL] at hz
          rcases List.mem_append.mp hz with hz | hz
          · exact hnn' z hz
          · rw [List.mem_singleton.mp hz]; omega
    · have h0 : 0 ≤ m1 := e1 ▸ hnn _ (List.mem_map_of_mem (by decide))
      obtain ⟨w0, w1, rfl⟩ := ints2 (show IntsAre vs [m0, m1] from (by rw [e0, e1]; exact hvs))
      have eL : mkL ks i 2 = [m0, m1] ++ [partEnd ks (m1 + 1).toNat] := (mkL_succ ks i 1).trans (by rw [e0, e1]; rfl)
      have hnn' : ∀ z ∈ [m0, m1], 0 ≤ z := (by rw [e0, e1]; exact hnn)
      have eP : partEnd ks (m1 + 1).toNat = mk ks i 2 := (by rw [e1]; rfl)
      clear hvs hnn e0 e1 e2
      (repeat' (first | (k_unfold; (try dsimp only)) | ((fail_if_success (with_reducible show KswEnd _ _ _ _ _ _ _ _ _ _ _ _)); (fail_if_success (with_reducible show InvEndN _ _ _ _ _ _ _)); (fail_if_success (with_reducible show wpAny _ _ (exec (Stmt.While _ _ _ _) _) _ _ _)); (fail_if_success (with_reducible show wpAny _ _ (exec (Stmt.For _ _ _ _ _) _) _ _ _)); (fail_if_success (with_reducible show wpAny _ _ (exec (Stmt.Assign _ (PySem.Expr.ListComp _ _ _ _) _) _) _ _ _)); (fail_if_success (with_reducible show wpAny _ _ (eval (PySem.Expr.ListComp _ _ _ _) _) _ _ _)); (first | (k_here; (with_reducible show wpAny _ _ (call (Value.ref 208) [Value.bytes _ _, Value.int _ _] _) _ _ _); k_dflt (refine' PC.use (part_end_okI _ _ ?zh62033pb ?zh62033pk _ ?zh62033pi _ _) ?zh62033k1 ?zh62033k2 ?zh62033k3 ?zh62033k4 ?zh62033k5 ?zh62033kK ?zh62033kd ?zh62033ku ?_); (case zh62033pb => first | assumption | exact KBa.ints_make (by assumption)); (case zh62033pk => first | assumption | omega); (case zh62033pi => first | assumption | omega); (( (case zh62033k1 => k_asm); (case zh62033k2 => k_asm); (case zh62033k3 => k_asm); (case zh62033k4 => k_asm); (case zh62033k5 => k_asm); (case zh62033kK => first | exact rfl | assumption); (case zh62033kd => (first | exact room_1 hd rfl | exact room_0 hd | ktr_room)); (case zh62033ku => (first | exact unit_3 hu rfl | ktr_units)))); intro vzz ownzz hzz tkzz hRzz hKzz Fzz Nzz hUzz; clear hKzz hUzz; obtain ⟨hOzz, tVzz, hVzz⟩ := hRzz; subst hOzz hVzz; (try simp only [List.nil_append] at Nzz); (try dsimp only)) | walk1 | (dsimp only; walk1))) | (leave1; walk_say "STEP leave1"; try dsimp only)))
      · rename partEnd ks _ < 0 => hneg
        exact ret_none hret (by assumption) (by unfold partsP; rw [if_neg (fun q => q hS), if_pos (by rw [← eP]; omega)]) (by assumption) (by assumption)
      · rename ¬ partEnd ks _ < 0 => hneg
        rename News _ _ _ _ => nE
        simp only [List.push_toArray] at nE
        refine' InvEndN.intro (by assumption) nE (.mk ([.int m0 w0, .int m1 w1] ++ [.int (partEnd ks (m1 + 1).toNat) _]) _ _ ?zyi ?zyz rfl) ?zyr ?zyp (fun p hp => List.mem_append_right [_, _, _] hp)
        case zyp => intro p hp; exact List.mem_append_left own hp
        case zyr => rfl
        case zyi => exact eL ▸ .cons _ _ (.cons _ _ (.cons _ _ (.nil)))
        case zyz =>
          intro z hz
          rw [eL] at hz
          rcases List.mem_append.mp hz with hz | hz
          · exact hnn' z hz
          · rw [List.mem_singleton.mp hz]; omega
    · have h0 : 0 ≤ m2 := e2 ▸ hnn _ (List.mem_map_of_mem (by decide))
      obtain ⟨w0, w1, w2, rfl⟩ := ints3 (show IntsAre vs [m0, m1, m2] from (by rw [e0, e1, e2]; exact hvs))
      have eL : mkL ks i 3 = [m0, m1, m2] ++ [partEnd ks (m2 + 1).toNat] := (mkL_succ ks i 2).trans (by rw [e0, e1, e2]; rfl)
      have hnn' : ∀ z ∈ [m0, m1, m2], 0 ≤ z := (by rw [e0, e1, e2]; exact hnn)
      have eP : partEnd ks (m2 + 1).toNat = mk ks i 3 := (by rw [e2]; rfl)
      clear hvs hnn e0 e1 e2
      (repeat' (first | (k_unfold; (try dsimp only)) | ((fail_if_success (with_reducible show KswEnd _ _ _ _ _ _ _ _ _ _ _ _)); (fail_if_success (with_reducible show InvEndN _ _ _ _ _ _ _)); (fail_if_success (with_reducible show wpAny _ _ (exec (Stmt.While _ _ _ _) _) _ _ _)); (fail_if_success (with_reducible show wpAny _ _ (exec (Stmt.For _ _ _ _ _) _) _ _ _)); (fail_if_success (with_reducible show wpAny _ _ (exec (Stmt.Assign _ (PySem.Expr.ListComp _ _ _ _) _) _) _ _ _)); (fail_if_success (with_reducible show wpAny _ _ (eval (PySem.Expr.ListComp _ _ _ _) _) _ _ _)); (first | (k_here; (with_reducible show wpAny _ _ (call (Value.ref 208) [Value.bytes _ _, Value.int _ _] _) _ _ _); k_dflt (refine' PC.use (part_end_okI _ _ ?zh62033pb ?zh62033pk _ ?zh62033pi _ _) ?zh62033k1 ?zh62033k2 ?zh62033k3 ?zh62033k4 ?zh62033k5 ?zh62033kK ?zh62033kd ?zh62033ku ?_); (case zh62033pb => first | assumption | exact KBa.ints_make (by assumption)); (case zh62033pk => first | assumption | omega); (case zh62033pi => first | assumption | omega); (( (case zh62033k1 => k_asm); (case zh62033k2 => k_asm); (case zh62033k3 => k_asm); (case zh62033k4 => k_asm); (case zh62033k5 => k_asm); (case zh62033kK => first | exact rfl | assumption); (case zh62033kd => (first | exact room_1 hd rfl | exact room_0 hd | ktr_room)); (case zh62033ku => (first | exact unit_3 hu rfl | ktr_units)))); intro vzz ownzz hzz tkzz hRzz hKzz Fzz Nzz hUzz; clear hKzz hUzz; obtain ⟨hOzz, tVzz, hVzz⟩ := hRzz; subst hOzz hVzz; (try simp only [List.nil_append] at Nzz); (try dsimp only)) | walk1 | (dsimp only; walk1))) | (leave1; walk_say "STEP leave1"; try dsimp only)))
      · rename partEnd ks _ < 0 => hneg
        exact ret_none hret (by assumption) (by unfold partsP; rw [if_neg (fun q => q hS), if_pos (by rw [← eP]; omega)]) (by assumption) (by assumption)
      · rename ¬ partEnd ks _ < 0 => hneg
        rename News _ _ _ _ => nE
        simp only [List.push_toArray] at nE
        refine' InvEndN.intro (by assumption) nE (.mk ([.int m0 w0, .int m1 w1, .int m2 w2] ++ [.int (partEnd ks (m2 + 1).toNat) _]) _ _ ?zyi ?zyz rfl) ?zyr ?zyp (fun p hp => List.mem_append_right [_, _, _] hp)
        case zyp => intro p hp; exact List.mem_append_left own hp
        case zyr => rfl
        case zyi => exact eL ▸ .cons _ _ (.cons _ _ (.cons _ _ (.cons _ _ (.nil))))
        case zyz =>
          intro z hz
          rw [eL] at hz
          rcases List.mem_append.mp hz with hz | hz
          · exact hnn' z hz
          · rw [List.mem_singleton.mp hz]; omega
  rintro m₁ nx h tk ⟨vs, nn, u, hvs, hnn, rfl⟩ F₁ N₁
  subst em
  clear lN lF lF2 hR
  obtain ⟨m0, e0⟩ : ∃ z, z = mk ks i 0 := ⟨_, rfl⟩
  obtain ⟨m1, e1⟩ : ∃ z, z = mk ks i 1 := ⟨_, rfl⟩
  obtain ⟨m2, e2⟩ : ∃ z, z = mk ks i 2 := ⟨_, rfl⟩
  obtain ⟨m3, e3⟩ : ∃ z, z = mk ks i 3 := ⟨_, rfl⟩
  have eL : mkL ks i 3 = [m0, m1, m2, m3] := (by rw [e0, e1, e2, e3]; rfl)
  rw [eL] at hvs hnn
  obtain ⟨w0, w1, w2, w3, rfl⟩ := ints4 hvs
  have h0 : 0 ≤ m0 := hnn _ (by simp)
  have h1 : 0 ≤ m1 := hnn _ (by simp)
  have h2 : 0 ≤ m2 := hnn _ (by simp)
  have h3 : 0 ≤ m3 := hnn _ (by simp)
  clear hvs hnn
  show wpAny _ _ _ _ _ _
  (repeat' (first | (k_unfold; (try dsimp only)) | ((fail_if_success (with_reducible show KswEnd _ _ _ _ _ _ _ _ _ _ _ _)); (fail_if_success (with_reducible show InvEndN _ _ _ _ _ _ _)); (fail_if_success (with_reducible show wpAny _ _ (exec (Stmt.While _ _ _ _) _) _ _ _)); (fail_if_success (with_reducible show wpAny _ _ (exec (Stmt.For _ _ _ _ _) _) _ _ _)); (fail_if_success (with_reducible show wpAny _ _ (exec (Stmt.Assign _ (PySem.Expr.ListComp _ _ _ _) _) _) _ _ _)); (fail_if_success (with_reducible show wpAny _ _ (eval (PySem.Expr.ListComp _ _ _ _) _) _ _ _)); (first | (k_here; (with_reducible show wpAny _ _ (call (Value.ref 208) [Value.bytes _ _, Value.int _ _] _) _ _ _); k_dflt (refine' PC.use (part_end_okI _ _ ?zh62033pb ?zh62033pk _ ?zh62033pi _ _) ?zh62033k1 ?zh62033k2 ?zh62033k3 ?zh62033k4 ?zh62033k5 ?zh62033kK ?zh62033kd ?zh62033ku ?_); (case zh62033pb => first | assumption | exact KBa.ints_make (by assumption)); (case zh62033pk => first | assumption | omega); (case zh62033pi => first | assumption | omega); (( (case zh62033k1 => k_asm); (case zh62033k2 => k_asm); (case zh62033k3 => k_asm); (case zh62033k4 => k_asm); (case zh62033k5 => k_asm); (case zh62033kK => first | exact rfl | assumption); (case zh62033kd => (first | exact room_1 hd rfl | exact room_0 hd | ktr_room)); (case zh62033ku => (first | exact unit_3 hu rfl | ktr_units)))); intro vzz ownzz hzz tkzz hRzz hKzz Fzz Nzz hUzz; clear hKzz hUzz; obtain ⟨hOzz, tVzz, hVzz⟩ := hRzz; subst hOzz hVzz; (try simp only [List.nil_append] at Nzz); (try dsimp only)) | walk1 | (dsimp only; walk1))) | (leave1; walk_say "STEP leave1"; try dsimp only)))
  · rename KBw.bInts _ = List.take _ _ => hA
    rename (_ != _) = true => hB
    have hA' : KBw.bInts _ = sl ks m3 (m3 + 2) := hA
    refine ret_none hret (by assumption) ?_ (by assumption) (by assumption)
    unfold partsP
    rw [if_neg (fun q => q hS), ← e1, ← e2, ← e3, if_neg (by omega), if_pos (by rw [← hA']; exact ne_of_test hB)]
  rename KBw.bInts _ = List.take _ _ => hA
  rename (_ != _) = false => hB
  have hZ : sl ks m3 (m3 + 2) = [63, 61] := (show _ = KBw.bInts _ from hA.symm).trans (eq_of_test hB)
  have hP : partsP ks i = some (sl ks (m0 + 1) m1, sl ks (m1 + 1) m2, sl ks (m2 + 1) m3, m3 + 2) := by
    unfold partsP
    rw [if_neg (fun q => q hS), ← e0, ← e1, ← e2, ← e3, if_neg (by omega), if_neg (fun q => q hZ)]
  clear hA hB hZ hS F₁ N₁ eL e0 e1 e2 e3
  rw [hP] at hret
  clear hP
  ((k_dflt (refine LCg.Assign_ListComp_U (F₀ := by k_asm) (by rfl) (by with_unfolding_all rfl) (by with_unfolding_all rfl) (by decide) (by rfl) (by decide) (by rfl) (by rfl) (by rfl) ?_); repeat' ((fail_if_success (with_reducible show LCg.CompSrc _ _ _ _ _ _ _ _ _ _ _ _ _ _)); first | walk1 | (dsimp only; walk1))))
  k_dflt refine LCg.CompSrc.range (by rfl) (by k_asm) (by k_asm) (by assumption) (by decide) (by rfl) (by exact Nat.le_of_ble_eq_true rfl) ?_
  intro g'
  refine rest_each (fun j y => IsB (sl ks ([m0, m1, m2, m3].getD j 0 + 1) ([m0, m1, m2, m3].getD (j + 1) 0)) y) ?_ ?_
  · intro j v I oI C oC D m₂ ys h tk E' hj hv hC hx F₂ N₂ off ne
    obtain ⟨tv, rfl⟩ := hv
    replace hj : j < 3 := hj
    clear hret
    revert F₂ N₂
    iterate 3 (rename Fr _ _ _ _ => z; clear z)
    iterate 3 (rename News _ _ _ _ => z; clear z)
    intro F₂ N₂
    have ej : (0 + (j : Int)).toNat = j := by omega
    have ej1 : (0 + (j : Int) + 1).toNat = j + 1 := by omega
    (repeat' (first | (k_unfold; (try dsimp only)) | ((fail_if_success (with_reducible show KswEnd _ _ _ _ _ _ _ _ _ _ _ _)); (fail_if_success (with_reducible show InvEndN _ _ _ _ _ _ _)); (fail_if_success (with_reducible show wpAny _ _ (exec (Stmt.While _ _ _ _) _) _ _ _)); (fail_if_success (with_reducible show wpAny _ _ (exec (Stmt.For _ _ _ _ _) _) _ _ _)); (fail_if_success (with_reducible show wpAny _ _ (exec (Stmt.Assign _ (PySem.Expr.ListComp _ _ _ _) _) _) _ _ _)); (fail_if_success (with_reducible show wpAny _ _ (eval (PySem.Expr.ListComp _ _ _ _) _) _ _ _)); (first | (k_here; (with_reducible show wpAny _ _ (call (Value.ref 208) [Value.bytes _ _, Value.int _ _] _) _ _ _); k_dflt (refine' PC.use (part_end_okI _ _ ?zh62033pb ?zh62033pk _ ?zh62033pi _ _) ?zh62033k1 ?zh62033k2 ?zh62033k3 ?zh62033k4 ?zh62033k5 ?zh62033kK ?zh62033kd ?zh62033ku ?_); (case zh62033pb => first | assumption | exact KBa.ints_make (by assumption)); (case zh62033pk => first | assumption | omega); (case zh62033pi => first | assumption | omega); (( (case zh62033k1 => k_asm); (case zh62033k2 => k_asm); (case zh62033k3 => k_asm); (case zh62033k4 => k_asm); (case zh62033k5 => k_asm); (case zh62033kK => first | exact rfl | assumption); (case zh62033kd => (first | exact room_1 hd rfl | exact room_0 hd | ktr_room)); (case zh62033ku => (first | exact unit_3 hu rfl | ktr_units)))); intro vzz ownzz hzz tkzz hRzz hKzz Fzz Nzz hUzz; clear hKzz hUzz; obtain ⟨hOzz, tVzz, hVzz⟩ := hRzz; subst hOzz hVzz; (try simp only [List.nil_append] at Nzz); (try dsimp only)) | walk1 | (dsimp only; walk1))) | (leave1; walk_say "STEP leave1"; try dsimp only)))
    rename KBw.bInts _ = List.take _ _ => hA
    rw [ej, ej1] at hA ⊢
    exact ⟨_, _, _, rfl, by assumption, by assumption, off, trivial, rfl, _, _, rfl, hA⟩
  · intro ys hl hy
    replace hl : ys.length = 3 := hl
    obtain ⟨y0, y1, y2, rfl⟩ := len3 hl
    obtain ⟨b0, s0, rfl, hb0⟩ := hy 0 y0 rfl
    obtain ⟨b1, s1, rfl, hb1⟩ := hy 1 y1 rfl
    obtain ⟨b2, s2, rfl, hb2⟩ := hy 2 y2 rfl
    unfold LCg.FinA
    intro D h tk F' N' o1
    clear hy
    revert F' N'
    iterate 3 (rename Fr _ _ _ _ => z; clear z)
    iterate 3 (rename News _ _ _ _ => z; clear z)
    intro F' N'
    show wpAny _ _ _ _ _ _
    (repeat' (first | (k_unfold; (try dsimp only)) | ((fail_if_success (with_reducible show KswEnd _ _ _ _ _ _ _ _ _ _ _ _)); (fail_if_success (with_reducible show InvEndN _ _ _ _ _ _ _)); (fail_if_success (with_reducible show wpAny _ _ (exec (Stmt.While _ _ _ _) _) _ _ _)); (fail_if_success (with_reducible show wpAny _ _ (exec (Stmt.For _ _ _ _ _) _) _ _ _)); (fail_if_success (with_reducible show wpAny _ _ (exec (Stmt.Assign _ (PySem.Expr.ListComp _ _ _ _) _) _) _ _ _)); (fail_if_success (with_reducible show wpAny _ _ (eval (PySem.Expr.ListComp _ _ _ _) _) _ _ _)); (first | (k_here; (with_reducible show wpAny _ _ (call (Value.ref 208) [Value.bytes _ _, Value.int _ _] _) _ _ _); k_dflt (refine' PC.use (part_end_okI _ _ ?zh62033pb ?zh62033pk _ ?zh62033pi _ _) ?zh62033k1 ?zh62033k2 ?zh62033k3 ?zh62033k4 ?zh62033k5 ?zh62033kK ?zh62033kd ?zh62033ku ?_); (case zh62033pb => first | assumption | exact KBa.ints_make (by assumption)); (case zh62033pk => first | assumption | omega); (case zh62033pi => first | assumption | omega); (( (case zh62033k1 => k_asm); (case zh62033k2 => k_asm); (case zh62033k3 => k_asm); (case zh62033k4 => k_asm); (case zh62033k5 => k_asm); (case zh62033kK => first | exact rfl | assumption); (case zh62033kd => (first | exact room_1 hd rfl | exact room_0 hd | ktr_room)); (case zh62033ku => (first | exact unit_3 hu rfl | ktr_units)))); intro vzz ownzz hzz tkzz hRzz hKzz Fzz Nzz hUzz; clear hKzz hUzz; obtain ⟨hOzz, tVzz, hVzz⟩ := hRzz; subst hOzz hVzz; (try simp only [List.nil_append] at Nzz); (try dsimp only)) | walk1 | (dsimp only; walk1))) | (leave1; walk_say "STEP leave1"; try dsimp only)))
    exact ret_own [_] hret (by assumption) ⟨_, _, _, _, _, rfl, rfl, ⟨_, _, rfl, hb0⟩, ⟨_, _, rfl, hb1⟩, ⟨_, _, rfl, hb2⟩⟩ (by assumption) (by assumption) (by assumption) (by assumption) (fun p hp => by rw [List.mem_singleton.mp hp]; exact .head _)
/-- the same with a break: what holds after it is what holds at the end -/
theorem loop1C {prog : Program} {w : World} {A : Around} {E : Value → Shared → Prop} {s : Shared} {h₀ : Heap} {env : Env} {x : Str} {body : List Stmt} {Q : Flow → Shared → Prop} {xv : Value} {n : Nat} {P : Nat → Value → Prop} {m₀ : Str → Option Value} {news : List (Addr × Obj)} (S : Src prog w A s xv n P) (J : Nat → (Str → Option Value) → List (Addr × Obj) → Prop) (e : Nat)
    (F : Fr h₀ env.locals s.heap m₀) (N : News h₀ env.locals s.heap news) (hj : J 0 m₀ news)
    (cont : ∀ m₁ news₁ h tk, J e m₁ news₁ → Fr h₀ env.locals h m₁ → News h₀ env.locals h news₁ → Q .next { s with heap := h, toks := tk })
    (last : ∀ m₁ news₁, J n m₁ news₁ → J e m₁ news₁)
    (turn : ∀ Q : Flow → Shared → Prop, (∀ m₁ news₁ h tk, J e m₁ news₁ → Fr h₀ env.locals h m₁ → News h₀ env.locals h news₁ → Q .next { s with heap := h, toks := tk }) → ∀ i v m₁ news₁ h tk own, i < n → P i v → news₁.map (·.1) = news.map (·.1) → OwnOff own (news.map (·.1)) → J i m₁ news₁ → Fr h₀ env.locals h (fun y => if y = x then some v else m₁ y) → News h₀ env.locals h (news₁ ++ own) →
      wpAny (model prog w) A (execs body env) (InvPostN h₀ env.locals (J (i + 1)) own (news.map (·.1)) { s with heap := h, toks := tk } Q) E { s with heap := h, toks := tk }) :
    wpAny (model prog w) A (pyIter xv) (fun it s₂ => LoopAtV prog w A h₀ env x body Q E it s₂) E s :=
  loop1 S J F N hj (turn Q cont) fun m₁ news₁ h tk hq => cont m₁ news₁ h tk (last _ _ hq)
theorem take_clip (ks : List Int) (a k : Nat) : (ks.drop a).take (min (a + k) ks.length - a) = (ks.drop a).take k := by
  by_cases h : a + k ≤ ks.length
  · rw [Nat.min_eq_left h, Nat.add_sub_cancel_left]
  · have h1 := Nat.le_of_not_le h
    rw [Nat.min_eq_right h1, List.take_of_length_le (by rw [List.length_drop]; exact Nat.le_refl _), List.take_of_length_le (by rw [List.length_drop]; exact Nat.sub_le_iff_le_add'.mpr h1)]
/-- the numbers of the signs -/
def sg (j : Int) : Int := sigs.getD j.toNat 0
def dgrp (js : List Int) (k : Nat) : List Int := if js.length > 4 * k + 1 then grp ((js.drop (4 * k)).take 4) else []
def dec (js : List Int) : List Int := ((List.range ((js.length + 3) / 4)).map (dgrp js)).flatten
theorem sig_find (j : Nat) (h : j < 64) : (List.range 64).find? (fun i => decide (sigs.getD i 0 = sigs.getD j 0)) = some j := by
  have : ∀ j < 64, (List.range 64).find? (fun i => decide (sigs.getD i 0 = sigs.getD j 0)) = some j := by decide +kernel
  exact this j h
theorem worth_at (ts : Nat → Tok) (j : Int) (h0 : 0 ≤ j) (h : j < 64) : valueAt ((List.range 64).map fun i => (sigs.getD i 0, Value.int (i : Int) (ts i))) (sg j) = some (.int j (ts j.toNat)) := by
  unfold valueAt sg
  rw [List.find?_map]
  have := sig_find j.toNat (by omega)
  rw [show ((fun kv : Int × Value => decide (kv.1 = sigs.getD j.toNat 0)) ∘ fun i : Nat => (sigs.getD i 0, Value.int (i : Int) (ts i))) = fun i : Nat => decide (sigs.getD i 0 = sigs.getD j.toNat 0) from rfl, this]
  simp only [Option.map_some, Function.comp_apply, Int.toNat_of_nonneg h0]
theorem sg_ne (j : Int) (h0 : 0 ≤ j) (h : j < 64) : sg j ≠ 61 := by
  have : ∀ k < 64, sigs.getD k 0 ≠ 61 := by decide +kernel
  exact this j.toNat (by omega)
theorem small_4 {n : Nat} (h : n ≤ 100) : Builtin.Range.small 0 (n : Int) 4 = true := by
  have : ∀ n ≤ 100, Builtin.Range.small 0 ((n : Nat) : Int) 4 = true := by decide +kernel
  exact this n h
inductive DecA (l : List Int) (x : Addr) (q : Addr × Obj) (m₀ m : Str → Option Value) : List (Addr × Obj) → Prop
  | mk (vs : List Value) (nn : Nat) (u : Option Value) : IntsAre vs l → (m = fun z => if z = Str.ofString "code" then u else m₀ z) → DecA l x q m₀ m [(x, PySem.W.listOf vs.toArray nn), q]
inductive DecB (js : List Int) (i : Nat) (x : Addr) (p q : Addr × Obj) (m₀ m : Str → Option Value) : List (Addr × Obj) → Prop
  | mk (vf : List Value) (kf : List (List Int)) (nf : Nat) (u : Option Value) : BytesAre vf kf → kf.flatten = ((List.range i).map (dgrp js)).flatten → (kf.map (·.length)).sum ≤ 3 * i → vf.length ≤ i → (m = fun z => if z = Str.ofString "begin" then u else m₀ z) → DecB js i x p q m₀ m [(x, PySem.W.listOf vf.toArray nf), p, q]
set_option maxHeartbeats 1000000 in
theorem decoded_ok (b : Array UInt8) (js : List Int) (p : Nat) (hb : KBw.bInts b = js.map sg ++ List.replicate p 61) (hj : ∀ j ∈ js, 0 ≤ j ∧ j < 64) (hk : js.length ≤ 100) (hp : p ≤ 100) (t1 : Tok) : PC 5 38 [.bytes b t1] (Im (IsB (dec js))) := by
  unfold PC
  k_fill
  intro w mean mg mb dp un gd cn cs a ccd cl outer A₀ base h₀ L m s Q E B F X T hcs hd hu hret
  (k_dflt (refine' enter ?zh1365k1 ?zh1365k2 ?zh1365k3 ?zh1365k5 ?zh1365kA ?zh1365kF ?zh1365kK ?zh1365k6 ?zh1365k7 ?zh1365k8 ?zh1365k9 ?zh1365kB ?_ ?zh1365c2 ?zh1365c3 ?zh1365c4 ?zh1365c5; (case zh1365kA => exact rfl); (case zh1365kF => exact rfl); (case zh1365kK => first | assumption | exact rfl); (case zh1365k1 => k_asm); (case zh1365k2 => k_asm); (case zh1365k3 => k_asm); (case zh1365k5 => k_asm); (case zh1365k6 => k_is); (case zh1365k7 => k_is); (case zh1365k8 => (first | exact room_1 hd rfl | exact room_0 hd | ktr_room)); (case zh1365k9 => exact BindsTo.of_eq rfl); (case zh1365c5 => decide); (case zh1365kB => exact locs rfl); (case zh1365c2 => exact rfl); (case zh1365c3 => exact rfl); (case zh1365c4 => exact rfl); k_whole; intro gzz Lzz hzz hgzz FGzz Fzz Nzz Bzz Xzz Tzz; (try dsimp only); (try k_lift Bzz); (try (show wpAny _ _ _ _ _ _)); (try k_fold)))
  (repeat' (first | (k_unfold; (try dsimp only)) | ((fail_if_success (with_reducible show KswEnd _ _ _ _ _ _ _ _ _ _ _ _)); (fail_if_success (with_reducible show InvEndN _ _ _ _ _ _ _)); (fail_if_success (with_reducible show wpAny _ _ (exec (Stmt.While _ _ _ _) _) _ _ _)); (fail_if_success (with_reducible show wpAny _ _ (exec (Stmt.For _ _ _ _ _) _) _ _ _)); (fail_if_success (with_reducible show wpAny _ _ (exec (Stmt.Assign _ (PySem.Expr.ListComp _ _ _ _) _) _) _ _ _)); (fail_if_success (with_reducible show wpAny _ _ (eval (PySem.Expr.ListComp _ _ _ _) _) _ _ _)); (first | (k_here; (with_reducible show wpAny _ _ (subscriptTail _ _ (Value.ref _) (Value.int _ _)) _ _ _); k_dflt (refine' kda_item (knd := PySem.intKind _ _) ?zh11240N ?zh11240p ?zh11240d (intKind_is _ _ _ _) ?zh11240l ?_; (case zh11240N => k_asm); (case zh11240p => k_mem); (case zh11240d => assumption); (case zh11240l => assumption))) | (k_here; (with_reducible show wpAny _ _ (compareOp CmpOp.In (Value.int _ _) (Value.ref _)) _ _ _); k_dflt (refine' kda_in (knd := PySem.intKind _ _) ?zh57859N ?zh57859p ?zh57859d ?zh57859lo (intKind_is _ _ _ _) true ?zh57859b ?_; (case zh57859N => k_asm); (case zh57859p => k_mem); (case zh57859d => assumption); (case zh57859lo => assumption); (case zh57859b => (rename valueAt _ _ = some _ => hv; rw [hv]; rfl)))) | (k_here; (with_reducible refine KBd.method_of (name := "join") _ (typeIs_bytes _ _ _) BJ.slot BJ.type KBd.noRef ?_)) | (k_here; (with_reducible show wpAny _ _ (call (Value.builtin "bytes.join") [Value.bytes _ _, Value.ref _]) _ _ _); k_dflt (refine' bytes_join_L ?zh61018jl ?zh61018ji ?zh61018jz ?_; (case zh61018jl => is_list); (case zh61018ji => assumption); (case zh61018jz => first | assumption | omega); k_whole); intro bzz _ _ hbzz) | walk1 | (dsimp only; walk1))) | (leave1; walk_say "STEP leave1"; try dsimp only)))
  k_dflt (refine' PC.use (worth_table_ok _ ?hb _) ?k1 ?k2 ?k3 ?k4 ?k5 ?kK ?kd ?ku ?_)
  case hb => rfl
  (( (case k1 => k_asm); (case k2 => k_asm); (case k3 => k_asm); (case k4 => k_asm); (case k5 => k_asm); (case kK => first | exact rfl | assumption); (case kd => (first | exact room_1 hd rfl | exact room_0 hd | ktr_room)); (case ku => (first | exact unit_3 hu rfl | ktr_units))))
  rintro v' own' h' tk' ⟨xt, ot, ts, rfl, rfl, lo, hdict⟩ hK' F' N' hU'
  replace hdict := hdict w
  clear hK' hU'
  simp only [List.singleton_append] at N'
  dsimp only
  (repeat' (first | (k_unfold; (try dsimp only)) | ((fail_if_success (with_reducible show KswEnd _ _ _ _ _ _ _ _ _ _ _ _)); (fail_if_success (with_reducible show InvEndN _ _ _ _ _ _ _)); (fail_if_success (with_reducible show wpAny _ _ (exec (Stmt.While _ _ _ _) _) _ _ _)); (fail_if_success (with_reducible show wpAny _ _ (exec (Stmt.For _ _ _ _ _) _) _ _ _)); (fail_if_success (with_reducible show wpAny _ _ (exec (Stmt.Assign _ (PySem.Expr.ListComp _ _ _ _) _) _) _ _ _)); (fail_if_success (with_reducible show wpAny _ _ (eval (PySem.Expr.ListComp _ _ _ _) _) _ _ _)); (first | (k_here; (with_reducible show wpAny _ _ (subscriptTail _ _ (Value.ref _) (Value.int _ _)) _ _ _); k_dflt (refine' kda_item (knd := PySem.intKind _ _) ?zh11240N ?zh11240p ?zh11240d (intKind_is _ _ _ _) ?zh11240l ?_; (case zh11240N => k_asm); (case zh11240p => k_mem); (case zh11240d => assumption); (case zh11240l => assumption))) | (k_here; (with_reducible show wpAny _ _ (compareOp CmpOp.In (Value.int _ _) (Value.ref _)) _ _ _); k_dflt (refine' kda_in (knd := PySem.intKind _ _) ?zh57859N ?zh57859p ?zh57859d ?zh57859lo (intKind_is _ _ _ _) true ?zh57859b ?_; (case zh57859N => k_asm); (case zh57859p => k_mem); (case zh57859d => assumption); (case zh57859lo => assumption); (case zh57859b => (rename valueAt _ _ = some _ => hv; rw [hv]; rfl)))) | (k_here; (with_reducible refine KBd.method_of (name := "join") _ (typeIs_bytes _ _ _) BJ.slot BJ.type KBd.noRef ?_)) | (k_here; (with_reducible show wpAny _ _ (call (Value.builtin "bytes.join") [Value.bytes _ _, Value.ref _]) _ _ _); k_dflt (refine' bytes_join_L ?zh61018jl ?zh61018ji ?zh61018jz ?_; (case zh61018jl => is_list); (case zh61018ji => assumption); (case zh61018jz => first | assumption | omega); k_whole); intro bzz _ _ hbzz) | walk1 | (dsimp only; walk1))) | (leave1; walk_say "STEP leave1"; try dsimp only)))
  (((rename Fr _ _ _ _ => lFzz); (with_unfolding_all refine' For_invVF lFzz ?zh39862k1 ?zh39862k2 ?_); (case zh39862k1 => exact rfl); (case zh39862k2 => exact rfl); (repeat' (first | (k_unfold; (try dsimp only)) | ((fail_if_success (with_reducible show wpAny _ _ (pyIter _) _ _ _)); (fail_if_success (with_reducible show wpAny _ _ (exec (Stmt.While _ _ _ _) _) _ _ _)); (fail_if_success (with_reducible show wpAny _ _ (exec (Stmt.For _ _ _ _ _) _) _ _ _)); (fail_if_success (with_reducible show wpAny _ _ (exec (Stmt.Assign _ (PySem.Expr.ListComp _ _ _ _) _) _) _ _ _)); (fail_if_success (with_reducible show wpAny _ _ (eval (PySem.Expr.ListComp _ _ _ _) _) _ _ _)); (first | (k_here; (with_reducible show wpAny _ _ (subscriptTail _ _ (Value.ref _) (Value.int _ _)) _ _ _); k_dflt (refine' kda_item (knd := PySem.intKind _ _) ?zh11240N ?zh11240p ?zh11240d (intKind_is _ _ _ _) ?zh11240l ?_; (case zh11240N => k_asm); (case zh11240p => k_mem); (case zh11240d => assumption); (case zh11240l => assumption))) | (k_here; (with_reducible show wpAny _ _ (compareOp CmpOp.In (Value.int _ _) (Value.ref _)) _ _ _); k_dflt (refine' kda_in (knd := PySem.intKind _ _) ?zh57859N ?zh57859p ?zh57859d ?zh57859lo (intKind_is _ _ _ _) true ?zh57859b ?_; (case zh57859N => k_asm); (case zh57859p => k_mem); (case zh57859d => assumption); (case zh57859lo => assumption); (case zh57859b => (rename valueAt _ _ = some _ => hv; rw [hv]; rfl)))) | (k_here; (with_reducible refine KBd.method_of (name := "join") _ (typeIs_bytes _ _ _) BJ.slot BJ.type KBd.noRef ?_)) | (k_here; (with_reducible show wpAny _ _ (call (Value.builtin "bytes.join") [Value.bytes _ _, Value.ref _]) _ _ _); k_dflt (refine' bytes_join_L ?zh61018jl ?zh61018ji ?zh61018jz ?_; (case zh61018jl => is_list); (case zh61018ji => assumption); (case zh61018jz => first | assumption | omega); k_whole); intro bzz _ _ hbzz) | walk1 | (dsimp only; walk1))) | (leave1; walk_say "STEP leave1"; try dsimp only)))))
  rename Fr _ _ _ _ => lF
  rename News _ _ _ _ => lN
  refine with_map lF ?_
  intro m₀ em lF2
  k_dflt refine loop1C (src_bytes (by rfl) hb) (fun i m nx => DecA (js.take i) _ _ m₀ m nx) js.length lF2 lN (.mk [] _ _ .nil map_self) ?_ ?_ ?_
  rotate_left
  · rintro m₁ nx ⟨vs, nn, u, hvs, e2⟩
    refine .mk vs nn u ?_ e2
    rw [List.take_of_length_le (by simp)] at hvs
    rw [List.take_length]
    exact hvs
  · rintro QQ hcont i v m₁ nx h tk own hi ⟨k, tc, hkk, rfl⟩ _ hoff ⟨vs, nn, u, hvs, rfl⟩ F₁ N₁
    rw [map_over] at F₁
    simp only [List.cons_append, List.nil_append, List.map_cons, List.map_nil] at N₁ hoff
    by_cases hlt : i < js.length
    · have hjb := hj js[i] (List.getElem_mem hlt)
      have ek : k = sg js[i] := by
        rw [List.getElem?_append_left (by simpa using hlt)] at hkk
        simp [hlt] at hkk
        exact hkk.symm
      subst ek
      have hne := sg_ne js[i] hjb.1 hjb.2
      have hv := worth_at ts js[i] hjb.1 hjb.2
      generalize hc : sg js[i] = c at *
      subst em
      clear lN lF lF2
      (repeat' (first | (k_unfold; (try dsimp only)) | ((fail_if_success (with_reducible show KswEnd _ _ _ _ _ _ _ _ _ _ _ _)); (fail_if_success (with_reducible show InvEndN _ _ _ _ _ _ _)); (fail_if_success (with_reducible show wpAny _ _ (exec (Stmt.While _ _ _ _) _) _ _ _)); (fail_if_success (with_reducible show wpAny _ _ (exec (Stmt.For _ _ _ _ _) _) _ _ _)); (fail_if_success (with_reducible show wpAny _ _ (exec (Stmt.Assign _ (PySem.Expr.ListComp _ _ _ _) _) _) _ _ _)); (fail_if_success (with_reducible show wpAny _ _ (eval (PySem.Expr.ListComp _ _ _ _) _) _ _ _)); (first | (k_here; (with_reducible show wpAny _ _ (subscriptTail _ _ (Value.ref _) (Value.int _ _)) _ _ _); k_dflt (refine' kda_item (knd := PySem.intKind _ _) ?zh11240N ?zh11240p ?zh11240d (intKind_is _ _ _ _) ?zh11240l ?_; (case zh11240N => k_asm); (case zh11240p => k_mem); (case zh11240d => assumption); (case zh11240l => assumption))) | (k_here; (with_reducible show wpAny _ _ (compareOp CmpOp.In (Value.int _ _) (Value.ref _)) _ _ _); k_dflt (refine' kda_in (knd := PySem.intKind _ _) ?zh57859N ?zh57859p ?zh57859d ?zh57859lo (intKind_is _ _ _ _) true ?zh57859b ?_; (case zh57859N => k_asm); (case zh57859p => k_mem); (case zh57859d => assumption); (case zh57859lo => assumption); (case zh57859b => (rename valueAt _ _ = some _ => hv; rw [hv]; rfl)))) | (k_here; (with_reducible refine KBd.method_of (name := "join") _ (typeIs_bytes _ _ _) BJ.slot BJ.type KBd.noRef ?_)) | (k_here; (with_reducible show wpAny _ _ (call (Value.builtin "bytes.join") [Value.bytes _ _, Value.ref _]) _ _ _); k_dflt (refine' bytes_join_L ?zh61018jl ?zh61018ji ?zh61018jz ?_; (case zh61018jl => is_list); (case zh61018ji => assumption); (case zh61018jz => first | assumption | omega); k_whole); intro bzz _ _ hbzz) | walk1 | (dsimp only; walk1))) | (leave1; walk_say "STEP leave1"; try dsimp only)))
      · rename c = 61 => he
        exact absurd he hne
      rename Fr _ _ _ _ => fE
      rename News _ _ _ _ => nE
      (try simp only [List.push_toArray] at nE)
      refine' InvEndN.intro fE nE (.mk (vs ++ [.int js[i] _]) _ _ ?zyi rfl) rfl ?zyp (fun p hp => List.mem_append_right [_, _] hp)
      case zyp => intro p hp; exact List.mem_append_left own hp
      case zyi =>
        rw [List.take_add_one, List.getElem?_eq_getElem hlt]
        exact hvs.append (.cons _ _ .nil)
    · have ek : k = 61 := by
        rw [List.getElem?_append_right (by simp; omega)] at hkk
        rw [List.getElem?_replicate] at hkk
        split at hkk
        · exact (Option.some.inj hkk).symm
        · cases hkk
      subst ek
      have hvj : IntsAre vs (js.take js.length) := by
        rw [List.take_of_length_le (by omega)] at hvs
        rw [List.take_length]
        exact hvs
      subst em
      clear lN lF lF2
      (repeat' (first | (k_unfold; (try dsimp only)) | ((fail_if_success (with_reducible show KswEnd _ _ _ _ _ _ _ _ _ _ _ _)); (fail_if_success (with_reducible show InvEndN _ _ _ _ _ _ _)); (fail_if_success (with_reducible show wpAny _ _ (exec (Stmt.While _ _ _ _) _) _ _ _)); (fail_if_success (with_reducible show wpAny _ _ (exec (Stmt.For _ _ _ _ _) _) _ _ _)); (fail_if_success (with_reducible show wpAny _ _ (exec (Stmt.Assign _ (PySem.Expr.ListComp _ _ _ _) _) _) _ _ _)); (fail_if_success (with_reducible show wpAny _ _ (eval (PySem.Expr.ListComp _ _ _ _) _) _ _ _)); (first | (k_here; (with_reducible show wpAny _ _ (subscriptTail _ _ (Value.ref _) (Value.int _ _)) _ _ _); k_dflt (refine' kda_item (knd := PySem.intKind _ _) ?zh11240N ?zh11240p ?zh11240d (intKind_is _ _ _ _) ?zh11240l ?_; (case zh11240N => k_asm); (case zh11240p => k_mem); (case zh11240d => assumption); (case zh11240l => assumption))) | (k_here; (with_reducible show wpAny _ _ (compareOp CmpOp.In (Value.int _ _) (Value.ref _)) _ _ _); k_dflt (refine' kda_in (knd := PySem.intKind _ _) ?zh57859N ?zh57859p ?zh57859d ?zh57859lo (intKind_is _ _ _ _) true ?zh57859b ?_; (case zh57859N => k_asm); (case zh57859p => k_mem); (case zh57859d => assumption); (case zh57859lo => assumption); (case zh57859b => (rename valueAt _ _ = some _ => hv; rw [hv]; rfl)))) | (k_here; (with_reducible refine KBd.method_of (name := "join") _ (typeIs_bytes _ _ _) BJ.slot BJ.type KBd.noRef ?_)) | (k_here; (with_reducible show wpAny _ _ (call (Value.builtin "bytes.join") [Value.bytes _ _, Value.ref _]) _ _ _); k_dflt (refine' bytes_join_L ?zh61018jl ?zh61018ji ?zh61018jz ?_; (case zh61018jl => is_list); (case zh61018ji => assumption); (case zh61018jz => first | assumption | omega); k_whole); intro bzz _ _ hbzz) | walk1 | (dsimp only; walk1))) | (leave1; walk_say "STEP leave1"; try dsimp only)))
      rename Fr _ _ _ _ => fE
      rename News _ _ _ _ => nE
      exact hcont _ _ _ _ (.mk vs nn _ hvj rfl) fE (fun p hp => nE p (List.mem_append_left own hp))
  rintro m₁ nx h tk ⟨vs, nn, u, hvs, rfl⟩ F₁ N₁
  subst em
  clear lN lF lF2 hdict
  rw [List.take_length] at hvs
  (repeat' (first | (k_unfold; (try dsimp only)) | ((fail_if_success (with_reducible show KswEnd _ _ _ _ _ _ _ _ _ _ _ _)); (fail_if_success (with_reducible show InvEndN _ _ _ _ _ _ _)); (fail_if_success (with_reducible show wpAny _ _ (exec (Stmt.While _ _ _ _) _) _ _ _)); (fail_if_success (with_reducible show wpAny _ _ (exec (Stmt.For _ _ _ _ _) _) _ _ _)); (fail_if_success (with_reducible show wpAny _ _ (exec (Stmt.Assign _ (PySem.Expr.ListComp _ _ _ _) _) _) _ _ _)); (fail_if_success (with_reducible show wpAny _ _ (eval (PySem.Expr.ListComp _ _ _ _) _) _ _ _)); (first | (k_here; (with_reducible show wpAny _ _ (subscriptTail _ _ (Value.ref _) (Value.int _ _)) _ _ _); k_dflt (refine' kda_item (knd := PySem.intKind _ _) ?zh11240N ?zh11240p ?zh11240d (intKind_is _ _ _ _) ?zh11240l ?_; (case zh11240N => k_asm); (case zh11240p => k_mem); (case zh11240d => assumption); (case zh11240l => assumption))) | (k_here; (with_reducible show wpAny _ _ (compareOp CmpOp.In (Value.int _ _) (Value.ref _)) _ _ _); k_dflt (refine' kda_in (knd := PySem.intKind _ _) ?zh57859N ?zh57859p ?zh57859d ?zh57859lo (intKind_is _ _ _ _) true ?zh57859b ?_; (case zh57859N => k_asm); (case zh57859p => k_mem); (case zh57859d => assumption); (case zh57859lo => assumption); (case zh57859b => (rename valueAt _ _ = some _ => hv; rw [hv]; rfl)))) | (k_here; (with_reducible refine KBd.method_of (name := "join") _ (typeIs_bytes _ _ _) BJ.slot BJ.type KBd.noRef ?_)) | (k_here; (with_reducible show wpAny _ _ (call (Value.builtin "bytes.join") [Value.bytes _ _, Value.ref _]) _ _ _); k_dflt (refine' bytes_join_L ?zh61018jl ?zh61018ji ?zh61018jz ?_; (case zh61018jl => is_list); (case zh61018ji => assumption); (case zh61018jz => first | assumption | omega); k_whole); intro bzz _ _ hbzz) | walk1 | (dsimp only; walk1))) | (leave1; walk_say "STEP leave1"; try dsimp only)))
  (((rename Fr _ _ _ _ => lFzz); (with_unfolding_all refine' For_invVF lFzz ?zh39862k1 ?zh39862k2 ?_); (case zh39862k1 => exact rfl); (case zh39862k2 => exact rfl); (repeat' (first | (k_unfold; (try dsimp only)) | ((fail_if_success (with_reducible show wpAny _ _ (pyIter _) _ _ _)); (fail_if_success (with_reducible show wpAny _ _ (exec (Stmt.While _ _ _ _) _) _ _ _)); (fail_if_success (with_reducible show wpAny _ _ (exec (Stmt.For _ _ _ _ _) _) _ _ _)); (fail_if_success (with_reducible show wpAny _ _ (exec (Stmt.Assign _ (PySem.Expr.ListComp _ _ _ _) _) _) _ _ _)); (fail_if_success (with_reducible show wpAny _ _ (eval (PySem.Expr.ListComp _ _ _ _) _) _ _ _)); (first | (k_here; (with_reducible show wpAny _ _ (subscriptTail _ _ (Value.ref _) (Value.int _ _)) _ _ _); k_dflt (refine' kda_item (knd := PySem.intKind _ _) ?zh11240N ?zh11240p ?zh11240d (intKind_is _ _ _ _) ?zh11240l ?_; (case zh11240N => k_asm); (case zh11240p => k_mem); (case zh11240d => assumption); (case zh11240l => assumption))) | (k_here; (with_reducible show wpAny _ _ (compareOp CmpOp.In (Value.int _ _) (Value.ref _)) _ _ _); k_dflt (refine' kda_in (knd := PySem.intKind _ _) ?zh57859N ?zh57859p ?zh57859d ?zh57859lo (intKind_is _ _ _ _) true ?zh57859b ?_; (case zh57859N => k_asm); (case zh57859p => k_mem); (case zh57859d => assumption); (case zh57859lo => assumption); (case zh57859b => (rename valueAt _ _ = some _ => hv; rw [hv]; rfl)))) | (k_here; (with_reducible refine KBd.method_of (name := "join") _ (typeIs_bytes _ _ _) BJ.slot BJ.type KBd.noRef ?_)) | (k_here; (with_reducible show wpAny _ _ (call (Value.builtin "bytes.join") [Value.bytes _ _, Value.ref _]) _ _ _); k_dflt (refine' bytes_join_L ?zh61018jl ?zh61018ji ?zh61018jz ?_; (case zh61018jl => is_list); (case zh61018ji => assumption); (case zh61018jz => first | assumption | omega); k_whole); intro bzz _ _ hbzz) | walk1 | (dsimp only; walk1))) | (leave1; walk_say "STEP leave1"; try dsimp only)))))
  rename IsRange _ _ _ _ _ _ _ _ => hR
  rename Fr _ _ _ _ => lF
  rename News _ _ _ _ => lN
  rename _ < _ ∧ _ < _ => hlt3
  refine with_map lF ?_
  intro m₀ em lF2
  have hq : 4 * ((js.length + 3) / 4) ≤ js.length + 3 := Nat.mul_div_le _ _
  have hq2 : js.length + 3 < 4 * ((js.length + 3) / 4 + 1) := by omega
  k_dflt refine loop1 (src_range (n := (js.length + 3) / 4) (by rfl) hR ?s1 ?s2) (fun i m nx => DecB js i _ _ _ m₀ m nx) lF2 lN (.mk [] [] _ _ .nil rfl (Nat.le_refl _) (Nat.le_refl _) map_self) ?_ ?_
  case s1 => exact small_4 hk
  case s2 =>
    unfold Builtin.Range.rangeSize
    rw [if_pos (by decide)]
    split <;> omega
  · rintro i v m₁ nx h tk own hi ⟨tv, rfl⟩ _ hoff ⟨vf, kf, nf, u2, hvf, hfl, hsz, hln, rfl⟩ F₁ N₁
    rw [map_over] at F₁
    subst em
    clear lN lF lF2 hR
    simp only [List.cons_append, List.nil_append, List.map_cons, List.map_nil] at N₁ hoff
    revert F₁ N₁
    iterate 1 (rename Fr _ _ _ _ => z; clear z)
    iterate 1 (rename News _ _ _ _ => z; clear z)
    intro F₁ N₁
    (repeat' (first | (k_unfold; (try dsimp only)) | ((fail_if_success (with_reducible show KswEnd _ _ _ _ _ _ _ _ _ _ _ _)); (fail_if_success (with_reducible show InvEndN _ _ _ _ _ _ _)); (fail_if_success (with_reducible show wpAny _ _ (exec (Stmt.While _ _ _ _) _) _ _ _)); (fail_if_success (with_reducible show wpAny _ _ (exec (Stmt.For _ _ _ _ _) _) _ _ _)); (fail_if_success (with_reducible show wpAny _ _ (exec (Stmt.Assign _ (PySem.Expr.ListComp _ _ _ _) _) _) _ _ _)); (fail_if_success (with_reducible show wpAny _ _ (eval (PySem.Expr.ListComp _ _ _ _) _) _ _ _)); (first | (k_here; (with_reducible show wpAny _ _ (subscriptTail _ _ (Value.ref _) (Value.int _ _)) _ _ _); k_dflt (refine' kda_item (knd := PySem.intKind _ _) ?zh11240N ?zh11240p ?zh11240d (intKind_is _ _ _ _) ?zh11240l ?_; (case zh11240N => k_asm); (case zh11240p => k_mem); (case zh11240d => assumption); (case zh11240l => assumption))) | (k_here; (with_reducible show wpAny _ _ (compareOp CmpOp.In (Value.int _ _) (Value.ref _)) _ _ _); k_dflt (refine' kda_in (knd := PySem.intKind _ _) ?zh57859N ?zh57859p ?zh57859d ?zh57859lo (intKind_is _ _ _ _) true ?zh57859b ?_; (case zh57859N => k_asm); (case zh57859p => k_mem); (case zh57859d => assumption); (case zh57859lo => assumption); (case zh57859b => (rename valueAt _ _ = some _ => hv; rw [hv]; rfl)))) | (k_here; (with_reducible refine KBd.method_of (name := "join") _ (typeIs_bytes _ _ _) BJ.slot BJ.type KBd.noRef ?_)) | (k_here; (with_reducible show wpAny _ _ (call (Value.builtin "bytes.join") [Value.bytes _ _, Value.ref _]) _ _ _); k_dflt (refine' bytes_join_L ?zh61018jl ?zh61018ji ?zh61018jz ?_; (case zh61018jl => is_list); (case zh61018ji => assumption); (case zh61018jz => first | assumption | omega); k_whole); intro bzz _ _ hbzz) | walk1 | (dsimp only; walk1))) | (leave1; walk_say "STEP leave1"; try dsimp only)))
    · rename 1 < _ => hbig
      have hb4 : 4 * i + 1 < js.length := by omega
      have eg : List.take (min (0 + (i : Int) * 4 + 4).toNat js.length - (0 + (i : Int) * 4).toNat) (List.drop (0 + (i : Int) * 4).toNat js) = (js.drop (4 * i)).take 4 := by
        rw [show (0 + (i : Int) * 4).toNat = 4 * i by clear hj hfl hsz; omega, show (0 + (i : Int) * 4 + 4).toNat = 4 * i + 4 by clear hj hfl hsz; omega, take_clip]
      rename IntsAre _ (List.take _ _) => hI
      rw [eg] at hI
      have hgl : ((js.drop (4 * i)).take 4).length = min 4 (js.length - 4 * i) := by rw [List.length_take, List.length_drop]
      have hdg : dgrp js i = grp ((js.drop (4 * i)).take 4) := if_pos hb4
      have hgz : (grp ((js.drop (4 * i)).take 4)).length ≤ 3 := by unfold grp; rw [List.length_map, List.length_range]; omega
      clear eg
      rename News _ _ _ _ => nG
      k_dflt (refine' PCp.use (group_octets_ok _ _ _ hI ?b1 ?b2 ?b3) ?k1 ?k2 ?k3 ?k4 ?k5 ?kK ?kd ?ku ?kp ?_)
      case b1 => intro n hn; exact hj n (List.mem_of_mem_drop (List.mem_of_mem_take hn))
      case b2 => omega
      case b3 => omega
      case kp => exact ⟨_, (nG _ (.head _)).1, rfl, _, rfl⟩
      (( (case k1 => k_asm); (case k2 => k_asm); (case k3 => k_asm); (case k4 => k_asm); (case k5 => k_asm); (case kK => first | exact rfl | assumption); (case kd => (first | exact room_1 hd rfl | exact room_0 hd | ktr_room)); (case ku => (first | exact unit_3 hu rfl | ktr_units))))
      rintro v' own' h' tk' ⟨xg, vb, ng, tg, rfl, rfl, hvb⟩ hK' F' N' hU'
      obtain ⟨bb, tb, rfl, hbb⟩ := hvb
      clear hK' nG hI
      simp only [List.singleton_append] at N'
      have hne1 := hU' _ (.head _) _ (.tail _ (.head _))
      have hne2 := Ne.symm hne1
      dsimp only at hne1 hne2
      clear hU'
      dsimp only
      (repeat' (first | (k_unfold; (try dsimp only)) | ((fail_if_success (with_reducible show KswEnd _ _ _ _ _ _ _ _ _ _ _ _)); (fail_if_success (with_reducible show InvEndN _ _ _ _ _ _ _)); (fail_if_success (with_reducible show wpAny _ _ (exec (Stmt.While _ _ _ _) _) _ _ _)); (fail_if_success (with_reducible show wpAny _ _ (exec (Stmt.For _ _ _ _ _) _) _ _ _)); (fail_if_success (with_reducible show wpAny _ _ (exec (Stmt.Assign _ (PySem.Expr.ListComp _ _ _ _) _) _) _ _ _)); (fail_if_success (with_reducible show wpAny _ _ (eval (PySem.Expr.ListComp _ _ _ _) _) _ _ _)); (first | (k_here; (with_reducible show wpAny _ _ (subscriptTail _ _ (Value.ref _) (Value.int _ _)) _ _ _); k_dflt (refine' kda_item (knd := PySem.intKind _ _) ?zh11240N ?zh11240p ?zh11240d (intKind_is _ _ _ _) ?zh11240l ?_; (case zh11240N => k_asm); (case zh11240p => k_mem); (case zh11240d => assumption); (case zh11240l => assumption))) | (k_here; (with_reducible show wpAny _ _ (compareOp CmpOp.In (Value.int _ _) (Value.ref _)) _ _ _); k_dflt (refine' kda_in (knd := PySem.intKind _ _) ?zh57859N ?zh57859p ?zh57859d ?zh57859lo (intKind_is _ _ _ _) true ?zh57859b ?_; (case zh57859N => k_asm); (case zh57859p => k_mem); (case zh57859d => assumption); (case zh57859lo => assumption); (case zh57859b => (rename valueAt _ _ = some _ => hv; rw [hv]; rfl)))) | (k_here; (with_reducible refine KBd.method_of (name := "join") _ (typeIs_bytes _ _ _) BJ.slot BJ.type KBd.noRef ?_)) | (k_here; (with_reducible show wpAny _ _ (call (Value.builtin "bytes.join") [Value.bytes _ _, Value.ref _]) _ _ _); k_dflt (refine' bytes_join_L ?zh61018jl ?zh61018ji ?zh61018jz ?_; (case zh61018jl => is_list); (case zh61018ji => assumption); (case zh61018jz => first | assumption | omega); k_whole); intro bzz _ _ hbzz) | walk1 | (dsimp only; walk1))) | (leave1; walk_say "STEP leave1"; try dsimp only)))
      rename Fr _ _ _ _ => fE
      rename News _ _ _ _ => nE
      (try simp only [List.push_toArray] at nE)
      refine' InvEndN.intro fE nE (.mk (vf ++ [Value.bytes bb tb]) (kf ++ [grp ((js.drop (4 * i)).take 4)]) (nf + 1) _ (hvf.append ⟨bb, tb, rfl, hbb⟩) ?zya ?zyb ?zyc rfl) rfl ?zyp ?zyo
      case zyp => intro p hp; exact .tail _ (.tail _ (List.mem_append_left own hp))
      case zyo => exact fun p hp => List.mem_append_right [_, _, _, _, _] hp
      case zya => rw [List.flatten_append, hfl, List.range_succ, List.map_append, List.flatten_append, ← hdg]; simp
      case zyb => simp; omega
      case zyc => simp; omega
    · rename ¬ 1 < _ => hbig
      have hdg : dgrp js i = [] := if_neg (by omega)
      rename Fr _ _ _ _ => fE
      rename News _ _ _ _ => nE
      refine' InvEndN.intro fE nE (.mk vf kf _ _ hvf ?zya (by omega) (Nat.le_succ_of_le hln) rfl) rfl ?zyp ?zyo
      case zyp => intro p hp; exact List.mem_append_left own hp
      case zyo => exact fun p hp => List.mem_append_right [_, _, _] hp
      case zya => rw [hfl, List.range_succ, List.map_append, List.flatten_append]; simp [hdg]
  rintro m₁ nx h tk ⟨vf, kf, nf, u2, hvf, hfl, hsz, hln, rfl⟩ F₁ N₁
  subst em
  clear lN lF lF2 hR
  (repeat' (first | (k_unfold; (try dsimp only)) | ((fail_if_success (with_reducible show KswEnd _ _ _ _ _ _ _ _ _ _ _ _)); (fail_if_success (with_reducible show InvEndN _ _ _ _ _ _ _)); (fail_if_success (with_reducible show wpAny _ _ (exec (Stmt.While _ _ _ _) _) _ _ _)); (fail_if_success (with_reducible show wpAny _ _ (exec (Stmt.For _ _ _ _ _) _) _ _ _)); (fail_if_success (with_reducible show wpAny _ _ (exec (Stmt.Assign _ (PySem.Expr.ListComp _ _ _ _) _) _) _ _ _)); (fail_if_success (with_reducible show wpAny _ _ (eval (PySem.Expr.ListComp _ _ _ _) _) _ _ _)); (first | (k_here; (with_reducible show wpAny _ _ (subscriptTail _ _ (Value.ref _) (Value.int _ _)) _ _ _); k_dflt (refine' kda_item (knd := PySem.intKind _ _) ?zh11240N ?zh11240p ?zh11240d (intKind_is _ _ _ _) ?zh11240l ?_; (case zh11240N => k_asm); (case zh11240p => k_mem); (case zh11240d => assumption); (case zh11240l => assumption))) | (k_here; (with_reducible show wpAny _ _ (compareOp CmpOp.In (Value.int _ _) (Value.ref _)) _ _ _); k_dflt (refine' kda_in (knd := PySem.intKind _ _) ?zh57859N ?zh57859p ?zh57859d ?zh57859lo (intKind_is _ _ _ _) true ?zh57859b ?_; (case zh57859N => k_asm); (case zh57859p => k_mem); (case zh57859d => assumption); (case zh57859lo => assumption); (case zh57859b => (rename valueAt _ _ = some _ => hv; rw [hv]; rfl)))) | (k_here; (with_reducible refine KBd.method_of (name := "join") _ (typeIs_bytes _ _ _) BJ.slot BJ.type KBd.noRef ?_)) | (k_here; (with_reducible show wpAny _ _ (call (Value.builtin "bytes.join") [Value.bytes _ _, Value.ref _]) _ _ _); k_dflt (refine' bytes_join_L ?zh61018jl ?zh61018ji ?zh61018jz ?_; (case zh61018jl => is_list); (case zh61018ji => assumption); (case zh61018jz => first | assumption | omega); k_whole); intro bzz _ _ hbzz) | walk1 | (dsimp only; walk1))) | (leave1; walk_say "STEP leave1"; try dsimp only)))
  refine ret_im hret (by assumption) ⟨_, _, rfl, ?_⟩ (by assumption) (by assumption)
  rename KBw.bInts _ = List.flatten _ => hbf
  rw [hbf, hfl]; rfl
section
variable {prog : Program} {w : World} {A : Around} {E : Value → Shared → Prop} {s : Shared} {h₀ : Heap} {L : Addr} {m : Str → Option Value} {env : Env}
def OverTupT (prog : Program) (w : World) (A : Around) (h₀ : Heap) (L : Addr) (m : Str → Option Value) (env : Env) (ct elt : Expr) (x : Str) (scope : Scope) (cl : List (Str × Addr)) (Q : Value → Shared → Prop) (xv : Value) (s₁ : Shared) : Prop :=
  ∃ D k its news, xv = .ref D ∧ A.handled = none ∧ Fr h₀ L s₁.heap m ∧ News h₀ L s₁.heap ((D, { cls := .type "tuple", data := .seq its k }) :: news) ∧ its.size ≤ sizeLine ∧
    ∀ g, LCt.CompRestT prog w A h₀ L m env ct elt x scope cl { s₁ with heap := g } (fun nw => (D, { cls := .type "tuple", data := .seq its k }) ∈ nw) (fun i v => its[i]? = some v) (LCg.FinE h₀ L m { s₁ with heap := g } Q) its.size 0 [] ((D, { cls := .type "tuple", data := .seq its k }) :: news)
/-- a list comprehension with a test over a tuple of the call's own -/
theorem compT_tup {ct elt iter : Expr} {x : Str} {px : Pos} {scope : Scope} {cl : List (Str × Addr)} {pos : Pos} {Q : Value → Shared → Prop} (F₀ : Fr h₀ L s.heap m)
    (hclos : closureFor scope env = pure cl) (hcell : ∀ y ∈ scope.names, y.2 ≠ .cell) (hkind : scope.kind = .function)
    (hnames : ∀ y ∈ scope.names, y.2 = .local → scope.names.lookup y.1 = some .local) (hx : scope.names.lookup x = some .local)
    (h : wpAny (model prog w) A (eval iter env) (OverTupT prog w A h₀ L m env ct elt x scope cl Q) E s)
    (hs : ∀ x, foldedSetIterable iter env x = pure x := by intro _; rfl) :
    wpAny (model prog w) A (eval (.ListComp elt [⟨.Name x px, iter, [ct], 0⟩] scope pos) env) Q E s := by
  rw [eval_ListComp]
  refine wpAny_comprehension_free (use := none) rfl hs hclos hkind hnames (wpAny_mono h (fun xv s₁ h₁ => ?_) fun _ _ e => e)
  obtain ⟨D, k, its, news, rfl, hh, F, N, hsz, R⟩ := h₁
  have hD := N _ (.head _)
  have ht : s₁.heap.IsTuple D its := ⟨_, hD.1, rfl, k, rfl⟩
  have hlt : D < s₁.heap.objs.size := Heap.lt_size hD.1
  refine wpAny_pyIter_tuple ht ?_
  refine LCt.block_T (Walks.tuple hh s₁.heap.objs.size D (Nat.ne_of_lt hlt) its) hsz (fun i h st => by obtain ⟨o, e, _⟩ := st.1; exact ⟨o, e⟩) (fun i h h' o nw st e e' _ N' hS => ?_) hcell hkind hx ⟨⟨_, Heap.get?_push_size _ rfl, rfl, rfl⟩, ht.at fun o e => Heap.get?_push_of_some _ e⟩ (fun b hb => ?_)
      (F.push _) (N.grown fun _ _ e => Heap.get?_push_of_some _ e) (Nat.ne_of_lt F.ns.lt) (next_is_new F) (fun p hp => Nat.ne_of_lt (Heap.lt_size (N p hp).1)) (.head _) (R _) ?_
  · refine ⟨?_, ⟨_, (N' _ hS).1, rfl, k, rfl⟩⟩
    obtain ⟨o1, e1, q⟩ := st.1
    have : o1 = o := Option.some.inj (e1.symm.trans e)
    subst this
    exact ⟨_, e', q⟩
  · show b < (s₁.heap.push _).objs.size
    rw [Heap.size_push]
    rcases List.mem_cons.mp hb with rfl | hb
    · exact Nat.lt_succ_self _
    · rw [List.mem_singleton.mp hb]; exact Nat.lt_succ_of_lt hlt
  · intro D C h tk m' ys news' F' N' o1 hn hC₀ hD₀ hCL hDL hCD offC fin
    refine ⟨m', hn, fun h'' hs'' => fin D h'' tk (F'.change hs'' hCL hC₀) (fun p hp => ?_) o1⟩
    refine ⟨hs''.extBut _ _ ?_ (N' p hp).1, (N' p hp).2⟩
    rcases List.mem_cons.mp hp with rfl | hp
    · exact Ne.symm hCD
    · exact offC p hp
/-- each turn of a comprehension with a test, the ledger stays -/
theorem restT_each {ct elt : Expr} {x : Str} {scope : Scope} {cl : List (Str × Addr)} {S : List (Addr × Obj) → Prop} {P : Nat → Value → Prop} {Fin : List Value → List (Addr × Obj) → Prop} {n : Nat} {news : List (Addr × Obj)} (J : Nat → List Value → Prop) (h0 : J 0 [])
    (turn : ∀ i v I oI C oC D m₂ ys h tk (E' : Value → Shared → Prop), i < n → P i v → J i ys → LCg.NsObj oC m₂ → m₂ x = some v → Fr h₀ L h m → News h₀ L h ((I, oI) :: (C, oC) :: (D, LCg.lst ys) :: news) → LCg.Off3 I C D news → ((@Ne Nat I C) ∧ (@Ne Nat I D) ∧ (@Ne Nat C D)) →
      wpAny (model prog w) A (isTrue ct (compEnvC scope cl C env) (eval ct (compEnvC scope cl C env))) (fun ok s' => if ok = true then
        wpAny (model prog w) A (eval elt (compEnvC scope cl C env)) (LCg.CompEnd h₀ L m { s with heap := h, toks := tk } I oI C oC D (LCg.lst ys) S (fun y nw => nw = news ∧ J (i + 1) (ys ++ [y]))) E' s'
        else LCg.CompEnd h₀ L m { s with heap := h, toks := tk } I oI C oC D (LCg.lst ys) S (fun _ nw => nw = news ∧ J (i + 1) ys) Value.none s') E' { s with heap := h, toks := tk })
    (fin : ∀ ys, J n ys → Fin ys news) : LCt.CompRestT prog w A h₀ L m env ct elt x scope cl s S P Fin n 0 [] news := by
  have key : ∀ (j i : Nat) (ys : List Value), i + j = n → J i ys → LCt.CompRestT prog w A h₀ L m env ct elt x scope cl s S P Fin j i ys news := by
    intro j
    induction j with
    | zero =>
      intro i ys hi hj
      have : i = n := by omega
      subst this
      exact LCt.CompRestT.zero (fin ys hj)
    | succ j ih =>
      intro i ys hi hj
      refine LCt.CompRestT.succ ?_
      intro v I oI C oC D m₂ h tk E' hv hC hx F N off ne
      refine wpAny_mono (turn i v I oI C oC D m₂ ys h tk E' (by omega) hv hj hC hx F N off ne) (fun ok s₂ hq => ?_) fun _ _ e => e
      cases ok with
      | true =>
        simp only [if_true] at hq ⊢
        refine wpAny_mono hq (fun y s₃ hq => ?_) fun _ _ e => e
        obtain ⟨h', tk', nw', e, F', N', off', hS, hn, hj'⟩ := hq
        subst hn
        exact ⟨h', tk', nw', e, F', N', off', hS, ih (i + 1) (ys ++ [y]) (by omega) hj'⟩
      | false =>
        simp only [Bool.false_eq_true, if_false] at hq ⊢
        obtain ⟨h', tk', nw', e, F', N', off', hS, hn, hj'⟩ := hq
        subst hn
        exact ⟨h', tk', nw', e, F', N', off', hS, ih (i + 1) ys (by omega) hj'⟩
  exact key n 0 [] (by omega) h0
end
theorem len_own {prog : Program} {w : World} {A : Around} {E : Value → Shared → Prop} {s : Shared} {D : Addr} {ys : List Value} {Q : Value → Shared → Prop} (hl : s.heap.IsList D ys.toArray) (hz : ys.length ≤ 1000000)
    (h : Q (.int ys.length (s.toks + 1)) { s with toks := s.toks + 1 + 1 }) : wpAny (model prog w) A (call (.builtin "len") [.ref D]) Q E s :=
  len_list hl (by rw [List.size_toArray]; omega) (by rw [List.size_toArray]; exact h)
noncomputable def u8len (c : Int) : Int := if c ≤ 127 then 1 else 2
noncomputable def over (c : Int) (i : Nat) : List Int := (([127, 2047, 65535] : List Int).take i).filter fun k => decide (k < c)
theorem over_yes {c k : Int} {i : Nat} (h : ([127, 2047, 65535] : List Int)[i]? = some k) (hk : k < c) : (over c (i + 1)).length = (over c i).length + 1 := by
  unfold over
  rw [List.take_add_one, h, List.filter_append, List.length_append]
  simp [hk]
theorem over_no {c k : Int} {i : Nat} (h : ([127, 2047, 65535] : List Int)[i]? = some k) (hk : ¬ k < c) : (over c (i + 1)).length = (over c i).length := by
  unfold over
  rw [List.take_add_one, h, List.filter_append, List.length_append]
  simp [hk]
theorem over_all {c : Int} (h0 : 0 ≤ c) (h1 : c < 256) : 1 + ((over c 3).length : Int) = u8len c ∧ (over c 3).length ≤ 3 := by
  unfold over u8len
  have h2 : ¬ 2047 < c := by omega
  have h3 : ¬ 65535 < c := by omega
  by_cases h : 127 < c
  · simp [h, h2, h3, List.filter] <;> omega
  · simp [h, h2, h3, List.filter] <;> omega
set_option maxHeartbeats 1000000 in
theorem utf8_length_ok (c : Int) (h0 : 0 ≤ c) (h1 : c < 256) (tc : Tok) : PC 3 117 [.int c tc] (Im (IsI (u8len c))) := by
  unfold PC
  k_fill
  intro w mean mg mb dp un gd cn cs a ccd cl outer A₀ base h₀ L m s Q E B F X T hcs hd hu hret
  (k_dflt (refine' enterC ?zh52620k1 ?zh52620k2 ?zh52620k3 ?zh52620k5 ?zh52620kA ?zh52620kF ?zh52620kK ?zh52620k6 ?zh52620k7 ?zh52620k8 ?zh52620k9 ?zh52620kB ?zh52620kD ?_ ?zh52620c2 ?zh52620c3 ?zh52620c4; (case zh52620kA => exact rfl); (case zh52620kF => exact rfl); (case zh52620kK => first | assumption | exact rfl); (case zh52620k1 => k_asm); (case zh52620k2 => k_asm); (case zh52620k3 => k_asm); (case zh52620k5 => k_asm); (case zh52620k6 => k_is); (case zh52620k7 => k_is); (case zh52620k8 => (first | exact room_1 hd rfl | exact room_0 hd | ktr_room)); (case zh52620k9 => exact BindsTo.of_eq rfl); (case zh52620kB => exact rfl); (case zh52620kD => decide +kernel); (case zh52620c2 => exact rfl); (case zh52620c3 => exact rfl); (case zh52620c4 => exact rfl); k_whole; intro gzz Lzz hzz tkzz cellszz hgzz FGzz Fzz Nzz Yzz Bzz Xzz Tzz; k_cells Yzz; (try dsimp only); (try k_lift Bzz); (try (show wpAny _ _ _ _ _ _)); (try k_fold)))
  (repeat' (first | (k_unfold; (try dsimp only)) | ((fail_if_success (with_reducible show KswEnd _ _ _ _ _ _ _ _ _ _ _ _)); (fail_if_success (with_reducible show InvEndN _ _ _ _ _ _ _)); (fail_if_success (with_reducible show wpAny _ _ (exec (Stmt.While _ _ _ _) _) _ _ _)); (fail_if_success (with_reducible show wpAny _ _ (exec (Stmt.For _ _ _ _ _) _) _ _ _)); (fail_if_success (with_reducible show wpAny _ _ (exec (Stmt.Assign _ (PySem.Expr.ListComp _ _ _ _) _) _) _ _ _)); (fail_if_success (with_reducible show wpAny _ _ (eval (PySem.Expr.ListComp _ _ _ _) _) _ _ _)); (first | walk1 | (dsimp only; walk1))) | (leave1; walk_say "STEP leave1"; try dsimp only)))
  k_dflt (refine compT_tup (F₀ := by k_asm) (by with_unfolding_all rfl) (by decide) (by rfl) (by decide) (by rfl) ?_)
  (repeat' (first | (k_unfold; (try dsimp only)) | ((fail_if_success (with_reducible show KswEnd _ _ _ _ _ _ _ _ _ _ _ _)); (fail_if_success (with_reducible show InvEndN _ _ _ _ _ _ _)); (fail_if_success (with_reducible show wpAny _ _ (exec (Stmt.While _ _ _ _) _) _ _ _)); (fail_if_success (with_reducible show wpAny _ _ (exec (Stmt.For _ _ _ _ _) _) _ _ _)); (fail_if_success (with_reducible show wpAny _ _ (exec (Stmt.Assign _ (PySem.Expr.ListComp _ _ _ _) _) _) _ _ _)); (fail_if_success (with_reducible show wpAny _ _ (eval (PySem.Expr.ListComp _ _ _ _) _) _ _ _)); (first | walk1 | (dsimp only; walk1))) | (leave1; walk_say "STEP leave1"; try dsimp only)))
  k_dflt refine ⟨_, _, _, _, rfl, by rfl, by k_asm, by k_asm, by exact Nat.le_of_ble_eq_true rfl, fun g => restT_each (n := 3) (fun i ys => ys.length = (over c i).length) rfl ?_ ?_⟩
  · intro i v I oI C oC D m₂ ys h tk E' hi hv hJ hC hx F N off ne
    obtain ⟨k, t, hk, rfl⟩ := ints_at (ys := [127, 2047, 65535]) (by repeat' (first | exact IntsAre.nil | refine' IntsAre.cons _ _ ?_)) ((Array.getElem?_toList ..).trans hv)
    have hy := fun q => over_yes (c := c) hk q
    have hn := fun q => over_no (c := c) hk q
    clear hv hk
    (repeat' (first | (k_unfold; (try dsimp only)) | ((fail_if_success (with_reducible show KswEnd _ _ _ _ _ _ _ _ _ _ _ _)); (fail_if_success (with_reducible show InvEndN _ _ _ _ _ _ _)); (fail_if_success (with_reducible show wpAny _ _ (exec (Stmt.While _ _ _ _) _) _ _ _)); (fail_if_success (with_reducible show wpAny _ _ (exec (Stmt.For _ _ _ _ _) _) _ _ _)); (fail_if_success (with_reducible show wpAny _ _ (exec (Stmt.Assign _ (PySem.Expr.ListComp _ _ _ _) _) _) _ _ _)); (fail_if_success (with_reducible show wpAny _ _ (eval (PySem.Expr.ListComp _ _ _ _) _) _ _ _)); (first | walk1 | (dsimp only; walk1))) | (leave1; walk_say "STEP leave1"; try dsimp only)))
    · exact ⟨_, _, _, rfl, F, N, off, .head _, rfl, by rw [hy (by assumption), List.length_append, hJ]; rfl⟩
    · exact ⟨_, _, _, rfl, F, N, off, .head _, rfl, by rw [hn (by assumption), hJ]⟩
  · intro ys hJ
    have h3 : 1 + (over c 3).length = u8len c ∧ (over c 3).length ≤ 3 := over_all h0 h1
    rw [← hJ] at h3
    have hL : ys.length ≤ 3 := h3.2
    unfold LCg.FinE
    intro D h tk F' N' o1
    (repeat' (first | (k_unfold; (try dsimp only)) | ((fail_if_success (with_reducible show KswEnd _ _ _ _ _ _ _ _ _ _ _ _)); (fail_if_success (with_reducible show InvEndN _ _ _ _ _ _ _)); (fail_if_success (with_reducible show wpAny _ _ (exec (Stmt.While _ _ _ _) _) _ _ _)); (fail_if_success (with_reducible show wpAny _ _ (exec (Stmt.For _ _ _ _ _) _) _ _ _)); (fail_if_success (with_reducible show wpAny _ _ (exec (Stmt.Assign _ (PySem.Expr.ListComp _ _ _ _) _) _) _ _ _)); (fail_if_success (with_reducible show wpAny _ _ (eval (PySem.Expr.ListComp _ _ _ _) _) _ _ _)); (first | walk1 | (dsimp only; walk1))) | (leave1; walk_say "STEP leave1"; try dsimp only)))
    k_dflt (refine len_own (by is_list) (by omega) ?_)
    (repeat' (first | (k_unfold; (try dsimp only)) | ((fail_if_success (with_reducible show KswEnd _ _ _ _ _ _ _ _ _ _ _ _)); (fail_if_success (with_reducible show InvEndN _ _ _ _ _ _ _)); (fail_if_success (with_reducible show wpAny _ _ (exec (Stmt.While _ _ _ _) _) _ _ _)); (fail_if_success (with_reducible show wpAny _ _ (exec (Stmt.For _ _ _ _ _) _) _ _ _)); (fail_if_success (with_reducible show wpAny _ _ (exec (Stmt.Assign _ (PySem.Expr.ListComp _ _ _ _) _) _) _ _ _)); (fail_if_success (with_reducible show wpAny _ _ (eval (PySem.Expr.ListComp _ _ _ _) _) _ _ _)); (first | walk1 | (dsimp only; walk1))) | (leave1; walk_say "STEP leave1"; try dsimp only)))
    exact ret_im hret (by assumption) ⟨_, congrArg (fun k => Value.int k _) h3.1⟩ (by assumption) (by assumption)

/-- a tuple of two ints -/
def Tup2 (a b : Int) (v : Value) (own : List (Addr × Obj)) : Prop := ∃ x t u, v = .ref x ∧ own = [(x, { cls := .type "tuple", data := .seq #[.int a t, .int b u] })]
def Tup3 (a b c : Int) (v : Value) (own : List (Addr × Obj)) : Prop := ∃ x t u w, v = .ref x ∧ own = [(x, { cls := .type "tuple", data := .seq #[.int a t, .int b u, .int c w] })]
set_option maxHeartbeats 1000000 in
theorem follower_span_ok (c : Int) (h0 : 194 ≤ c) (h1 : c ≤ 223) (tc : Tok) : PC 1 131 [.int c tc] (Tup3 128 191 1) := by
  unfold PC
  k_fill
  intro w mean mg mb dp un gd cn cs a ccd cl outer A₀ base h₀ L m s Q E B F X T hcs hd hu hret
  (k_dflt (refine' enter ?zh1365k1 ?zh1365k2 ?zh1365k3 ?zh1365k5 ?zh1365kA ?zh1365kF ?zh1365kK ?zh1365k6 ?zh1365k7 ?zh1365k8 ?zh1365k9 ?zh1365kB ?_ ?zh1365c2 ?zh1365c3 ?zh1365c4 ?zh1365c5; (case zh1365kA => exact rfl); (case zh1365kF => exact rfl); (case zh1365kK => first | assumption | exact rfl); (case zh1365k1 => k_asm); (case zh1365k2 => k_asm); (case zh1365k3 => k_asm); (case zh1365k5 => k_asm); (case zh1365k6 => k_is); (case zh1365k7 => k_is); (case zh1365k8 => (first | exact room_1 hd rfl | exact room_0 hd | ktr_room)); (case zh1365k9 => exact BindsTo.of_eq rfl); (case zh1365c5 => decide); (case zh1365kB => exact locs rfl); (case zh1365c2 => exact rfl); (case zh1365c3 => exact rfl); (case zh1365c4 => exact rfl); k_whole; intro gzz Lzz hzz hgzz FGzz Fzz Nzz Bzz Xzz Tzz; (try dsimp only); (try k_lift Bzz); (try (show wpAny _ _ _ _ _ _)); (try k_fold)))
  (repeat' (first | (k_unfold; (try dsimp only)) | ((fail_if_success (with_reducible show KswEnd _ _ _ _ _ _ _ _ _ _ _ _)); (fail_if_success (with_reducible show InvEndN _ _ _ _ _ _ _)); (fail_if_success (with_reducible show wpAny _ _ (exec (Stmt.While _ _ _ _) _) _ _ _)); (fail_if_success (with_reducible show wpAny _ _ (exec (Stmt.For _ _ _ _ _) _) _ _ _)); (fail_if_success (with_reducible show wpAny _ _ (exec (Stmt.Assign _ (PySem.Expr.ListComp _ _ _ _) _) _) _ _ _)); (fail_if_success (with_reducible show wpAny _ _ (eval (PySem.Expr.ListComp _ _ _ _) _) _ _ _)); (first | walk1 | (dsimp only; walk1))) | (leave1; walk_say "STEP leave1"; try dsimp only)))
  all_goals first | (exfalso; omega) | exact ret_own [_] hret (by assumption) ⟨_, _, _, _, rfl, rfl⟩ (by assumption) (by assumption) (by assumption) (by assumption) (fun p hp => by rw [List.mem_singleton.mp hp]; exact .head _)
theorem utf8_len1 (c : Int) (h0 : 0 ≤ c) (h1 : c ≤ 127) (tc : Tok) : PC 3 117 [.int c tc] (Im (IsI 1)) := (if_pos h1 : u8len c = 1) ▸ utf8_length_ok c h0 (by omega) tc
theorem utf8_len2 (c : Int) (h0 : ¬ c ≤ 127) (h1 : c < 256) (tc : Tok) : PC 3 117 [.int c tc] (Im (IsI 2)) := (if_neg h0 : u8len c = 2) ▸ utf8_length_ok c (by omega) h1 tc
noncomputable def u8enc (c : Int) : List Int := if c ≤ 127 then [c] else [192 + c.fdiv 64, 128 + c.fmod 64]
def IntsR (ks : List Int) (v : Value) (own : List (Addr × Obj)) : Prop := ∃ x vs n, v = .ref x ∧ own = [(x, W.listOf vs.toArray n)] ∧ IntsAre vs ks
set_option maxHeartbeats 1000000 in
theorem utf8_octets_1 (c : Int) (h0 : 0 ≤ c) (h1 : c ≤ 127) (tc : Tok) : PC 4 124 [.int c tc] (IntsR [c]) := by
  unfold PC
  k_fill
  intro w mean mg mb dp un gd cn cs a ccd cl outer A₀ base h₀ L m s Q E B F X T hcs hd hu hret
  (k_dflt (refine' enter ?zh1365k1 ?zh1365k2 ?zh1365k3 ?zh1365k5 ?zh1365kA ?zh1365kF ?zh1365kK ?zh1365k6 ?zh1365k7 ?zh1365k8 ?zh1365k9 ?zh1365kB ?_ ?zh1365c2 ?zh1365c3 ?zh1365c4 ?zh1365c5; (case zh1365kA => exact rfl); (case zh1365kF => exact rfl); (case zh1365kK => first | assumption | exact rfl); (case zh1365k1 => k_asm); (case zh1365k2 => k_asm); (case zh1365k3 => k_asm); (case zh1365k5 => k_asm); (case zh1365k6 => k_is); (case zh1365k7 => k_is); (case zh1365k8 => (first | exact room_1 hd rfl | exact room_0 hd | ktr_room)); (case zh1365k9 => exact BindsTo.of_eq rfl); (case zh1365c5 => decide); (case zh1365kB => exact locs rfl); (case zh1365c2 => exact rfl); (case zh1365c3 => exact rfl); (case zh1365c4 => exact rfl); k_whole; intro gzz Lzz hzz hgzz FGzz Fzz Nzz Bzz Xzz Tzz; (try dsimp only); (try k_lift Bzz); (try (show wpAny _ _ _ _ _ _)); (try k_fold)))
  (repeat' (first | (k_unfold; (try dsimp only)) | ((fail_if_success (with_reducible show KswEnd _ _ _ _ _ _ _ _ _ _ _ _)); (fail_if_success (with_reducible show InvEndN _ _ _ _ _ _ _)); (fail_if_success (with_reducible show wpAny _ _ (exec (Stmt.While _ _ _ _) _) _ _ _)); (fail_if_success (with_reducible show wpAny _ _ (exec (Stmt.For _ _ _ _ _) _) _ _ _)); (fail_if_success (with_reducible show wpAny _ _ (exec (Stmt.Assign _ (PySem.Expr.ListComp _ _ _ _) _) _) _ _ _)); (fail_if_success (with_reducible show wpAny _ _ (eval (PySem.Expr.ListComp _ _ _ _) _) _ _ _)); (first | (k_here; (with_reducible show wpAny _ _ (call (Value.ref 117) [Value.int _ _] _) _ _ _); k_dflt (first | refine' PC.use (utf8_len1 _ (by assumption) (by assumption) _) ?zh38439k1 ?zh38439k2 ?zh38439k3 ?zh38439k4 ?zh38439k5 ?zh38439kK ?zh38439kd ?zh38439ku ?_ | refine' PC.use (utf8_len2 _ (by assumption) (by assumption) _) ?zh38439k1 ?zh38439k2 ?zh38439k3 ?zh38439k4 ?zh38439k5 ?zh38439kK ?zh38439kd ?zh38439ku ?_); (( (case zh38439k1 => k_asm); (case zh38439k2 => k_asm); (case zh38439k3 => k_asm); (case zh38439k4 => k_asm); (case zh38439k5 => k_asm); (case zh38439kK => first | exact rfl | assumption); (case zh38439kd => (first | exact room_1 hd rfl | exact room_0 hd | ktr_room)); (case zh38439ku => (first | exact unit_3 hu rfl | ktr_units)))); intro vzz ownzz hzz tkzz hRzz hKzz Fzz Nzz hUzz; clear hKzz hUzz; obtain ⟨hOzz, tVzz, hVzz⟩ := hRzz; subst hOzz hVzz; (try simp only [List.nil_append] at Nzz); (try dsimp only)) | walk1 | (dsimp only; walk1))) | (leave1; walk_say "STEP leave1"; try dsimp only)))
  exact ret_own [_] hret (by assumption) ⟨_, _, _, rfl, rfl, .cons _ _ .nil⟩ (by assumption) (by assumption) (by assumption) (by assumption) (fun p hp => by rw [List.mem_singleton.mp hp]; exact .head _)
set_option maxHeartbeats 1000000 in
theorem utf8_octets_2 (c : Int) (h0 : ¬ c ≤ 127) (h1 : c < 256) (tc : Tok) : PC 4 124 [.int c tc] (IntsR [192 + c.fdiv 64, 128 + c.fmod 64]) := by
  unfold PC
  k_fill
  intro w mean mg mb dp un gd cn cs a ccd cl outer A₀ base h₀ L m s Q E B F X T hcs hd hu hret
  (k_dflt (refine' enter ?zh1365k1 ?zh1365k2 ?zh1365k3 ?zh1365k5 ?zh1365kA ?zh1365kF ?zh1365kK ?zh1365k6 ?zh1365k7 ?zh1365k8 ?zh1365k9 ?zh1365kB ?_ ?zh1365c2 ?zh1365c3 ?zh1365c4 ?zh1365c5; (case zh1365kA => exact rfl); (case zh1365kF => exact rfl); (case zh1365kK => first | assumption | exact rfl); (case zh1365k1 => k_asm); (case zh1365k2 => k_asm); (case zh1365k3 => k_asm); (case zh1365k5 => k_asm); (case zh1365k6 => k_is); (case zh1365k7 => k_is); (case zh1365k8 => (first | exact room_1 hd rfl | exact room_0 hd | ktr_room)); (case zh1365k9 => exact BindsTo.of_eq rfl); (case zh1365c5 => decide); (case zh1365kB => exact locs rfl); (case zh1365c2 => exact rfl); (case zh1365c3 => exact rfl); (case zh1365c4 => exact rfl); k_whole; intro gzz Lzz hzz hgzz FGzz Fzz Nzz Bzz Xzz Tzz; (try dsimp only); (try k_lift Bzz); (try (show wpAny _ _ _ _ _ _)); (try k_fold)))
  (repeat' (first | (k_unfold; (try dsimp only)) | ((fail_if_success (with_reducible show KswEnd _ _ _ _ _ _ _ _ _ _ _ _)); (fail_if_success (with_reducible show InvEndN _ _ _ _ _ _ _)); (fail_if_success (with_reducible show wpAny _ _ (exec (Stmt.While _ _ _ _) _) _ _ _)); (fail_if_success (with_reducible show wpAny _ _ (exec (Stmt.For _ _ _ _ _) _) _ _ _)); (fail_if_success (with_reducible show wpAny _ _ (exec (Stmt.Assign _ (PySem.Expr.ListComp _ _ _ _) _) _) _ _ _)); (fail_if_success (with_reducible show wpAny _ _ (eval (PySem.Expr.ListComp _ _ _ _) _) _ _ _)); (first | (k_here; (with_reducible show wpAny _ _ (call (Value.ref 117) [Value.int _ _] _) _ _ _); k_dflt (first | refine' PC.use (utf8_len1 _ (by assumption) (by assumption) _) ?zh38439k1 ?zh38439k2 ?zh38439k3 ?zh38439k4 ?zh38439k5 ?zh38439kK ?zh38439kd ?zh38439ku ?_ | refine' PC.use (utf8_len2 _ (by assumption) (by assumption) _) ?zh38439k1 ?zh38439k2 ?zh38439k3 ?zh38439k4 ?zh38439k5 ?zh38439kK ?zh38439kd ?zh38439ku ?_); (( (case zh38439k1 => k_asm); (case zh38439k2 => k_asm); (case zh38439k3 => k_asm); (case zh38439k4 => k_asm); (case zh38439k5 => k_asm); (case zh38439kK => first | exact rfl | assumption); (case zh38439kd => (first | exact room_1 hd rfl | exact room_0 hd | ktr_room)); (case zh38439ku => (first | exact unit_3 hu rfl | ktr_units)))); intro vzz ownzz hzz tkzz hRzz hKzz Fzz Nzz hUzz; clear hKzz hUzz; obtain ⟨hOzz, tVzz, hVzz⟩ := hRzz; subst hOzz hVzz; (try simp only [List.nil_append] at Nzz); (try dsimp only)) | walk1 | (dsimp only; walk1))) | (leave1; walk_say "STEP leave1"; try dsimp only)))
  (((rename Fr _ _ _ _ => lFzz); (with_unfolding_all refine' For_invVF lFzz ?zh39862k1 ?zh39862k2 ?_); (case zh39862k1 => exact rfl); (case zh39862k2 => exact rfl); (repeat' (first | (k_unfold; (try dsimp only)) | ((fail_if_success (with_reducible show wpAny _ _ (pyIter _) _ _ _)); (fail_if_success (with_reducible show wpAny _ _ (exec (Stmt.While _ _ _ _) _) _ _ _)); (fail_if_success (with_reducible show wpAny _ _ (exec (Stmt.For _ _ _ _ _) _) _ _ _)); (fail_if_success (with_reducible show wpAny _ _ (exec (Stmt.Assign _ (PySem.Expr.ListComp _ _ _ _) _) _) _ _ _)); (fail_if_success (with_reducible show wpAny _ _ (eval (PySem.Expr.ListComp _ _ _ _) _) _ _ _)); (first | (k_here; (with_reducible show wpAny _ _ (call (Value.ref 117) [Value.int _ _] _) _ _ _); k_dflt (first | refine' PC.use (utf8_len1 _ (by assumption) (by assumption) _) ?zh38439k1 ?zh38439k2 ?zh38439k3 ?zh38439k4 ?zh38439k5 ?zh38439kK ?zh38439kd ?zh38439ku ?_ | refine' PC.use (utf8_len2 _ (by assumption) (by assumption) _) ?zh38439k1 ?zh38439k2 ?zh38439k3 ?zh38439k4 ?zh38439k5 ?zh38439kK ?zh38439kd ?zh38439ku ?_); (( (case zh38439k1 => k_asm); (case zh38439k2 => k_asm); (case zh38439k3 => k_asm); (case zh38439k4 => k_asm); (case zh38439k5 => k_asm); (case zh38439kK => first | exact rfl | assumption); (case zh38439kd => (first | exact room_1 hd rfl | exact room_0 hd | ktr_room)); (case zh38439ku => (first | exact unit_3 hu rfl | ktr_units)))); intro vzz ownzz hzz tkzz hRzz hKzz Fzz Nzz hUzz; clear hKzz hUzz; obtain ⟨hOzz, tVzz, hVzz⟩ := hRzz; subst hOzz hVzz; (try simp only [List.nil_append] at Nzz); (try dsimp only)) | walk1 | (dsimp only; walk1))) | (leave1; walk_say "STEP leave1"; try dsimp only)))))
  rename IsRange _ _ _ _ _ _ _ _ => hR
  rename Fr _ _ _ _ => lF
  rename News _ _ _ _ => lN
  refine with_map lF ?_
  intro m₀ em lF2
  have htt : m₀ (Str.ofString "left") = some (.int c tc) := by rw [em]; exact if_pos rfl
  k_dflt refine loop1 (src_range (n := 1) (by rfl) hR (by decide) (by decide)) (fun i m nx => ∃ vs nn u tl, nx = [(_, W.listOf vs.toArray nn)] ∧ IntsAre vs (if i = 0 then [] else [128 + c.fmod 64]) ∧ m = fun z => if z = Str.ofString "place" then u else if z = Str.ofString "left" then some (.int (if i = 0 then c else c.fdiv 64) tl) else m₀ z) lF2 lN ⟨[], _, _, _, rfl, .nil, map_two htt⟩ ?_ ?_
  · rintro i v m₁ nx h tk own hi ⟨tv, rfl⟩ _ hoff ⟨vs, nn, u, tl, rfl, hvs, rfl⟩ F₁ N₁
    obtain rfl : i = 0 := by omega
    rw [map_over] at F₁
    subst em
    simp only [if_true] at F₁ hvs
    obtain rfl : vs = [] := by cases hvs; rfl
    simp only [List.cons_append, List.nil_append, List.map_cons, List.map_nil] at N₁ hoff
    clear htt lN lF lF2 hR
    (repeat' (first | (k_unfold; (try dsimp only)) | ((fail_if_success (with_reducible show KswEnd _ _ _ _ _ _ _ _ _ _ _ _)); (fail_if_success (with_reducible show InvEndN _ _ _ _ _ _ _)); (fail_if_success (with_reducible show wpAny _ _ (exec (Stmt.While _ _ _ _) _) _ _ _)); (fail_if_success (with_reducible show wpAny _ _ (exec (Stmt.For _ _ _ _ _) _) _ _ _)); (fail_if_success (with_reducible show wpAny _ _ (exec (Stmt.Assign _ (PySem.Expr.ListComp _ _ _ _) _) _) _ _ _)); (fail_if_success (with_reducible show wpAny _ _ (eval (PySem.Expr.ListComp _ _ _ _) _) _ _ _)); (first | (k_here; (with_reducible show wpAny _ _ (call (Value.ref 117) [Value.int _ _] _) _ _ _); k_dflt (first | refine' PC.use (utf8_len1 _ (by assumption) (by assumption) _) ?zh38439k1 ?zh38439k2 ?zh38439k3 ?zh38439k4 ?zh38439k5 ?zh38439kK ?zh38439kd ?zh38439ku ?_ | refine' PC.use (utf8_len2 _ (by assumption) (by assumption) _) ?zh38439k1 ?zh38439k2 ?zh38439k3 ?zh38439k4 ?zh38439k5 ?zh38439kK ?zh38439kd ?zh38439ku ?_); (( (case zh38439k1 => k_asm); (case zh38439k2 => k_asm); (case zh38439k3 => k_asm); (case zh38439k4 => k_asm); (case zh38439k5 => k_asm); (case zh38439kK => first | exact rfl | assumption); (case zh38439kd => (first | exact room_1 hd rfl | exact room_0 hd | ktr_room)); (case zh38439ku => (first | exact unit_3 hu rfl | ktr_units)))); intro vzz ownzz hzz tkzz hRzz hKzz Fzz Nzz hUzz; clear hKzz hUzz; obtain ⟨hOzz, tVzz, hVzz⟩ := hRzz; subst hOzz hVzz; (try simp only [List.nil_append] at Nzz); (try dsimp only)) | walk1 | (dsimp only; walk1))) | (leave1; walk_say "STEP leave1"; try dsimp only)))
    rename Fr _ _ _ _ => fE
    rename News _ _ _ _ => nE
    refine' InvEndN.intro fE nE ⟨[.int (128 + c.fmod 64) _], _, _, _, rfl, .cons _ _ .nil, map_three (by decide)⟩ rfl ?zyp (fun p hp => .tail _ hp)
    case zyp => intro p hp; rw [List.mem_singleton.mp hp]; exact .head _
  rintro m₁ nx h tk ⟨vs, nn, u, tl, rfl, hvs, rfl⟩ F₁ N₁
  clear htt lN lF lF2 hR
  subst em
  simp only [Nat.one_ne_zero, if_false] at F₁ hvs
  obtain ⟨t0, rfl⟩ := ints1 hvs
  (repeat' (first | (k_unfold; (try dsimp only)) | ((fail_if_success (with_reducible show KswEnd _ _ _ _ _ _ _ _ _ _ _ _)); (fail_if_success (with_reducible show InvEndN _ _ _ _ _ _ _)); (fail_if_success (with_reducible show wpAny _ _ (exec (Stmt.While _ _ _ _) _) _ _ _)); (fail_if_success (with_reducible show wpAny _ _ (exec (Stmt.For _ _ _ _ _) _) _ _ _)); (fail_if_success (with_reducible show wpAny _ _ (exec (Stmt.Assign _ (PySem.Expr.ListComp _ _ _ _) _) _) _ _ _)); (fail_if_success (with_reducible show wpAny _ _ (eval (PySem.Expr.ListComp _ _ _ _) _) _ _ _)); (first | (k_here; (with_reducible show wpAny _ _ (call (Value.ref 117) [Value.int _ _] _) _ _ _); k_dflt (first | refine' PC.use (utf8_len1 _ (by assumption) (by assumption) _) ?zh38439k1 ?zh38439k2 ?zh38439k3 ?zh38439k4 ?zh38439k5 ?zh38439kK ?zh38439kd ?zh38439ku ?_ | refine' PC.use (utf8_len2 _ (by assumption) (by assumption) _) ?zh38439k1 ?zh38439k2 ?zh38439k3 ?zh38439k4 ?zh38439k5 ?zh38439kK ?zh38439kd ?zh38439ku ?_); (( (case zh38439k1 => k_asm); (case zh38439k2 => k_asm); (case zh38439k3 => k_asm); (case zh38439k4 => k_asm); (case zh38439k5 => k_asm); (case zh38439kK => first | exact rfl | assumption); (case zh38439kd => (first | exact room_1 hd rfl | exact room_0 hd | ktr_room)); (case zh38439ku => (first | exact unit_3 hu rfl | ktr_units)))); intro vzz ownzz hzz tkzz hRzz hKzz Fzz Nzz hUzz; clear hKzz hUzz; obtain ⟨hOzz, tVzz, hVzz⟩ := hRzz; subst hOzz hVzz; (try simp only [List.nil_append] at Nzz); (try dsimp only)) | walk1 | (dsimp only; walk1))) | (leave1; walk_say "STEP leave1"; try dsimp only)))

  exact ret_own [_] hret (by assumption) ⟨_, [_, _], _, rfl, rfl, .cons _ _ (.cons _ _ .nil)⟩ (by assumption) (by assumption) (by assumption) (by assumption) (fun p hp => by rw [List.mem_singleton.mp hp]; exact .head _)
theorem u8_octets (c : Int) (h0 : 0 ≤ c) (h1 : c < 256) (tc : Tok) : PC 4 124 [.int c tc] (IntsR (u8enc c)) := by
  unfold u8enc
  split
  · exact utf8_octets_1 c h0 (by assumption) tc
  · exact utf8_octets_2 c (by assumption) h1 tc
set_option maxHeartbeats 1000000 in
theorem utf8_sign_2 (b : Array UInt8) (ks : List Int) (hb : KBw.bInts b = ks) (hk : ks.length ≤ 1000) (i : Nat) (hi : i < ks.length) (h194 : 194 ≤ ks.getD i 0) (h223 : ks.getD i 0 ≤ 223) (hi2 : i + 1 < ks.length) (h128 : 128 ≤ ks.getD (i + 1) 0) (h191 : ks.getD (i + 1) 0 ≤ 191) (t1 t2 : Tok) : PC 2 138 [.bytes b t1, .int i t2] (Tup2 ((ks.getD i 0).fmod 32 * 64 + (ks.getD (i + 1) 0).fmod 64) 2) := by
  have e0 : ((i : Int)).toNat = i := Int.toNat_natCast i
  have e1 : ((i : Int) + 1).toNat = i + 1 := by omega
  have h194' : 194 ≤ ks.getD ((i : Int)).toNat 0 := e0.symm ▸ h194
  have h223' : ks.getD ((i : Int)).toNat 0 ≤ 223 := e0.symm ▸ h223
  unfold PC
  k_fill
  intro w mean mg mb dp un gd cn cs a ccd cl outer A₀ base h₀ L m s Q E B F X T hcs hd hu hret
  (k_dflt (refine' enter ?zh1365k1 ?zh1365k2 ?zh1365k3 ?zh1365k5 ?zh1365kA ?zh1365kF ?zh1365kK ?zh1365k6 ?zh1365k7 ?zh1365k8 ?zh1365k9 ?zh1365kB ?_ ?zh1365c2 ?zh1365c3 ?zh1365c4 ?zh1365c5; (case zh1365kA => exact rfl); (case zh1365kF => exact rfl); (case zh1365kK => first | assumption | exact rfl); (case zh1365k1 => k_asm); (case zh1365k2 => k_asm); (case zh1365k3 => k_asm); (case zh1365k5 => k_asm); (case zh1365k6 => k_is); (case zh1365k7 => k_is); (case zh1365k8 => (first | exact room_1 hd rfl | exact room_0 hd | ktr_room)); (case zh1365k9 => exact BindsTo.of_eq rfl); (case zh1365c5 => decide); (case zh1365kB => exact locs rfl); (case zh1365c2 => exact rfl); (case zh1365c3 => exact rfl); (case zh1365c4 => exact rfl); k_whole; intro gzz Lzz hzz hgzz FGzz Fzz Nzz Bzz Xzz Tzz; (try dsimp only); (try k_lift Bzz); (try (show wpAny _ _ _ _ _ _)); (try k_fold)))
  (repeat' (first | (k_unfold; (try dsimp only)) | ((fail_if_success (with_reducible show KswEnd _ _ _ _ _ _ _ _ _ _ _ _)); (fail_if_success (with_reducible show InvEndN _ _ _ _ _ _ _)); (fail_if_success (with_reducible show wpAny _ _ (exec (Stmt.While _ _ _ _) _) _ _ _)); (fail_if_success (with_reducible show wpAny _ _ (exec (Stmt.For _ _ _ _ _) _) _ _ _)); (fail_if_success (with_reducible show wpAny _ _ (exec (Stmt.Assign _ (PySem.Expr.ListComp _ _ _ _) _) _) _ _ _)); (fail_if_success (with_reducible show wpAny _ _ (eval (PySem.Expr.ListComp _ _ _ _) _) _ _ _)); (first | (k_here; (with_reducible show wpAny _ _ (call (Value.ref 131) [Value.int _ _] _) _ _ _); k_dflt (refine' PC.use (follower_span_ok _ (by assumption) (by assumption) _) ?zh46351k1 ?zh46351k2 ?zh46351k3 ?zh46351k4 ?zh46351k5 ?zh46351kK ?zh46351kd ?zh46351ku ?_); (( (case zh46351k1 => k_asm); (case zh46351k2 => k_asm); (case zh46351k3 => k_asm); (case zh46351k4 => k_asm); (case zh46351k5 => k_asm); (case zh46351kK => first | exact rfl | assumption); (case zh46351kd => (first | exact room_1 hd rfl | exact room_0 hd | ktr_room)); (case zh46351ku => (first | exact unit_3 hu rfl | ktr_units)))); intro vzz ownzz hzz tkzz hRzz hKzz Fzz Nzz hUzz; clear hKzz; obtain ⟨xzz, t1zz, t2zz, t3zz, hVzz, hOzz⟩ := hRzz; subst hVzz hOzz; (try simp only [List.singleton_append] at Nzz); (try dsimp only)) | walk1 | (dsimp only; walk1))) | (leave1; walk_say "STEP leave1"; try dsimp only)))
  (((rename Fr _ _ _ _ => lFzz); (with_unfolding_all refine' For_invVF lFzz ?zh39862k1 ?zh39862k2 ?_); (case zh39862k1 => exact rfl); (case zh39862k2 => exact rfl); (repeat' (first | (k_unfold; (try dsimp only)) | ((fail_if_success (with_reducible show wpAny _ _ (pyIter _) _ _ _)); (fail_if_success (with_reducible show wpAny _ _ (exec (Stmt.While _ _ _ _) _) _ _ _)); (fail_if_success (with_reducible show wpAny _ _ (exec (Stmt.For _ _ _ _ _) _) _ _ _)); (fail_if_success (with_reducible show wpAny _ _ (exec (Stmt.Assign _ (PySem.Expr.ListComp _ _ _ _) _) _) _ _ _)); (fail_if_success (with_reducible show wpAny _ _ (eval (PySem.Expr.ListComp _ _ _ _) _) _ _ _)); (first | (k_here; (with_reducible show wpAny _ _ (call (Value.ref 131) [Value.int _ _] _) _ _ _); k_dflt (refine' PC.use (follower_span_ok _ (by assumption) (by assumption) _) ?zh46351k1 ?zh46351k2 ?zh46351k3 ?zh46351k4 ?zh46351k5 ?zh46351kK ?zh46351kd ?zh46351ku ?_); (( (case zh46351k1 => k_asm); (case zh46351k2 => k_asm); (case zh46351k3 => k_asm); (case zh46351k4 => k_asm); (case zh46351k5 => k_asm); (case zh46351kK => first | exact rfl | assumption); (case zh46351kd => (first | exact room_1 hd rfl | exact room_0 hd | ktr_room)); (case zh46351ku => (first | exact unit_3 hu rfl | ktr_units)))); intro vzz ownzz hzz tkzz hRzz hKzz Fzz Nzz hUzz; clear hKzz; obtain ⟨xzz, t1zz, t2zz, t3zz, hVzz, hOzz⟩ := hRzz; subst hVzz hOzz; (try simp only [List.singleton_append] at Nzz); (try dsimp only)) | walk1 | (dsimp only; walk1))) | (leave1; walk_say "STEP leave1"; try dsimp only)))))
  rename IsRange _ _ _ _ _ _ _ _ => hR
  rename Fr _ _ _ _ => lF
  rename News _ _ _ _ => lN
  refine with_map lF ?_
  intro m₀ em lF2
  k_dflt refine loop1 (src_range (n := 1) (by rfl) hR (by decide) (by decide)) (fun k m nx => nx = [(_, _)] ∧ (k = 0 → m = m₀) ∧ (k = 1 → ∃ a b p t, m = fun y => if y = Str.ofString "most" then some a else if y = Str.ofString "least" then some b else if y = Str.ofString "code" then some (.int ((ks.getD i 0).fmod 32 * 64 + (ks.getD (i + 1) 0).fmod 64) t) else if y = Str.ofString "place" then some p else m₀ y)) lF2 lN ⟨rfl, fun _ => rfl, fun h => nomatch h⟩ ?_ ?_
  · rintro j v m₁ nx h tk own hj ⟨tv, rfl⟩ _ hoff ⟨rfl, hm, _⟩ F₁ N₁
    obtain rfl : j = 0 := by omega
    obtain rfl := hm rfl
    subst em
    have e2 : ((i : Int) + (1 + ((0 : Nat) : Int) * 1)).toNat = i + 1 := by omega
    have h128' : 128 ≤ ks.getD ((i : Int) + (1 + ((0 : Nat) : Int) * 1)).toNat 0 := e2.symm ▸ h128
    have h191' : ks.getD ((i : Int) + (1 + ((0 : Nat) : Int) * 1)).toNat 0 ≤ 191 := e2.symm ▸ h191
    simp only [List.cons_append, List.nil_append, List.map_cons, List.map_nil] at N₁ hoff
    clear lN lF lF2 hR hm
    (repeat' (first | (k_unfold; (try dsimp only)) | ((fail_if_success (with_reducible show KswEnd _ _ _ _ _ _ _ _ _ _ _ _)); (fail_if_success (with_reducible show InvEndN _ _ _ _ _ _ _)); (fail_if_success (with_reducible show wpAny _ _ (exec (Stmt.While _ _ _ _) _) _ _ _)); (fail_if_success (with_reducible show wpAny _ _ (exec (Stmt.For _ _ _ _ _) _) _ _ _)); (fail_if_success (with_reducible show wpAny _ _ (exec (Stmt.Assign _ (PySem.Expr.ListComp _ _ _ _) _) _) _ _ _)); (fail_if_success (with_reducible show wpAny _ _ (eval (PySem.Expr.ListComp _ _ _ _) _) _ _ _)); (first | (k_here; (with_reducible show wpAny _ _ (call (Value.ref 131) [Value.int _ _] _) _ _ _); k_dflt (refine' PC.use (follower_span_ok _ (by assumption) (by assumption) _) ?zh46351k1 ?zh46351k2 ?zh46351k3 ?zh46351k4 ?zh46351k5 ?zh46351kK ?zh46351kd ?zh46351ku ?_); (( (case zh46351k1 => k_asm); (case zh46351k2 => k_asm); (case zh46351k3 => k_asm); (case zh46351k4 => k_asm); (case zh46351k5 => k_asm); (case zh46351kK => first | exact rfl | assumption); (case zh46351kd => (first | exact room_1 hd rfl | exact room_0 hd | ktr_room)); (case zh46351ku => (first | exact unit_3 hu rfl | ktr_units)))); intro vzz ownzz hzz tkzz hRzz hKzz Fzz Nzz hUzz; clear hKzz; obtain ⟨xzz, t1zz, t2zz, t3zz, hVzz, hOzz⟩ := hRzz; subst hVzz hOzz; (try simp only [List.singleton_append] at Nzz); (try dsimp only)) | walk1 | (dsimp only; walk1))) | (leave1; walk_say "STEP leave1"; try dsimp only)))
    rename Fr _ _ _ _ => fE
    rename News _ _ _ _ => nE
    rw [e0, e2] at fE
    refine' InvEndN.intro fE nE ⟨rfl, (fun h => nomatch h), fun _ => ⟨_, _, _, _, rfl⟩⟩ rfl ?zyp (fun p hp => .tail _ (.tail _ hp))
    case zyp => intro p hp; rw [List.mem_singleton.mp hp]; exact .tail _ (.head _)
  rintro m₁ nx h tk ⟨rfl, _, hm⟩ F₁ N₁
  obtain ⟨a, b, p, t, rfl⟩ := hm rfl
  clear lN lF lF2 hR
  subst em
  (repeat' (first | (k_unfold; (try dsimp only)) | ((fail_if_success (with_reducible show KswEnd _ _ _ _ _ _ _ _ _ _ _ _)); (fail_if_success (with_reducible show InvEndN _ _ _ _ _ _ _)); (fail_if_success (with_reducible show wpAny _ _ (exec (Stmt.While _ _ _ _) _) _ _ _)); (fail_if_success (with_reducible show wpAny _ _ (exec (Stmt.For _ _ _ _ _) _) _ _ _)); (fail_if_success (with_reducible show wpAny _ _ (exec (Stmt.Assign _ (PySem.Expr.ListComp _ _ _ _) _) _) _ _ _)); (fail_if_success (with_reducible show wpAny _ _ (eval (PySem.Expr.ListComp _ _ _ _) _) _ _ _)); (first | (k_here; (with_reducible show wpAny _ _ (call (Value.ref 131) [Value.int _ _] _) _ _ _); k_dflt (refine' PC.use (follower_span_ok _ (by assumption) (by assumption) _) ?zh46351k1 ?zh46351k2 ?zh46351k3 ?zh46351k4 ?zh46351k5 ?zh46351kK ?zh46351kd ?zh46351ku ?_); (( (case zh46351k1 => k_asm); (case zh46351k2 => k_asm); (case zh46351k3 => k_asm); (case zh46351k4 => k_asm); (case zh46351k5 => k_asm); (case zh46351kK => first | exact rfl | assumption); (case zh46351kd => (first | exact room_1 hd rfl | exact room_0 hd | ktr_room)); (case zh46351ku => (first | exact unit_3 hu rfl | ktr_units)))); intro vzz ownzz hzz tkzz hRzz hKzz Fzz Nzz hUzz; clear hKzz; obtain ⟨xzz, t1zz, t2zz, t3zz, hVzz, hOzz⟩ := hRzz; subst hVzz hOzz; (try simp only [List.singleton_append] at Nzz); (try dsimp only)) | walk1 | (dsimp only; walk1))) | (leave1; walk_say "STEP leave1"; try dsimp only)))
  exact ret_own [_] hret (by assumption) ⟨_, _, _, rfl, rfl⟩ (by assumption) (by assumption) (by assumption) (by assumption) (fun p hp => by rw [List.mem_singleton.mp hp]; exact .head _)
set_option maxHeartbeats 1000000 in
theorem utf8_sign_1 (b : Array UInt8) (ks : List Int) (hb : KBw.bInts b = ks) (hk : ks.length ≤ 1000) (i : Nat) (hi : i < ks.length) (h128 : ks.getD i 0 < 128) (t1 t2 : Tok) : PC 2 138 [.bytes b t1, .int i t2] (Tup2 (ks.getD i 0) 1) := by
  have e0 : ((i : Int)).toNat = i := Int.toNat_natCast i
  have h128' : ks.getD ((i : Int)).toNat 0 < 128 := e0.symm ▸ h128
  unfold PC
  k_fill
  intro w mean mg mb dp un gd cn cs a ccd cl outer A₀ base h₀ L m s Q E B F X T hcs hd hu hret
  (k_dflt (refine' enter ?zh1365k1 ?zh1365k2 ?zh1365k3 ?zh1365k5 ?zh1365kA ?zh1365kF ?zh1365kK ?zh1365k6 ?zh1365k7 ?zh1365k8 ?zh1365k9 ?zh1365kB ?_ ?zh1365c2 ?zh1365c3 ?zh1365c4 ?zh1365c5; (case zh1365kA => exact rfl); (case zh1365kF => exact rfl); (case zh1365kK => first | assumption | exact rfl); (case zh1365k1 => k_asm); (case zh1365k2 => k_asm); (case zh1365k3 => k_asm); (case zh1365k5 => k_asm); (case zh1365k6 => k_is); (case zh1365k7 => k_is); (case zh1365k8 => (first | exact room_1 hd rfl | exact room_0 hd | ktr_room)); (case zh1365k9 => exact BindsTo.of_eq rfl); (case zh1365c5 => decide); (case zh1365kB => exact locs rfl); (case zh1365c2 => exact rfl); (case zh1365c3 => exact rfl); (case zh1365c4 => exact rfl); k_whole; intro gzz Lzz hzz hgzz FGzz Fzz Nzz Bzz Xzz Tzz; (try dsimp only); (try k_lift Bzz); (try (show wpAny _ _ _ _ _ _)); (try k_fold)))
  (repeat' (first | (k_unfold; (try dsimp only)) | ((fail_if_success (with_reducible show KswEnd _ _ _ _ _ _ _ _ _ _ _ _)); (fail_if_success (with_reducible show InvEndN _ _ _ _ _ _ _)); (fail_if_success (with_reducible show wpAny _ _ (exec (Stmt.While _ _ _ _) _) _ _ _)); (fail_if_success (with_reducible show wpAny _ _ (exec (Stmt.For _ _ _ _ _) _) _ _ _)); (fail_if_success (with_reducible show wpAny _ _ (exec (Stmt.Assign _ (PySem.Expr.ListComp _ _ _ _) _) _) _ _ _)); (fail_if_success (with_reducible show wpAny _ _ (eval (PySem.Expr.ListComp _ _ _ _) _) _ _ _)); (first | walk1 | (dsimp only; walk1))) | (leave1; walk_say "STEP leave1"; try dsimp only)))
  exact ret_own [_] hret (by assumption) ⟨_, _, _, rfl, rfl⟩ (by assumption) (by assumption) (by assumption) (by assumption) (fun p hp => by rw [List.mem_singleton.mp hp]; exact .head _)
/-- the sign at a place, by the charset: its code and its length -/
inductive SignIs (cs : Str) (ks : List Int) (i : Nat) : Int → Int → Prop
  | utf1 : cs = Str.ofString "utf-8" → ks.getD i 0 < 128 → SignIs cs ks i (ks.getD i 0) 1
  | utf2 : cs = Str.ofString "utf-8" → 194 ≤ ks.getD i 0 → ks.getD i 0 ≤ 223 → i + 1 < ks.length → 128 ≤ ks.getD (i + 1) 0 → ks.getD (i + 1) 0 ≤ 191 → SignIs cs ks i ((ks.getD i 0).fmod 32 * 64 + (ks.getD (i + 1) 0).fmod 64) 2
  | ascii : cs = Str.ofString "us-ascii" → ks.getD i 0 ≤ 127 → SignIs cs ks i (ks.getD i 0) 1
  | latin : cs = Str.ofString "iso-8859-1" → SignIs cs ks i (ks.getD i 0) 1
set_option maxHeartbeats 1000000 in
theorem sign_at_ok (c : Str) (b : Array UInt8) (ks : List Int) (hb : KBw.bInts b = ks) (hk : ks.length ≤ 1000) (i : Nat) (hi : i < ks.length) (y n : Int) (hs : SignIs c ks i y n) (t0 t1 t2 : Tok) : PC 3 145 [.str c t0, .bytes b t1, .int i t2] (Tup2 y n) := by
  have e0 : ((i : Int)).toNat = i := Int.toNat_natCast i
  cases hs
  all_goals (
    rename c = _ => hc
    subst hc
    unfold PC
    k_fill
    intro w mean mg mb dp un gd cn cs a ccd cl outer A₀ base h₀ L m s Q E B F X T hcs hd hu hret
    (k_dflt (refine' enter ?zh1365k1 ?zh1365k2 ?zh1365k3 ?zh1365k5 ?zh1365kA ?zh1365kF ?zh1365kK ?zh1365k6 ?zh1365k7 ?zh1365k8 ?zh1365k9 ?zh1365kB ?_ ?zh1365c2 ?zh1365c3 ?zh1365c4 ?zh1365c5; (case zh1365kA => exact rfl); (case zh1365kF => exact rfl); (case zh1365kK => first | assumption | exact rfl); (case zh1365k1 => k_asm); (case zh1365k2 => k_asm); (case zh1365k3 => k_asm); (case zh1365k5 => k_asm); (case zh1365k6 => k_is); (case zh1365k7 => k_is); (case zh1365k8 => (first | exact room_1 hd rfl | exact room_0 hd | ktr_room)); (case zh1365k9 => exact BindsTo.of_eq rfl); (case zh1365c5 => decide); (case zh1365kB => exact locs rfl); (case zh1365c2 => exact rfl); (case zh1365c3 => exact rfl); (case zh1365c4 => exact rfl); k_whole; intro gzz Lzz hzz hgzz FGzz Fzz Nzz Bzz Xzz Tzz; (try dsimp only); (try k_lift Bzz); (try (show wpAny _ _ _ _ _ _)); (try k_fold)))
    (repeat' (first | (k_unfold; (try dsimp only)) | ((fail_if_success (with_reducible show KswEnd _ _ _ _ _ _ _ _ _ _ _ _)); (fail_if_success (with_reducible show InvEndN _ _ _ _ _ _ _)); (fail_if_success (with_reducible show wpAny _ _ (exec (Stmt.While _ _ _ _) _) _ _ _)); (fail_if_success (with_reducible show wpAny _ _ (exec (Stmt.For _ _ _ _ _) _) _ _ _)); (fail_if_success (with_reducible show wpAny _ _ (exec (Stmt.Assign _ (PySem.Expr.ListComp _ _ _ _) _) _) _ _ _)); (fail_if_success (with_reducible show wpAny _ _ (eval (PySem.Expr.ListComp _ _ _ _) _) _ _ _)); (first | (k_here; (with_reducible show wpAny _ _ (call (Value.ref 138) [Value.bytes _ _, Value.int _ _] _) _ _ _); k_dflt (first | refine' PC.use (utf8_sign_1 _ _ (by assumption) (by assumption) _ (by assumption) (by assumption) _ _) ?zh53525k1 ?zh53525k2 ?zh53525k3 ?zh53525k4 ?zh53525k5 ?zh53525kK ?zh53525kd ?zh53525ku ?_ | refine' PC.use (utf8_sign_2 _ _ (by assumption) (by assumption) _ (by assumption) (by assumption) (by assumption) (by assumption) (by assumption) (by assumption) _ _) ?zh53525k1 ?zh53525k2 ?zh53525k3 ?zh53525k4 ?zh53525k5 ?zh53525kK ?zh53525kd ?zh53525ku ?_); (( (case zh53525k1 => k_asm); (case zh53525k2 => k_asm); (case zh53525k3 => k_asm); (case zh53525k4 => k_asm); (case zh53525k5 => k_asm); (case zh53525kK => first | exact rfl | assumption); (case zh53525kd => (first | exact room_1 hd rfl | exact room_0 hd | ktr_room)); (case zh53525ku => (first | exact unit_3 hu rfl | ktr_units)))); intro vzz ownzz hzz tkzz hRzz hKzz Fzz Nzz hUzz; clear hKzz; obtain ⟨xzz, t1zz, t2zz, hVzz, hOzz⟩ := hRzz; subst hVzz hOzz; (try simp only [List.singleton_append] at Nzz); (try dsimp only)) | walk1 | (dsimp only; walk1))) | (leave1; walk_say "STEP leave1"; try dsimp only))))
  all_goals first
    | exact ret_own [_] hret (by assumption) ⟨_, _, _, rfl, rfl⟩ (by assumption) (by assumption) (by assumption) (by assumption) (fun p hp => by rw [List.mem_singleton.mp hp]; exact .head _)
    | (exfalso; law_clear; (try rw [e0] at *); omega)
theorem nzfitV {vs : List Value} (h : vs.length ≤ 1000) : vs.toArray.size ≤ sizeLine := by rw [List.size_toArray, PySem.sizeLine_eq]; omega
/-- a text's octets by the charset, from a place on -/
inductive TextIs (cs : Str) (ks : List Int) : Nat → List Int → Prop
  | done {i : Nat} : ks.length ≤ i → TextIs cs ks i []
  | more {i : Nat} {y n : Int} {ys : List Int} : i < ks.length → SignIs cs ks i y n → 0 ≤ y → y < 256 → 1 ≤ n → n ≤ 2 → TextIs cs ks (i + n.toNat) ys → TextIs cs ks i (y :: ys)
theorem mem_one {α : Type} {a : α} {l : List α} (h : a ∈ l) : ∀ p ∈ [a], p ∈ l := fun p hp => by rw [List.mem_singleton.mp hp]; exact h
theorem strs_len {vs : List Value} {ys : List Str} (h : StrsAre vs ys) : vs.length = ys.length := by
  induction h with
  | nil => rfl
  | cons _ _ _ ih => simp only [List.length_cons, ih]
theorem strs_app {vs ws : List Value} {ys zs : List Str} (h : StrsAre vs ys) (g : StrsAre ws zs) : StrsAre (vs ++ ws) (ys ++ zs) := by
  induction h with
  | nil => exact g
  | cons x t _ ih => exact .cons x t ih
set_option maxHeartbeats 4000000 in
theorem text_in_ok (c : Str) (hc : c = Str.ofString "utf-8" ∨ c = Str.ofString "us-ascii" ∨ c = Str.ofString "iso-8859-1") (b : Array UInt8) (ks : List Int) (hb : KBw.bInts b = ks) (hk : ks.length ≤ 1000) (ys : List Int) (hs : TextIs c ks 0 ys) (t0 t1 : Tok) :
    PC 4 152 [.str c t0, .bytes b t1] (Im (IsS ⟨(ys.map Int.toNat).toArray⟩)) := by
  unfold PC
  k_fill
  intro w mean mg mb dp un gd cn cs a ccd cl outer A₀ base h₀ L m s Q E B F X T hcs hd hu hret
  (k_dflt (refine' enter ?zh1365k1 ?zh1365k2 ?zh1365k3 ?zh1365k5 ?zh1365kA ?zh1365kF ?zh1365kK ?zh1365k6 ?zh1365k7 ?zh1365k8 ?zh1365k9 ?zh1365kB ?_ ?zh1365c2 ?zh1365c3 ?zh1365c4 ?zh1365c5; (case zh1365kA => exact rfl); (case zh1365kF => exact rfl); (case zh1365kK => first | assumption | exact rfl); (case zh1365k1 => k_asm); (case zh1365k2 => k_asm); (case zh1365k3 => k_asm); (case zh1365k5 => k_asm); (case zh1365k6 => k_is); (case zh1365k7 => k_is); (case zh1365k8 => (first | exact room_1 hd rfl | exact room_0 hd | ktr_room)); (case zh1365k9 => exact BindsTo.of_eq rfl); (case zh1365c5 => decide); (case zh1365kB => exact locs rfl); (case zh1365c2 => exact rfl); (case zh1365c3 => exact rfl); (case zh1365c4 => exact rfl); k_whole; intro gzz Lzz hzz hgzz FGzz Fzz Nzz Bzz Xzz Tzz; (try dsimp only); (try k_lift Bzz); (try (show wpAny _ _ _ _ _ _)); (try k_fold)))
  (repeat' (first | (k_unfold; (try dsimp only)) | ((fail_if_success (with_reducible show KswEnd _ _ _ _ _ _ _ _ _ _ _ _)); (fail_if_success (with_reducible show InvEndN _ _ _ _ _ _ _)); (fail_if_success (with_reducible show wpAny _ _ (exec (Stmt.While _ _ _ _) _) _ _ _)); (fail_if_success (with_reducible show wpAny _ _ (exec (Stmt.For _ _ _ _ _) _) _ _ _)); (fail_if_success (with_reducible show wpAny _ _ (exec (Stmt.Assign _ (PySem.Expr.ListComp _ _ _ _) _) _) _ _ _)); (fail_if_success (with_reducible show wpAny _ _ (eval (PySem.Expr.ListComp _ _ _ _) _) _ _ _)); (first | (k_here; (with_reducible show wpAny _ _ (call (Value.builtin _) [Value.ref _, _]) _ _ _); k_dflt (refine' append_K ?zh11778k1 ?zh11778k2 ?zh11778k3 ?_ ?zh11778z; (case zh11778k1 => k_asm); (case zh11778k2 => k_asm); (case zh11778k3 => k_upd); (case zh11778z => exact nzfitV (by assumption)); k_whole); intro hzz Fzz Nzz; (try k_sweep)) | (k_here; (with_reducible show wpAny _ _ (call (Value.ref 145) [Value.str _ _, Value.bytes _ _, Value.int _ _] _) _ _ _); k_dflt (refine' PC.use (sign_at_ok _ _ _ (by assumption) (by assumption) _ (by assumption) _ _ (by assumption) _ _ _) ?zh20644k1 ?zh20644k2 ?zh20644k3 ?zh20644k4 ?zh20644k5 ?zh20644kK ?zh20644kd ?zh20644ku ?_); (( (case zh20644k1 => k_asm); (case zh20644k2 => k_asm); (case zh20644k3 => k_asm); (case zh20644k4 => k_asm); (case zh20644k5 => k_asm); (case zh20644kK => first | exact rfl | assumption); (case zh20644kd => (first | exact room_1 hd rfl | exact room_0 hd | ktr_room)); (case zh20644ku => (first | exact unit_3 hu rfl | ktr_units)))); intro vzz ownzz hzz tkzz hRzz hKzz Fzz Nzz hUzz; clear hKzz; obtain ⟨xzz, t1zz, t2zz, hVzz, hOzz⟩ := hRzz; subst hVzz hOzz; (try (have n1zz := hUzz _ (.head _) _ (.head _); have m1zz := Ne.symm n1zz; dsimp only at n1zz m1zz)); (try (have n2zz := hUzz _ (.head _) _ (.tail _ (.head _)); have m2zz := Ne.symm n2zz; dsimp only at n2zz m2zz)); (try (have n3zz := hUzz _ (.head _) _ (.tail _ (.tail _ (.head _))); have m3zz := Ne.symm n3zz; dsimp only at n3zz m3zz)); clear hUzz; (try simp only [List.singleton_append] at Nzz); (try dsimp only)) | (k_here; (with_reducible show wpAny _ _ (call (Value.builtin "str.join") [Value.str _ _, Value.ref _]) _ _ _); k_dflt (refine' join_signs_L ?zh54658jl ?zh54658ji ?zh54658jz ?_; (case zh54658jl => is_list); (case zh54658ji => assumption); (case zh54658jz => first | omega | (simp only [List.length_map]; omega)); k_whole); intro _ _) | (k_here; (with_reducible show wpAny _ _ (call (Value.ref 112) [Value.str _ _] _) _ _ _); k_dflt (refine' PC.use (need_charset_ok _ ?zh26840px _) ?zh26840k1 ?zh26840k2 ?zh26840k3 ?zh26840k4 ?zh26840k5 ?zh26840kK ?zh26840kd ?zh26840ku ?_); (case zh26840px => first | assumption | exact Or.inl rfl | exact Or.inr (Or.inl rfl) | exact Or.inr (Or.inr rfl)); (( (case zh26840k1 => k_asm); (case zh26840k2 => k_asm); (case zh26840k3 => k_asm); (case zh26840k4 => k_asm); (case zh26840k5 => k_asm); (case zh26840kK => first | exact rfl | assumption); (case zh26840kd => (first | exact room_1 hd rfl | exact room_0 hd | ktr_room)); (case zh26840ku => (first | exact unit_3 hu rfl | ktr_units)))); intro vzz ownzz hzz tkzz hRzz hKzz Fzz Nzz hUzz; clear hKzz hUzz; obtain ⟨hOzz, hVzz⟩ := hRzz; subst hOzz hVzz; (try simp only [List.nil_append] at Nzz); (try dsimp only)) | walk1 | (dsimp only; walk1))) | (leave1; walk_say "STEP leave1"; try dsimp only)))
  rename Fr _ _ _ _ => lF
  rename News _ _ _ _ => lN
  with_unfolding_all refine' ksw_while (σ := (Int × Tok) × (List Value × List Int × Nat)) (fun c => [(_, W.listOf c.2.1.toArray c.2.2.2)]) (fun c => [(Str.ofString "at", .int c.1.1 c.1.2)]) (fun c => StrsAre c.2.1 ((c.2.2.1.map Int.toNat).map sgn)) [Str.ofString "length", Str.ofString "code"] (fun d => ∃ (j : Nat) (r : List Int), d.1.1 = j ∧ TextIs c ks j r ∧ d.2.2.1 ++ r = ys ∧ d.2.2.1.length ≤ j ∧ d.2.2.1.length ≤ 1000) (fun c => ks.length + 3 - c.1.1.toNat) ((0, _), ([], [], 0)) lF lN .nil ?kk ⟨0, ys, rfl, hs, rfl, by simp, by simp⟩ ?_
  case kk => intro p hp; rw [List.mem_singleton.mp hp]; rfl
  clear lF lN
  rintro ⟨⟨_, tj⟩, ⟨vs, ns, nn⟩⟩ u h tk hvs ⟨j, r, hj, hT, hP, hnl, hnl2⟩ lF lN
  dsimp only at hj hvs hnl hP hnl2
  subst hj
  have e0 : ((j : Int)).toNat = j := Int.toNat_natCast j
  dsimp only at lF lN ⊢
  show wpAny _ _ _ _ _ _
  k_fold
  cases hT with
  | done hd =>
    have hle : ¬ (j : Int) < (ks.length : Int) := by omega
    have hr : ns = ys := by rw [← hP, List.append_nil]
    subst hr
    have hnl4 : (ns.map Int.toNat).length ≤ 100000 := by rw [List.length_map]; omega
    clear hs hP hnl hnl2
    (repeat' (first | (k_unfold; (try dsimp only)) | ((fail_if_success (with_reducible show KswEnd _ _ _ _ _ _ _ _ _ _ _ _)); (fail_if_success (with_reducible show InvEndN _ _ _ _ _ _ _)); (fail_if_success (with_reducible show wpAny _ _ (exec (Stmt.While _ _ _ _) _) _ _ _)); (fail_if_success (with_reducible show wpAny _ _ (exec (Stmt.For _ _ _ _ _) _) _ _ _)); (fail_if_success (with_reducible show wpAny _ _ (exec (Stmt.Assign _ (PySem.Expr.ListComp _ _ _ _) _) _) _ _ _)); (fail_if_success (with_reducible show wpAny _ _ (eval (PySem.Expr.ListComp _ _ _ _) _) _ _ _)); (first | (k_here; (with_reducible show wpAny _ _ (call (Value.builtin _) [Value.ref _, _]) _ _ _); k_dflt (refine' append_K ?zh11778k1 ?zh11778k2 ?zh11778k3 ?_ ?zh11778z; (case zh11778k1 => k_asm); (case zh11778k2 => k_asm); (case zh11778k3 => k_upd); (case zh11778z => exact nzfitV (by assumption)); k_whole); intro hzz Fzz Nzz; (try k_sweep)) | (k_here; (with_reducible show wpAny _ _ (call (Value.ref 145) [Value.str _ _, Value.bytes _ _, Value.int _ _] _) _ _ _); k_dflt (refine' PC.use (sign_at_ok _ _ _ (by assumption) (by assumption) _ (by assumption) _ _ (by assumption) _ _ _) ?zh20644k1 ?zh20644k2 ?zh20644k3 ?zh20644k4 ?zh20644k5 ?zh20644kK ?zh20644kd ?zh20644ku ?_); (( (case zh20644k1 => k_asm); (case zh20644k2 => k_asm); (case zh20644k3 => k_asm); (case zh20644k4 => k_asm); (case zh20644k5 => k_asm); (case zh20644kK => first | exact rfl | assumption); (case zh20644kd => (first | exact room_1 hd rfl | exact room_0 hd | ktr_room)); (case zh20644ku => (first | exact unit_3 hu rfl | ktr_units)))); intro vzz ownzz hzz tkzz hRzz hKzz Fzz Nzz hUzz; clear hKzz; obtain ⟨xzz, t1zz, t2zz, hVzz, hOzz⟩ := hRzz; subst hVzz hOzz; (try (have n1zz := hUzz _ (.head _) _ (.head _); have m1zz := Ne.symm n1zz; dsimp only at n1zz m1zz)); (try (have n2zz := hUzz _ (.head _) _ (.tail _ (.head _)); have m2zz := Ne.symm n2zz; dsimp only at n2zz m2zz)); (try (have n3zz := hUzz _ (.head _) _ (.tail _ (.tail _ (.head _))); have m3zz := Ne.symm n3zz; dsimp only at n3zz m3zz)); clear hUzz; (try simp only [List.singleton_append] at Nzz); (try dsimp only)) | (k_here; (with_reducible show wpAny _ _ (call (Value.builtin "str.join") [Value.str _ _, Value.ref _]) _ _ _); k_dflt (refine' join_signs_L ?zh54658jl ?zh54658ji ?zh54658jz ?_; (case zh54658jl => is_list); (case zh54658ji => assumption); (case zh54658jz => first | omega | (simp only [List.length_map]; omega)); k_whole); intro _ _) | (k_here; (with_reducible show wpAny _ _ (call (Value.ref 112) [Value.str _ _] _) _ _ _); k_dflt (refine' PC.use (need_charset_ok _ ?zh26840px _) ?zh26840k1 ?zh26840k2 ?zh26840k3 ?zh26840k4 ?zh26840k5 ?zh26840kK ?zh26840kd ?zh26840ku ?_); (case zh26840px => first | assumption | exact Or.inl rfl | exact Or.inr (Or.inl rfl) | exact Or.inr (Or.inr rfl)); (( (case zh26840k1 => k_asm); (case zh26840k2 => k_asm); (case zh26840k3 => k_asm); (case zh26840k4 => k_asm); (case zh26840k5 => k_asm); (case zh26840kK => first | exact rfl | assumption); (case zh26840kd => (first | exact room_1 hd rfl | exact room_0 hd | ktr_room)); (case zh26840ku => (first | exact unit_3 hu rfl | ktr_units)))); intro vzz ownzz hzz tkzz hRzz hKzz Fzz Nzz hUzz; clear hKzz hUzz; obtain ⟨hOzz, hVzz⟩ := hRzz; subst hOzz hVzz; (try simp only [List.nil_append] at Nzz); (try dsimp only)) | walk1 | (dsimp only; walk1))) | (leave1; walk_say "STEP leave1"; try dsimp only)))
    exact ret_im hret (by assumption) ⟨_, rfl⟩ (by assumption) (by assumption)
  | @more _ y n r' hi hS hy0 hy1 hn1 hn2 hT' =>
    have hlt : (j : Int) < (ks.length : Int) := by omega
    have hvl : vs.length ≤ 1000 := by rw [strs_len hvs, List.length_map, List.length_map]; exact hnl2
    have hvs' : ∀ t, StrsAre (vs ++ [.str (sgn y.toNat) t]) (((ns ++ [y]).map Int.toNat).map sgn) := fun t => by rw [List.map_append, List.map_append]; exact strs_app hvs (.cons _ _ .nil)
    (repeat' (first | (k_unfold; (try dsimp only)) | ((fail_if_success (with_reducible show KswEnd _ _ _ _ _ _ _ _ _ _ _ _)); (fail_if_success (with_reducible show InvEndN _ _ _ _ _ _ _)); (fail_if_success (with_reducible show wpAny _ _ (exec (Stmt.While _ _ _ _) _) _ _ _)); (fail_if_success (with_reducible show wpAny _ _ (exec (Stmt.For _ _ _ _ _) _) _ _ _)); (fail_if_success (with_reducible show wpAny _ _ (exec (Stmt.Assign _ (PySem.Expr.ListComp _ _ _ _) _) _) _ _ _)); (fail_if_success (with_reducible show wpAny _ _ (eval (PySem.Expr.ListComp _ _ _ _) _) _ _ _)); (first | (k_here; (with_reducible show wpAny _ _ (call (Value.builtin _) [Value.ref _, _]) _ _ _); k_dflt (refine' append_K ?zh11778k1 ?zh11778k2 ?zh11778k3 ?_ ?zh11778z; (case zh11778k1 => k_asm); (case zh11778k2 => k_asm); (case zh11778k3 => k_upd); (case zh11778z => exact nzfitV (by assumption)); k_whole); intro hzz Fzz Nzz; (try k_sweep)) | (k_here; (with_reducible show wpAny _ _ (call (Value.ref 145) [Value.str _ _, Value.bytes _ _, Value.int _ _] _) _ _ _); k_dflt (refine' PC.use (sign_at_ok _ _ _ (by assumption) (by assumption) _ (by assumption) _ _ (by assumption) _ _ _) ?zh20644k1 ?zh20644k2 ?zh20644k3 ?zh20644k4 ?zh20644k5 ?zh20644kK ?zh20644kd ?zh20644ku ?_); (( (case zh20644k1 => k_asm); (case zh20644k2 => k_asm); (case zh20644k3 => k_asm); (case zh20644k4 => k_asm); (case zh20644k5 => k_asm); (case zh20644kK => first | exact rfl | assumption); (case zh20644kd => (first | exact room_1 hd rfl | exact room_0 hd | ktr_room)); (case zh20644ku => (first | exact unit_3 hu rfl | ktr_units)))); intro vzz ownzz hzz tkzz hRzz hKzz Fzz Nzz hUzz; clear hKzz; obtain ⟨xzz, t1zz, t2zz, hVzz, hOzz⟩ := hRzz; subst hVzz hOzz; (try (have n1zz := hUzz _ (.head _) _ (.head _); have m1zz := Ne.symm n1zz; dsimp only at n1zz m1zz)); (try (have n2zz := hUzz _ (.head _) _ (.tail _ (.head _)); have m2zz := Ne.symm n2zz; dsimp only at n2zz m2zz)); (try (have n3zz := hUzz _ (.head _) _ (.tail _ (.tail _ (.head _))); have m3zz := Ne.symm n3zz; dsimp only at n3zz m3zz)); clear hUzz; (try simp only [List.singleton_append] at Nzz); (try dsimp only)) | (k_here; (with_reducible show wpAny _ _ (call (Value.builtin "str.join") [Value.str _ _, Value.ref _]) _ _ _); k_dflt (refine' join_signs_L ?zh54658jl ?zh54658ji ?zh54658jz ?_; (case zh54658jl => is_list); (case zh54658ji => assumption); (case zh54658jz => first | omega | (simp only [List.length_map]; omega)); k_whole); intro _ _) | (k_here; (with_reducible show wpAny _ _ (call (Value.ref 112) [Value.str _ _] _) _ _ _); k_dflt (refine' PC.use (need_charset_ok _ ?zh26840px _) ?zh26840k1 ?zh26840k2 ?zh26840k3 ?zh26840k4 ?zh26840k5 ?zh26840kK ?zh26840kd ?zh26840ku ?_); (case zh26840px => first | assumption | exact Or.inl rfl | exact Or.inr (Or.inl rfl) | exact Or.inr (Or.inr rfl)); (( (case zh26840k1 => k_asm); (case zh26840k2 => k_asm); (case zh26840k3 => k_asm); (case zh26840k4 => k_asm); (case zh26840k5 => k_asm); (case zh26840kK => first | exact rfl | assumption); (case zh26840kd => (first | exact room_1 hd rfl | exact room_0 hd | ktr_room)); (case zh26840ku => (first | exact unit_3 hu rfl | ktr_units)))); intro vzz ownzz hzz tkzz hRzz hKzz Fzz Nzz hUzz; clear hKzz hUzz; obtain ⟨hOzz, hVzz⟩ := hRzz; subst hOzz hVzz; (try simp only [List.nil_append] at Nzz); (try dsimp only)) | walk1 | (dsimp only; walk1))) | (leave1; walk_say "STEP leave1"; try dsimp only)))
    rename Fr _ _ _ _ => fE
    rename News _ _ _ _ => nE
    (try simp only [List.push_toArray] at nE)
    refine' ksw_end (((j : Int) + n, _), (vs ++ [.str ⟨#[y.toNat]⟩ _], ns ++ [y], nn + 1)) fE nE (mem_one (.tail _ (.head _))) (hvs' _) ?b ?c ⟨j + n.toNat, r', by simp; omega, hT', by rw [← hP]; simp, by simp; omega, ?g⟩ ?h
    case b => intro p hp; rw [List.mem_singleton.mp hp]; rfl
    case c =>
      intro z h2 h3
      have h2 := h2 _ (List.mem_singleton.mpr rfl)
      have h3' : z ≠ Str.ofString "length" ∧ z ≠ Str.ofString "code" := by simpa using h3
      simp [h2, h3'.1, h3'.2, kstB]
    case g => simp; omega
    case h => dsimp only; omega
theorem ext_own {prog : Program} {w : World} {A : Around} {E : Value → Shared → Prop} {s : Shared} {h₀ : Heap} {L : Addr} {m : Str → Option Value} {D b : Addr} {vs ws : List Value} {n n2 : Nat} {news news' : List (Addr × Obj)} {Q : Value → Shared → Prop} (F : Fr h₀ L s.heap m) (N : News h₀ L s.heap news) (hb : (b, W.listOf ws.toArray n2) ∈ news)
    (U : Upd D (W.listOf vs.toArray n) (W.listOf (vs ++ ws).toArray (n + 1)) news news') (h1 : vs.length ≤ 1000) (h2 : ws.length ≤ 1000) (hne : ws.length ≠ 0)
    (h : ∀ h', Fr h₀ L h' m → News h₀ L h' news' → Q .none { s with heap := h' }) : wpAny (model prog w) A (call (.builtin "list.extend") [.ref D, .ref b]) Q E s := by
  refine kl_extend F N hb rfl hne U ?_ ?_ ?_ h
  · have : Builtin.List.listTooLong (vs.toArray.size + ws.toArray.size) = false := by
      unfold Builtin.List.listTooLong
      rw [List.size_toArray, List.size_toArray, PySem.sizeLine_eq]
      exact decide_eq_false (by omega)
    rw [this]; simp
  · rw [PySem.sizeLine_eq]; exact Nat.le_trans h1 (by decide)
  · simp only [List.size_toArray]; rw [PySem.sizeLine_eq]; omega
theorem nzlen {x : Str} (h : x.length ≤ 1000) : ¬ (x.length : Int) ≥ 2 ^ 63 := by omega
theorem item_sgn {prog : Program} {w : World} {A : Around} {E : Value → Shared → Prop} {s : Shared} {value slice : Expr} {x : Str} {t u : Tok} {Q : Value → Shared → Prop} {k : Int} (i c : Nat) (hk : k = (i : Int)) (hc : x.cps[i]? = some c) (hz : x.length ≤ 1000)
    (h : Q (.str (sgn c) s.toks) { s with toks := s.toks + 1 })
    (hs : subscripted slice false (.str x t) (.int k u) = operate [.str x t, .int k u] (getItem (.str x t) (.int k u)) := by with_unfolding_all rfl)
    (ht : ∀ r, letTemporaryGo value (.str x t) r = pure () := by intro _; with_unfolding_all rfl) :
    wpAny (model prog w) A (subscriptTail value slice (.str x t) (.int k u)) Q E s := by
  subst hk
  have hi : i < x.length := (Array.getElem?_eq_some_iff.mp hc).1
  refine subscriptTail_builtin (typeIs_str s x t) F.slot_str_getitem.lookup (getItem_str ?_ ?_ h) hs ht
  · simp; omega
  · have : seqIndex? (i : Int) x.length = some i := by
      unfold seqIndex?
      have h0 : ¬ ((i : Int) < 0) := by omega
      simp only [if_neg h0, Int.toNat_natCast]
      have h1 : (i : Int) < (x.length : Int) := by omega
      simp [h1]
    rw [this]; exact hc
/-- a charset's sign -/
inductive SignOk (c : Str) (y : Int) : Prop
  | utf : c = Str.ofString "utf-8" → 0 ≤ y → y < 256 → SignOk c y
  | ascii : c = Str.ofString "us-ascii" → 0 ≤ y → y < 128 → SignOk c y
  | latin : c = Str.ofString "iso-8859-1" → 0 ≤ y → y < 256 → SignOk c y
theorem SignOk.bound {c : Str} {y : Int} (h : SignOk c y) : 0 ≤ y ∧ y < 256 := by cases h <;> omega
theorem u8len_pos (y : Int) : 0 < u8len y := by unfold u8len; split <;> omega
set_option maxHeartbeats 1000000 in
theorem has_sign_ok (c : Str) (y : Int) (h : SignOk c y) (t0 t1 : Tok) : PC 4 159 [.str c t0, .int y t1] (Im (IsBo true)) := by
  have hp := u8len_pos y
  cases h
  all_goals (
    rename c = _ => hc
    subst hc
    unfold PC
    k_fill
    intro w mean mg mb dp un gd cn cs a ccd cl outer A₀ base h₀ L m s Q E B F X T hcs hd hu hret
    (k_dflt (refine' enter ?zh1365k1 ?zh1365k2 ?zh1365k3 ?zh1365k5 ?zh1365kA ?zh1365kF ?zh1365kK ?zh1365k6 ?zh1365k7 ?zh1365k8 ?zh1365k9 ?zh1365kB ?_ ?zh1365c2 ?zh1365c3 ?zh1365c4 ?zh1365c5; (case zh1365kA => exact rfl); (case zh1365kF => exact rfl); (case zh1365kK => first | assumption | exact rfl); (case zh1365k1 => k_asm); (case zh1365k2 => k_asm); (case zh1365k3 => k_asm); (case zh1365k5 => k_asm); (case zh1365k6 => k_is); (case zh1365k7 => k_is); (case zh1365k8 => (first | exact room_1 hd rfl | exact room_0 hd | ktr_room)); (case zh1365k9 => exact BindsTo.of_eq rfl); (case zh1365c5 => decide); (case zh1365kB => exact locs rfl); (case zh1365c2 => exact rfl); (case zh1365c3 => exact rfl); (case zh1365c4 => exact rfl); k_whole; intro gzz Lzz hzz hgzz FGzz Fzz Nzz Bzz Xzz Tzz; (try dsimp only); (try k_lift Bzz); (try (show wpAny _ _ _ _ _ _)); (try k_fold)))
    (repeat' (first | (k_unfold; (try dsimp only)) | ((fail_if_success (with_reducible show KswEnd _ _ _ _ _ _ _ _ _ _ _ _)); (fail_if_success (with_reducible show InvEndN _ _ _ _ _ _ _)); (fail_if_success (with_reducible show wpAny _ _ (exec (Stmt.While _ _ _ _) _) _ _ _)); (fail_if_success (with_reducible show wpAny _ _ (exec (Stmt.For _ _ _ _ _) _) _ _ _)); (fail_if_success (with_reducible show wpAny _ _ (exec (Stmt.Assign _ (PySem.Expr.ListComp _ _ _ _) _) _) _ _ _)); (fail_if_success (with_reducible show wpAny _ _ (eval (PySem.Expr.ListComp _ _ _ _) _) _ _ _)); (first | (k_here; (with_reducible show wpAny _ _ (call (Value.ref 117) [Value.int _ _] _) _ _ _); k_dflt (refine' PC.use (utf8_length_ok _ (by assumption) (by assumption) _) ?zh25492k1 ?zh25492k2 ?zh25492k3 ?zh25492k4 ?zh25492k5 ?zh25492kK ?zh25492kd ?zh25492ku ?_); (( (case zh25492k1 => k_asm); (case zh25492k2 => k_asm); (case zh25492k3 => k_asm); (case zh25492k4 => k_asm); (case zh25492k5 => k_asm); (case zh25492kK => first | exact rfl | assumption); (case zh25492kd => (first | exact room_1 hd rfl | exact room_0 hd | ktr_room)); (case zh25492ku => (first | exact unit_3 hu rfl | ktr_units)))); intro vzz ownzz hzz tkzz hRzz hKzz Fzz Nzz hUzz; clear hKzz hUzz; obtain ⟨hOzz, tVzz, hVzz⟩ := hRzz; subst hOzz hVzz; (try simp only [List.nil_append] at Nzz); (try dsimp only)) | walk1 | (dsimp only; walk1))) | (leave1; walk_say "STEP leave1"; try dsimp only))))
  all_goals first
    | exact ret_im hret (by assumption) rfl (by assumption) (by assumption)
    | (refine ret_im hret (by assumption) ?_ (by assumption) (by assumption); exact congrArg Value.bool (decide_eq_true (by first | assumption | omega)))
theorem u8enc_len (y : Int) : (u8enc y).length ≠ 0 ∧ (u8enc y).length ≤ 2 := by unfold u8enc; split <;> simp
noncomputable def encS (c : Str) (y : Int) : List Int := if c = Str.ofString "utf-8" then u8enc y else [y]
noncomputable def encT (c : Str) (ys : List Int) : List Int := (ys.map (encS c)).flatten
theorem encT_succ {c : Str} {ys : List Int} {i : Nat} {y : Int} (h : ys[i]? = some y) : encT c (ys.take (i + 1)) = encT c (ys.take i) ++ encS c y := by
  unfold encT
  rw [List.take_add_one, h]
  simp
theorem encS_len (c : Str) (y : Int) : (encS c y).length ≤ 2 := by unfold encS u8enc; (repeat' split) <;> simp
theorem encT_len (c : Str) : ∀ ys : List Int, (encT c ys).length ≤ 2 * ys.length
  | [] => by simp [encT]
  | y :: r => by
    have ih := encT_len c r
    have h := encS_len c y
    have e : encT c (y :: r) = encS c y ++ encT c r := by simp [encT]
    rw [e, List.length_append, List.length_cons]
    omega
theorem map_self2 {x y : Str} {m₀ : Str → Option Value} : m₀ = fun z => if z = x then m₀ x else if z = y then m₀ y else m₀ z := by
  funext z
  by_cases h : z = x
  · simp [h]
  · by_cases h2 : z = y
    · rw [if_neg h, if_pos h2, h2]
    · rw [if_neg h, if_neg h2]
theorem map_over2 {x y : Str} {u1 u2 : Option Value} {v : Value} {m₀ : Str → Option Value} (n : x ≠ y) : (fun z => if z = y then some v else (fun z => if z = x then u1 else if z = y then u2 else m₀ z) z) = fun z => if z = x then u1 else if z = y then some v else m₀ z := by
  funext z
  by_cases h : z = x
  · have : ¬ z = y := fun e => n (h.symm.trans e)
    rw [if_neg this, if_pos h]; exact if_pos h
  · by_cases h2 : z = y
    · rw [if_pos h2, if_neg h, if_pos h2]
    · rw [if_neg h2, if_neg h, if_neg h2]; dsimp only; rw [if_neg h, if_neg h2]
theorem map_again {x a : Str} {v u1 u2 : Option Value} {m₀ : Str → Option Value} : (fun y => if y = x then v else if y = x then u1 else if y = a then u2 else m₀ y) = fun z => if z = x then v else if z = a then u2 else m₀ z := by
  funext z
  by_cases h : z = x
  · rw [if_pos h, if_pos h]
  · rw [if_neg h, if_neg h, if_neg h]
theorem encS_in {c : Str} {y : Int} (h : SignOk c y) : ∀ k ∈ encS c y, 0 ≤ k ∧ k < 256 := by
  have hb := h.bound
  unfold encS u8enc
  intro k hk
  have h1 : 0 ≤ y.fmod 64 ∧ y.fmod 64 < 64 := ⟨Int.fmod_nonneg_of_pos _ (by decide), Int.fmod_lt_of_pos _ (by decide)⟩
  have h2 : y.fdiv 64 = y / 64 := Int.fdiv_eq_ediv_of_nonneg _ (by decide)
  split at hk
  · split at hk
    · simp only [List.mem_cons, List.not_mem_nil, or_false] at hk; omega
    · simp only [List.mem_cons, List.not_mem_nil, or_false] at hk; omega
  · simp only [List.mem_cons, List.not_mem_nil, or_false] at hk; omega
theorem encT_in {c : Str} {ys : List Int} (h : ∀ y ∈ ys, SignOk c y) : ∀ k ∈ encT c ys, 0 ≤ k ∧ k < 256 := by
  intro k hk
  unfold encT at hk
  obtain ⟨l, hl, hk⟩ := List.mem_flatten.mp hk
  obtain ⟨y, hy, rfl⟩ := List.mem_map.mp hl
  exact encS_in (h y hy) k hk
theorem small_1 {n : Nat} (h : n ≤ 100) : Builtin.Range.small 0 (n : Int) 1 = true := by
  have : ∀ n ≤ 100, Builtin.Range.small 0 ((n : Nat) : Int) 1 = true := by decide +kernel
  exact this n h
theorem size_1 {n : Nat} : Builtin.Range.rangeSize 0 (n : Int) 1 = ((n : Nat) : Int) := by
  unfold Builtin.Range.rangeSize
  rw [if_pos (by decide)]
  split <;> omega
theorem cps_at {x : Str} {ys : List Int} (hx : x.cps.toList.map Int.ofNat = ys) {i : Nat} {y : Int} (h : ys[i]? = some y) : x.cps[i]? = some y.toNat ∧ ((y.toNat : Nat) : Int) = y := by
  rw [← hx, List.getElem?_map, Array.getElem?_toList] at h
  obtain ⟨c, hc, rfl⟩ := Option.map_eq_some_iff.mp h
  exact ⟨hc, rfl⟩
set_option maxHeartbeats 1000000 in
theorem octets_in_ok (c : Str) (hcs0 : c = Str.ofString "utf-8" ∨ c = Str.ofString "us-ascii" ∨ c = Str.ofString "iso-8859-1") (x : Str) (ys : List Int) (hx : x.cps.toList.map Int.ofNat = ys) (hk : ys.length ≤ 100) (hy : ∀ y ∈ ys, SignOk c y) (t0 t1 : Tok) : PC 6 166 [.str c t0, .str x t1] (Im (IsB (encT c ys))) := by
  have hxl : x.length ≤ 1000 := by have := congrArg List.length hx; rw [List.length_map, Array.length_toList] at this; show x.cps.size ≤ 1000; omega
  unfold PC
  k_fill
  intro w mean mg mb dp un gd cn cs a ccd cl outer A₀ base h₀ L m s Q E B F X T hcs hd hu hret
  (k_dflt (refine' enter ?zh1365k1 ?zh1365k2 ?zh1365k3 ?zh1365k5 ?zh1365kA ?zh1365kF ?zh1365kK ?zh1365k6 ?zh1365k7 ?zh1365k8 ?zh1365k9 ?zh1365kB ?_ ?zh1365c2 ?zh1365c3 ?zh1365c4 ?zh1365c5; (case zh1365kA => exact rfl); (case zh1365kF => exact rfl); (case zh1365kK => first | assumption | exact rfl); (case zh1365k1 => k_asm); (case zh1365k2 => k_asm); (case zh1365k3 => k_asm); (case zh1365k5 => k_asm); (case zh1365k6 => k_is); (case zh1365k7 => k_is); (case zh1365k8 => (first | exact room_1 hd rfl | exact room_0 hd | ktr_room)); (case zh1365k9 => exact BindsTo.of_eq rfl); (case zh1365c5 => decide); (case zh1365kB => exact locs rfl); (case zh1365c2 => exact rfl); (case zh1365c3 => exact rfl); (case zh1365c4 => exact rfl); k_whole; intro gzz Lzz hzz hgzz FGzz Fzz Nzz Bzz Xzz Tzz; (try dsimp only); (try k_lift Bzz); (try (show wpAny _ _ _ _ _ _)); (try k_fold)))
  (repeat' (first | (k_unfold; (try dsimp only)) | ((fail_if_success (with_reducible show KswEnd _ _ _ _ _ _ _ _ _ _ _ _)); (fail_if_success (with_reducible show InvEndN _ _ _ _ _ _ _)); (fail_if_success (with_reducible show wpAny _ _ (exec (Stmt.While _ _ _ _) _) _ _ _)); (fail_if_success (with_reducible show wpAny _ _ (exec (Stmt.For _ _ _ _ _) _) _ _ _)); (fail_if_success (with_reducible show wpAny _ _ (exec (Stmt.Assign _ (PySem.Expr.ListComp _ _ _ _) _) _) _ _ _)); (fail_if_success (with_reducible show wpAny _ _ (eval (PySem.Expr.ListComp _ _ _ _) _) _ _ _)); (first | (k_here; (with_reducible show wpAny _ _ (call (Value.builtin _) [Value.ref _, Value.ref _]) _ _ _); k_dflt (refine' ext_own ?zh23357F ?zh23357N ?zh23357b ?zh23357U ?zh23357x ?zh23357y ?zh23357z ?_; (case zh23357F => k_asm); (case zh23357N => k_asm); (case zh23357U => k_upd); (case zh23357b => k_mem); (case zh23357x => assumption); (case zh23357y => (rename IntsAre _ (u8enc _) => hIzz; rw [ints_len hIzz]; exact Nat.le_trans (u8enc_len _).2 (by decide))); (case zh23357z => (rename IntsAre _ (u8enc _) => hIzz; rw [ints_len hIzz]; exact (u8enc_len _).1))); intro hzz Fzz Nzz; (try k_sweep)) | (k_here; (with_reducible show wpAny _ _ (call (Value.ref 124) [Value.int _ _] _) _ _ _); k_dflt (refine' PC.use (u8_octets _ (by assumption) (by assumption) _) ?zh32704k1 ?zh32704k2 ?zh32704k3 ?zh32704k4 ?zh32704k5 ?zh32704kK ?zh32704kd ?zh32704ku ?_); (( (case zh32704k1 => k_asm); (case zh32704k2 => k_asm); (case zh32704k3 => k_asm); (case zh32704k4 => k_asm); (case zh32704k5 => k_asm); (case zh32704kK => first | exact rfl | assumption); (case zh32704kd => (first | exact room_1 hd rfl | exact room_0 hd | ktr_room)); (case zh32704ku => (first | exact unit_3 hu rfl | ktr_units)))); intro vzz ownzz hzz tkzz hRzz hKzz Fzz Nzz hUzz; clear hKzz; obtain ⟨xzz, vszz, nzz, hVzz, hOzz, hizz⟩ := hRzz; subst hVzz hOzz; (try (have n1zz := hUzz _ (.head _) _ (.head _); have n2zz := Ne.symm n1zz; dsimp only at n1zz n2zz)); clear hUzz; (try simp only [List.singleton_append] at Nzz); (try dsimp only)) | (k_here; (with_reducible show wpAny _ _ (call (Value.ref 159) [Value.str _ _, Value.int _ _] _) _ _ _); k_dflt (refine' PC.use (has_sign_ok _ _ (by assumption) _ _) ?zh9499k1 ?zh9499k2 ?zh9499k3 ?zh9499k4 ?zh9499k5 ?zh9499kK ?zh9499kd ?zh9499ku ?_); (( (case zh9499k1 => k_asm); (case zh9499k2 => k_asm); (case zh9499k3 => k_asm); (case zh9499k4 => k_asm); (case zh9499k5 => k_asm); (case zh9499kK => first | exact rfl | assumption); (case zh9499kd => (first | exact room_1 hd rfl | exact room_0 hd | ktr_room)); (case zh9499ku => (first | exact unit_3 hu rfl | ktr_units)))); intro vzz ownzz hzz tkzz hRzz hKzz Fzz Nzz hUzz; clear hKzz hUzz; obtain ⟨hOzz, hVzz⟩ := hRzz; subst hOzz; unfold IsBo at hVzz; subst hVzz; (try simp only [List.nil_append] at Nzz); (try dsimp only)) | (k_here; (with_reducible show wpAny _ _ (subscriptTail _ _ (Value.str _ _) (Value.int _ _)) _ _ _); k_dflt (refine' item_sgn ?zh39453i ?zh39453c ?zh39453e ?zh39453hc ?zh39453hz ?_; (case zh39453hc => assumption); (case zh39453e => omega); (case zh39453hz => assumption))) | (k_here; (with_reducible show wpAny _ _ (call (Value.builtin "len") [Value.str _ _]) _ _ _); refine len_str (nzlen (by assumption)) ?_) | (k_here; (with_reducible show wpAny _ _ (call (Value.ref 112) [Value.str _ _] _) _ _ _); k_dflt (refine' PC.use (need_charset_ok _ ?zh26840px _) ?zh26840k1 ?zh26840k2 ?zh26840k3 ?zh26840k4 ?zh26840k5 ?zh26840kK ?zh26840kd ?zh26840ku ?_); (case zh26840px => first | assumption | exact Or.inl rfl | exact Or.inr (Or.inl rfl) | exact Or.inr (Or.inr rfl)); (( (case zh26840k1 => k_asm); (case zh26840k2 => k_asm); (case zh26840k3 => k_asm); (case zh26840k4 => k_asm); (case zh26840k5 => k_asm); (case zh26840kK => first | exact rfl | assumption); (case zh26840kd => (first | exact room_1 hd rfl | exact room_0 hd | ktr_room)); (case zh26840ku => (first | exact unit_3 hu rfl | ktr_units)))); intro vzz ownzz hzz tkzz hRzz hKzz Fzz Nzz hUzz; clear hKzz hUzz; obtain ⟨hOzz, hVzz⟩ := hRzz; subst hOzz hVzz; (try simp only [List.nil_append] at Nzz); (try dsimp only)) | walk1 | (dsimp only; walk1))) | (leave1; walk_say "STEP leave1"; try dsimp only)))
  (((rename Fr _ _ _ _ => lFzz); (with_unfolding_all refine' For_invVF lFzz ?zh39862k1 ?zh39862k2 ?_); (case zh39862k1 => exact rfl); (case zh39862k2 => exact rfl); (repeat' (first | (k_unfold; (try dsimp only)) | ((fail_if_success (with_reducible show wpAny _ _ (pyIter _) _ _ _)); (fail_if_success (with_reducible show wpAny _ _ (exec (Stmt.While _ _ _ _) _) _ _ _)); (fail_if_success (with_reducible show wpAny _ _ (exec (Stmt.For _ _ _ _ _) _) _ _ _)); (fail_if_success (with_reducible show wpAny _ _ (exec (Stmt.Assign _ (PySem.Expr.ListComp _ _ _ _) _) _) _ _ _)); (fail_if_success (with_reducible show wpAny _ _ (eval (PySem.Expr.ListComp _ _ _ _) _) _ _ _)); (first | (k_here; (with_reducible show wpAny _ _ (call (Value.builtin _) [Value.ref _, Value.ref _]) _ _ _); k_dflt (refine' ext_own ?zh23357F ?zh23357N ?zh23357b ?zh23357U ?zh23357x ?zh23357y ?zh23357z ?_; (case zh23357F => k_asm); (case zh23357N => k_asm); (case zh23357U => k_upd); (case zh23357b => k_mem); (case zh23357x => assumption); (case zh23357y => (rename IntsAre _ (u8enc _) => hIzz; rw [ints_len hIzz]; exact Nat.le_trans (u8enc_len _).2 (by decide))); (case zh23357z => (rename IntsAre _ (u8enc _) => hIzz; rw [ints_len hIzz]; exact (u8enc_len _).1))); intro hzz Fzz Nzz; (try k_sweep)) | (k_here; (with_reducible show wpAny _ _ (call (Value.ref 124) [Value.int _ _] _) _ _ _); k_dflt (refine' PC.use (u8_octets _ (by assumption) (by assumption) _) ?zh32704k1 ?zh32704k2 ?zh32704k3 ?zh32704k4 ?zh32704k5 ?zh32704kK ?zh32704kd ?zh32704ku ?_); (( (case zh32704k1 => k_asm); (case zh32704k2 => k_asm); (case zh32704k3 => k_asm); (case zh32704k4 => k_asm); (case zh32704k5 => k_asm); (case zh32704kK => first | exact rfl | assumption); (case zh32704kd => (first | exact room_1 hd rfl | exact room_0 hd | ktr_room)); (case zh32704ku => (first | exact unit_3 hu rfl | ktr_units)))); intro vzz ownzz hzz tkzz hRzz hKzz Fzz Nzz hUzz; clear hKzz; obtain ⟨xzz, vszz, nzz, hVzz, hOzz, hizz⟩ := hRzz; subst hVzz hOzz; (try (have n1zz := hUzz _ (.head _) _ (.head _); have n2zz := Ne.symm n1zz; dsimp only at n1zz n2zz)); clear hUzz; (try simp only [List.singleton_append] at Nzz); (try dsimp only)) | (k_here; (with_reducible show wpAny _ _ (call (Value.ref 159) [Value.str _ _, Value.int _ _] _) _ _ _); k_dflt (refine' PC.use (has_sign_ok _ _ (by assumption) _ _) ?zh9499k1 ?zh9499k2 ?zh9499k3 ?zh9499k4 ?zh9499k5 ?zh9499kK ?zh9499kd ?zh9499ku ?_); (( (case zh9499k1 => k_asm); (case zh9499k2 => k_asm); (case zh9499k3 => k_asm); (case zh9499k4 => k_asm); (case zh9499k5 => k_asm); (case zh9499kK => first | exact rfl | assumption); (case zh9499kd => (first | exact room_1 hd rfl | exact room_0 hd | ktr_room)); (case zh9499ku => (first | exact unit_3 hu rfl | ktr_units)))); intro vzz ownzz hzz tkzz hRzz hKzz Fzz Nzz hUzz; clear hKzz hUzz; obtain ⟨hOzz, hVzz⟩ := hRzz; subst hOzz; unfold IsBo at hVzz; subst hVzz; (try simp only [List.nil_append] at Nzz); (try dsimp only)) | (k_here; (with_reducible show wpAny _ _ (subscriptTail _ _ (Value.str _ _) (Value.int _ _)) _ _ _); k_dflt (refine' item_sgn ?zh39453i ?zh39453c ?zh39453e ?zh39453hc ?zh39453hz ?_; (case zh39453hc => assumption); (case zh39453e => omega); (case zh39453hz => assumption))) | (k_here; (with_reducible show wpAny _ _ (call (Value.builtin "len") [Value.str _ _]) _ _ _); refine len_str (nzlen (by assumption)) ?_) | (k_here; (with_reducible show wpAny _ _ (call (Value.ref 112) [Value.str _ _] _) _ _ _); k_dflt (refine' PC.use (need_charset_ok _ ?zh26840px _) ?zh26840k1 ?zh26840k2 ?zh26840k3 ?zh26840k4 ?zh26840k5 ?zh26840kK ?zh26840kd ?zh26840ku ?_); (case zh26840px => first | assumption | exact Or.inl rfl | exact Or.inr (Or.inl rfl) | exact Or.inr (Or.inr rfl)); (( (case zh26840k1 => k_asm); (case zh26840k2 => k_asm); (case zh26840k3 => k_asm); (case zh26840k4 => k_asm); (case zh26840k5 => k_asm); (case zh26840kK => first | exact rfl | assumption); (case zh26840kd => (first | exact room_1 hd rfl | exact room_0 hd | ktr_room)); (case zh26840ku => (first | exact unit_3 hu rfl | ktr_units)))); intro vzz ownzz hzz tkzz hRzz hKzz Fzz Nzz hUzz; clear hKzz hUzz; obtain ⟨hOzz, hVzz⟩ := hRzz; subst hOzz hVzz; (try simp only [List.nil_append] at Nzz); (try dsimp only)) | walk1 | (dsimp only; walk1))) | (leave1; walk_say "STEP leave1"; try dsimp only)))))
  rename IsRange _ _ _ _ _ _ _ _ => hR
  rename Fr _ _ _ _ => lF
  rename News _ _ _ _ => lN
  refine with_map lF ?_
  intro m₀ em lF2
  have hyl : ys.length = x.length := by rw [← hx, List.length_map, Array.length_toList]; rfl
  have hel := encT_len c ys
  k_dflt refine loop1 (src_range (n := ys.length) (by rfl) hR ?s1 ?s2) (fun i m nx => ∃ vs nn u1 u2, nx = [(_, W.listOf vs.toArray nn)] ∧ IntsAre vs (encT c (ys.take i)) ∧ m = fun z => if z = Str.ofString "code" then u1 else if z = Str.ofString "at" then u2 else m₀ z) lF2 lN ⟨[], _, _, _, rfl, .nil, map_self2⟩ ?_ ?_
  case s1 => exact small_1 (by omega)
  case s2 => rw [← hyl]; exact size_1
  · rintro i v m₁ nx h tk own hi ⟨tv, rfl⟩ _ hoff ⟨vs, nn, u1, u2, rfl, hvs, rfl⟩ F₁ N₁
    obtain ⟨y, hy0⟩ : ∃ y, ys[i]? = some y := ⟨_, List.getElem?_eq_getElem hi⟩
    have hyS := hy y (List.mem_of_getElem? hy0)
    have hc : x.cps[i]? = some y.toNat ∧ ((y.toNat : Nat) : Int) = y := cps_at hx hy0
    rw [map_over2 (by decide)] at F₁
    subst em
    have hev := encT_succ (c := c) hy0
    have hvl : vs.length ≤ 1000 := by have := encT_len c (ys.take i); rw [ints_len hvs]; rw [List.length_take] at this; omega
    simp only [List.cons_append, List.nil_append, List.map_cons, List.map_nil] at N₁ hoff
    clear lN lF lF2 hR
    obtain ⟨hc1, hc2⟩ := hc
    have hyS' : SignOk c ((y.toNat : Nat) : Int) := hc2.symm ▸ hyS
    have hy1 : 0 ≤ ((y.toNat : Nat) : Int) ∧ ((y.toNat : Nat) : Int) < 256 := hyS'.bound
    obtain ⟨hy1, hy2⟩ := hy1
    (repeat' (first | (k_unfold; (try dsimp only)) | ((fail_if_success (with_reducible show KswEnd _ _ _ _ _ _ _ _ _ _ _ _)); (fail_if_success (with_reducible show InvEndN _ _ _ _ _ _ _)); (fail_if_success (with_reducible show wpAny _ _ (exec (Stmt.While _ _ _ _) _) _ _ _)); (fail_if_success (with_reducible show wpAny _ _ (exec (Stmt.For _ _ _ _ _) _) _ _ _)); (fail_if_success (with_reducible show wpAny _ _ (exec (Stmt.Assign _ (PySem.Expr.ListComp _ _ _ _) _) _) _ _ _)); (fail_if_success (with_reducible show wpAny _ _ (eval (PySem.Expr.ListComp _ _ _ _) _) _ _ _)); (first | (k_here; (with_reducible show wpAny _ _ (call (Value.builtin _) [Value.ref _, Value.ref _]) _ _ _); k_dflt (refine' ext_own ?zh23357F ?zh23357N ?zh23357b ?zh23357U ?zh23357x ?zh23357y ?zh23357z ?_; (case zh23357F => k_asm); (case zh23357N => k_asm); (case zh23357U => k_upd); (case zh23357b => k_mem); (case zh23357x => assumption); (case zh23357y => (rename IntsAre _ (u8enc _) => hIzz; rw [ints_len hIzz]; exact Nat.le_trans (u8enc_len _).2 (by decide))); (case zh23357z => (rename IntsAre _ (u8enc _) => hIzz; rw [ints_len hIzz]; exact (u8enc_len _).1))); intro hzz Fzz Nzz; (try k_sweep)) | (k_here; (with_reducible show wpAny _ _ (call (Value.ref 124) [Value.int _ _] _) _ _ _); k_dflt (refine' PC.use (u8_octets _ (by assumption) (by assumption) _) ?zh32704k1 ?zh32704k2 ?zh32704k3 ?zh32704k4 ?zh32704k5 ?zh32704kK ?zh32704kd ?zh32704ku ?_); (( (case zh32704k1 => k_asm); (case zh32704k2 => k_asm); (case zh32704k3 => k_asm); (case zh32704k4 => k_asm); (case zh32704k5 => k_asm); (case zh32704kK => first | exact rfl | assumption); (case zh32704kd => (first | exact room_1 hd rfl | exact room_0 hd | ktr_room)); (case zh32704ku => (first | exact unit_3 hu rfl | ktr_units)))); intro vzz ownzz hzz tkzz hRzz hKzz Fzz Nzz hUzz; clear hKzz; obtain ⟨xzz, vszz, nzz, hVzz, hOzz, hizz⟩ := hRzz; subst hVzz hOzz; (try (have n1zz := hUzz _ (.head _) _ (.head _); have n2zz := Ne.symm n1zz; dsimp only at n1zz n2zz)); clear hUzz; (try simp only [List.singleton_append] at Nzz); (try dsimp only)) | (k_here; (with_reducible show wpAny _ _ (call (Value.ref 159) [Value.str _ _, Value.int _ _] _) _ _ _); k_dflt (refine' PC.use (has_sign_ok _ _ (by assumption) _ _) ?zh9499k1 ?zh9499k2 ?zh9499k3 ?zh9499k4 ?zh9499k5 ?zh9499kK ?zh9499kd ?zh9499ku ?_); (( (case zh9499k1 => k_asm); (case zh9499k2 => k_asm); (case zh9499k3 => k_asm); (case zh9499k4 => k_asm); (case zh9499k5 => k_asm); (case zh9499kK => first | exact rfl | assumption); (case zh9499kd => (first | exact room_1 hd rfl | exact room_0 hd | ktr_room)); (case zh9499ku => (first | exact unit_3 hu rfl | ktr_units)))); intro vzz ownzz hzz tkzz hRzz hKzz Fzz Nzz hUzz; clear hKzz hUzz; obtain ⟨hOzz, hVzz⟩ := hRzz; subst hOzz; unfold IsBo at hVzz; subst hVzz; (try simp only [List.nil_append] at Nzz); (try dsimp only)) | (k_here; (with_reducible show wpAny _ _ (subscriptTail _ _ (Value.str _ _) (Value.int _ _)) _ _ _); k_dflt (refine' item_sgn ?zh39453i ?zh39453c ?zh39453e ?zh39453hc ?zh39453hz ?_; (case zh39453hc => assumption); (case zh39453e => omega); (case zh39453hz => assumption))) | (k_here; (with_reducible show wpAny _ _ (call (Value.builtin "len") [Value.str _ _]) _ _ _); refine len_str (nzlen (by assumption)) ?_) | (k_here; (with_reducible show wpAny _ _ (call (Value.ref 112) [Value.str _ _] _) _ _ _); k_dflt (refine' PC.use (need_charset_ok _ ?zh26840px _) ?zh26840k1 ?zh26840k2 ?zh26840k3 ?zh26840k4 ?zh26840k5 ?zh26840kK ?zh26840kd ?zh26840ku ?_); (case zh26840px => first | assumption | exact Or.inl rfl | exact Or.inr (Or.inl rfl) | exact Or.inr (Or.inr rfl)); (( (case zh26840k1 => k_asm); (case zh26840k2 => k_asm); (case zh26840k3 => k_asm); (case zh26840k4 => k_asm); (case zh26840k5 => k_asm); (case zh26840kK => first | exact rfl | assumption); (case zh26840kd => (first | exact room_1 hd rfl | exact room_0 hd | ktr_room)); (case zh26840ku => (first | exact unit_3 hu rfl | ktr_units)))); intro vzz ownzz hzz tkzz hRzz hKzz Fzz Nzz hUzz; clear hKzz hUzz; obtain ⟨hOzz, hVzz⟩ := hRzz; subst hOzz hVzz; (try simp only [List.nil_append] at Nzz); (try dsimp only)) | walk1 | (dsimp only; walk1))) | (leave1; walk_say "STEP leave1"; try dsimp only)))
    · rename (c == _) = true => he
      have he2 : encS c y = u8enc y := if_pos (eq_of_beq he)
      rename IntsAre _ (u8enc _) => hI
      rename Fr _ _ _ _ => fE
      rename News _ _ _ _ => nE
      rw [hc2, ← he2] at hI
      refine' InvEndN.intro fE nE ⟨vs ++ _, nn + 1, _, _, rfl, (hev ▸ hvs.append hI), map_again⟩ rfl ?zyp ?zyo
      case zyp => intro p hp; rw [List.mem_singleton.mp hp]; exact .tail _ (.head _)
      case zyo => exact fun p hp => .tail _ (.tail _ hp)
    · rename (c == _) = false => he
      have he2 : encS c y = [y] := if_neg (fun e => by rw [e] at he; cases he.symm.trans (beq_self_eq_true _))
      rename Fr _ _ _ _ => fE
      rename News _ _ _ _ => nE
      simp only [List.push_toArray] at nE
      refine' InvEndN.intro fE nE ⟨vs ++ [.int ((y.toNat : Nat) : Int) _], nn + 1, _, _, rfl, ?zyi, map_again⟩ rfl ?zyp ?zyo
      case zyp => intro p hp; rw [List.mem_singleton.mp hp]; exact .head _
      case zyo => exact fun p hp => .tail _ hp
      case zyi => rw [hev, he2, hc2]; exact hvs.append (.cons _ _ .nil)
  rintro m₁ nx h tk ⟨vs, nn, u1, u2, rfl, hvs, rfl⟩ F₁ N₁
  subst em
  clear lN lF lF2 hR
  rw [List.take_length] at hvs
  have hb8 : ∀ k ∈ encT c ys, 0 ≤ k ∧ k < 256  := encT_in hy
  have hlz : (encT c ys).length ≤ 1000 := by omega
  (repeat' (first | (k_unfold; (try dsimp only)) | ((fail_if_success (with_reducible show KswEnd _ _ _ _ _ _ _ _ _ _ _ _)); (fail_if_success (with_reducible show InvEndN _ _ _ _ _ _ _)); (fail_if_success (with_reducible show wpAny _ _ (exec (Stmt.While _ _ _ _) _) _ _ _)); (fail_if_success (with_reducible show wpAny _ _ (exec (Stmt.For _ _ _ _ _) _) _ _ _)); (fail_if_success (with_reducible show wpAny _ _ (exec (Stmt.Assign _ (PySem.Expr.ListComp _ _ _ _) _) _) _ _ _)); (fail_if_success (with_reducible show wpAny _ _ (eval (PySem.Expr.ListComp _ _ _ _) _) _ _ _)); (first | (k_here; (with_reducible show wpAny _ _ (call (Value.builtin _) [Value.ref _, Value.ref _]) _ _ _); k_dflt (refine' ext_own ?zh23357F ?zh23357N ?zh23357b ?zh23357U ?zh23357x ?zh23357y ?zh23357z ?_; (case zh23357F => k_asm); (case zh23357N => k_asm); (case zh23357U => k_upd); (case zh23357b => k_mem); (case zh23357x => assumption); (case zh23357y => (rename IntsAre _ (u8enc _) => hIzz; rw [ints_len hIzz]; exact Nat.le_trans (u8enc_len _).2 (by decide))); (case zh23357z => (rename IntsAre _ (u8enc _) => hIzz; rw [ints_len hIzz]; exact (u8enc_len _).1))); intro hzz Fzz Nzz; (try k_sweep)) | (k_here; (with_reducible show wpAny _ _ (call (Value.ref 124) [Value.int _ _] _) _ _ _); k_dflt (refine' PC.use (u8_octets _ (by assumption) (by assumption) _) ?zh32704k1 ?zh32704k2 ?zh32704k3 ?zh32704k4 ?zh32704k5 ?zh32704kK ?zh32704kd ?zh32704ku ?_); (( (case zh32704k1 => k_asm); (case zh32704k2 => k_asm); (case zh32704k3 => k_asm); (case zh32704k4 => k_asm); (case zh32704k5 => k_asm); (case zh32704kK => first | exact rfl | assumption); (case zh32704kd => (first | exact room_1 hd rfl | exact room_0 hd | ktr_room)); (case zh32704ku => (first | exact unit_3 hu rfl | ktr_units)))); intro vzz ownzz hzz tkzz hRzz hKzz Fzz Nzz hUzz; clear hKzz; obtain ⟨xzz, vszz, nzz, hVzz, hOzz, hizz⟩ := hRzz; subst hVzz hOzz; (try (have n1zz := hUzz _ (.head _) _ (.head _); have n2zz := Ne.symm n1zz; dsimp only at n1zz n2zz)); clear hUzz; (try simp only [List.singleton_append] at Nzz); (try dsimp only)) | (k_here; (with_reducible show wpAny _ _ (call (Value.ref 159) [Value.str _ _, Value.int _ _] _) _ _ _); k_dflt (refine' PC.use (has_sign_ok _ _ (by assumption) _ _) ?zh9499k1 ?zh9499k2 ?zh9499k3 ?zh9499k4 ?zh9499k5 ?zh9499kK ?zh9499kd ?zh9499ku ?_); (( (case zh9499k1 => k_asm); (case zh9499k2 => k_asm); (case zh9499k3 => k_asm); (case zh9499k4 => k_asm); (case zh9499k5 => k_asm); (case zh9499kK => first | exact rfl | assumption); (case zh9499kd => (first | exact room_1 hd rfl | exact room_0 hd | ktr_room)); (case zh9499ku => (first | exact unit_3 hu rfl | ktr_units)))); intro vzz ownzz hzz tkzz hRzz hKzz Fzz Nzz hUzz; clear hKzz hUzz; obtain ⟨hOzz, hVzz⟩ := hRzz; subst hOzz; unfold IsBo at hVzz; subst hVzz; (try simp only [List.nil_append] at Nzz); (try dsimp only)) | (k_here; (with_reducible show wpAny _ _ (subscriptTail _ _ (Value.str _ _) (Value.int _ _)) _ _ _); k_dflt (refine' item_sgn ?zh39453i ?zh39453c ?zh39453e ?zh39453hc ?zh39453hz ?_; (case zh39453hc => assumption); (case zh39453e => omega); (case zh39453hz => assumption))) | (k_here; (with_reducible show wpAny _ _ (call (Value.builtin "len") [Value.str _ _]) _ _ _); refine len_str (nzlen (by assumption)) ?_) | (k_here; (with_reducible show wpAny _ _ (call (Value.ref 112) [Value.str _ _] _) _ _ _); k_dflt (refine' PC.use (need_charset_ok _ ?zh26840px _) ?zh26840k1 ?zh26840k2 ?zh26840k3 ?zh26840k4 ?zh26840k5 ?zh26840kK ?zh26840kd ?zh26840ku ?_); (case zh26840px => first | assumption | exact Or.inl rfl | exact Or.inr (Or.inl rfl) | exact Or.inr (Or.inr rfl)); (( (case zh26840k1 => k_asm); (case zh26840k2 => k_asm); (case zh26840k3 => k_asm); (case zh26840k4 => k_asm); (case zh26840k5 => k_asm); (case zh26840kK => first | exact rfl | assumption); (case zh26840kd => (first | exact room_1 hd rfl | exact room_0 hd | ktr_room)); (case zh26840ku => (first | exact unit_3 hu rfl | ktr_units)))); intro vzz ownzz hzz tkzz hRzz hKzz Fzz Nzz hUzz; clear hKzz hUzz; obtain ⟨hOzz, hVzz⟩ := hRzz; subst hOzz hVzz; (try simp only [List.nil_append] at Nzz); (try dsimp only)) | walk1 | (dsimp only; walk1))) | (leave1; walk_say "STEP leave1"; try dsimp only)))
  exact ret_im hret (by assumption) ⟨_, _, rfl, KBa.ints_make hb8⟩ (by assumption) (by assumption)
theorem parts_end {ks : List Int} {i : Nat} {a b c : List Int} {e : Int} (h : partsP ks i = some (a, b, c, e)) : ∃ n : Nat, e = (n : Int) ∧ n ≤ ks.length ∧ a.length ≤ ks.length ∧ b.length ≤ ks.length ∧ c.length ≤ ks.length ∧ (∀ k ∈ a, k ∈ ks) ∧ (∀ k ∈ b, k ∈ ks) := by
  have hl : ∀ x y, (sl ks x y).length ≤ ks.length := fun x y => by unfold sl; rw [List.length_take, List.length_drop]; omega
  have hm : ∀ x y, ∀ k ∈ sl ks x y, k ∈ ks := fun x y k hk => List.mem_of_mem_drop (List.mem_of_mem_take hk)
  unfold partsP at h
  split at h
  · cases h
  · split at h
    · cases h
    · rename_i h3
      split at h
      · cases h
      · rename_i h4
        obtain ⟨n, hn⟩ : ∃ n : Nat, mk ks i 3 = (n : Int) := ⟨(mk ks i 3).toNat, by omega⟩
        simp only [Option.some.injEq, Prod.mk.injEq] at h
        obtain ⟨rfl, rfl, rfl, rfl⟩ := h
        refine ⟨n + 2, by rw [hn]; rfl, ?_, hl _ _, hl _ _, hl _ _, hm _ _, hm _ _⟩
        have h5 : sl ks (mk ks i 3) (mk ks i 3 + 2) = [63, 61] := Classical.byContradiction fun q => h4 q
        have h6 := congrArg List.length h5
        rw [hn, show ((n : Int) + 2) = ((n + 2 : Nat) : Int) from rfl] at h6
        unfold sl at h6
        rw [clipAt_nat, clipAt_nat, List.length_take, List.length_drop] at h6
        simp only [List.length_cons, List.length_nil] at h6
        omega
noncomputable def starHead (a : List Int) : Str := ((Txt.split ⟨(a.map Int.toNat).toArray⟩ (Str.ofString "*"))[0]?).getD Str.empty
noncomputable def wayOf (b : List Int) : Str := Txt.upper ⟨(b.map Int.toNat).toArray⟩
/-- what word_at answers -/
def WordR (r : Option (List Int × Int)) (v : Value) (own : List (Addr × Obj)) : Prop := match r with
  | none => v = .none ∧ own = []
  | some (ys, e) => ∃ x t u, v = .ref x ∧ own = [(x, { cls := .type "tuple", data := .seq #[.str ⟨(ys.map Int.toNat).toArray⟩ t, .int e u] })]
/-- a word's text by its way -/
inductive RowIs (c : Str) (b p : List Int) (ys : List Int) : Prop
  | q : wayOf b = Str.ofString "Q" → (unqAll (blanks p) 0).length ≤ 1000 → TextIs c (unqAll (blanks p) 0) 0 ys → RowIs c b p ys
  | b (js : List Int) (k : Nat) : wayOf b = Str.ofString "B" → p = js.map sg ++ List.replicate k 61 → (∀ j ∈ js, 0 ≤ j ∧ j < 64) → js.length ≤ 100 → k ≤ 100 → (dec js).length ≤ 1000 → TextIs c (dec js) 0 ys → RowIs c b p ys
noncomputable def charsetOf (a : List Int) : Str := csOf (lowS (starHead a))
inductive WordIs (ks : List Int) (i : Nat) : Option (List Int × Int) → Prop
  | no : partsP ks i = none → WordIs ks i none
  | near {a b c : List Int} {n : Nat} : partsP ks i = some (a, b, c, (n : Int)) → apart ks i n = false → WordIs ks i none
  | charset {a b c : List Int} {e : Int} : partsP ks i = some (a, b, c, e) → (starHead a).cps.size ≤ 1000 → (∀ c ∈ (starHead a).cps.toList, c < 1000) → charsetOf a = Str.ofString "" → WordIs ks i none
  | way {a b c : List Int} {e : Int} : partsP ks i = some (a, b, c, e) → (starHead a).cps.size ≤ 1000 → (∀ c ∈ (starHead a).cps.toList, c < 1000) → wayOf b ≠ Str.ofString "Q" → wayOf b ≠ Str.ofString "B" → WordIs ks i none
  | word {a b c : List Int} {n : Nat} {ys : List Int} : partsP ks i = some (a, b, c, (n : Int)) → apart ks i n = true → (starHead a).cps.size ≤ 1000 → (∀ c ∈ (starHead a).cps.toList, c < 1000) →
      (charsetOf a = Str.ofString "utf-8" ∨ charsetOf a = Str.ofString "us-ascii" ∨ charsetOf a = Str.ofString "iso-8859-1") → RowIs (charsetOf a) b c ys → WordIs ks i (some (ys, (n : Int)))
theorem WordIs.fit {ks : List Int} {i : Nat} {r : Option (List Int × Int)} (h : WordIs ks i r) {a b c : List Int} {n : Nat} (hp : partsP ks i = some (a, b, c, (n : Int))) (ha : apart ks i n = true) : (starHead a).cps.size ≤ 1000 ∧ ∀ c ∈ (starHead a).cps.toList, c < 1000 := by
  cases h with
  | no h1 => rw [hp] at h1; cases h1
  | near h1 h2 =>
    rw [hp] at h1
    obtain ⟨-, -, -, h1⟩ : a = _ ∧ b = _ ∧ c = _ ∧ (n : Int) = _ := by simpa using h1
    rw [Int.ofNat_inj.mp h1, h2] at ha; cases ha
  | charset h1 h2 h3 => rw [hp] at h1; cases h1; exact ⟨h2, h3⟩
  | way h1 h2 h3 => rw [hp] at h1; cases h1; exact ⟨h2, h3⟩
  | word h1 h0 h2 h3 => rw [hp] at h1; cases h1; exact ⟨h2, h3⟩
theorem WordIs.none_of {ks : List Int} {i : Nat} {r : Option (List Int × Int)} (h : WordIs ks i r) (hp : partsP ks i = none) : r = none := by
  cases h <;> first | rfl | (rename partsP ks i = some _ => q; rw [hp] at q; cases q)
theorem WordIs.none_of_near {ks : List Int} {i : Nat} {r : Option (List Int × Int)} (h : WordIs ks i r) {a b c : List Int} {n : Nat} (hp : partsP ks i = some (a, b, c, (n : Int))) (ha : apart ks i n = false) : r = none := by
  cases h with
  | word h1 h0 =>
    rw [hp] at h1
    obtain ⟨-, -, -, h1⟩ : a = _ ∧ b = _ ∧ c = _ ∧ (n : Int) = _ := by simpa using h1
    rw [Int.ofNat_inj.mp h1, h0] at ha; cases ha
  | _ => rfl
theorem WordIs.none_of_charset {ks : List Int} {i : Nat} {r : Option (List Int × Int)} (h : WordIs ks i r) {a b c : List Int} {e : Int} (hp : partsP ks i = some (a, b, c, e)) (ha : charsetOf a = Str.ofString "") : r = none := by
  cases h with
  | word h1 h0 h2 h3 h4 =>
    rw [hp] at h1
    obtain ⟨h1, -, -, -⟩ : a = _ ∧ b = _ ∧ c = _ ∧ e = _ := by simpa using h1
    rw [← h1, ha] at h4
    rcases h4 with h4 | h4 | h4 <;> exact absurd h4 (by decide)
  | _ => rfl
theorem WordIs.none_of_way {ks : List Int} {i : Nat} {r : Option (List Int × Int)} (h : WordIs ks i r) {a b c : List Int} {e : Int} (hp : partsP ks i = some (a, b, c, e)) (ha : wayOf b ≠ Str.ofString "Q") (hb : wayOf b ≠ Str.ofString "B") : r = none := by
  cases h with
  | word h1 h0 h2 h3 h4 h5 =>
    rw [hp] at h1
    obtain ⟨-, h1, -, -⟩ : a = _ ∧ b = _ ∧ c = _ ∧ e = _ := by simpa using h1
    rw [← h1] at h5
    cases h5 with
    | q h => exact absurd h ha
    | b js k h => exact absurd h hb
  | _ => rfl
theorem WordIs.word_of {ks : List Int} {i : Nat} {r : Option (List Int × Int)} (h : WordIs ks i r) {a b c : List Int} {n : Nat} (hp : partsP ks i = some (a, b, c, (n : Int))) (ha : apart ks i n = true) (hc : charsetOf a ≠ Str.ofString "") (hw : wayOf b = Str.ofString "Q" ∨ wayOf b = Str.ofString "B") :
    ∃ ys, r = some (ys, (n : Int)) ∧ (charsetOf a = Str.ofString "utf-8" ∨ charsetOf a = Str.ofString "us-ascii" ∨ charsetOf a = Str.ofString "iso-8859-1") ∧ RowIs (charsetOf a) b c ys := by
  cases h with
  | no h1 => rw [hp] at h1; cases h1
  | near h1 h2 =>
    rw [hp] at h1
    obtain ⟨-, -, -, h1⟩ : a = _ ∧ b = _ ∧ c = _ ∧ (n : Int) = _ := by simpa using h1
    rw [Int.ofNat_inj.mp h1, h2] at ha; cases ha
  | charset h1 h2 h3 h4 => rw [hp] at h1; cases h1; exact absurd h4 hc
  | way h1 h2 h3 h4 h5 =>
    rw [hp] at h1; cases h1
    exact hw.elim (fun q => absurd q h4) fun q => absurd q h5
  | word h1 h0 h2 h3 h4 h5 => rw [hp] at h1; cases h1; exact ⟨_, rfl, h4, h5⟩
theorem ret_word {h₀ g h' : Heap} {L L' : Addr} {m m' : Str → Option Value} {s : Shared} {Q : Value → Shared → Prop} {r : Option (List Int × Int)} {tk' : Nat}
    (hret : Ret h₀ L m s Q (WordR r)) (hg : Kept s.heap g) (hR : r = none) (F : Fr h₀ L h' m) (F' : Fr g L' h' m') : Q .none { s with heap := h', toks := tk' } :=
  hret .none [] h' tk' (by rw [hR]; exact ⟨rfl, rfl⟩) (hg.fr F') F (fun _ h => nomatch h) (fun _ h => nomatch h)
set_option maxHeartbeats 1000000 in
theorem word_at_ok (b : Array UInt8) (ks : List Int) (hb : KBw.bInts b = ks) (hk : ks.length ≤ 1000) (i : Nat) (hi : i < ks.length) (t1 t2 : Tok) (r : Option (List Int × Int)) (hW : WordIs ks i r) : PC 9 232 [.bytes b t1, .int i t2] (WordR r) := by
  unfold PC
  k_fill
  intro w mean mg mb dp un gd cn cs a ccd cl outer A₀ base h₀ L m s Q E B F X T hcs hd hu hret
  (k_dflt (refine' enter ?zh1365k1 ?zh1365k2 ?zh1365k3 ?zh1365k5 ?zh1365kA ?zh1365kF ?zh1365kK ?zh1365k6 ?zh1365k7 ?zh1365k8 ?zh1365k9 ?zh1365kB ?_ ?zh1365c2 ?zh1365c3 ?zh1365c4 ?zh1365c5; (case zh1365kA => exact rfl); (case zh1365kF => exact rfl); (case zh1365kK => first | assumption | exact rfl); (case zh1365k1 => k_asm); (case zh1365k2 => k_asm); (case zh1365k3 => k_asm); (case zh1365k5 => k_asm); (case zh1365k6 => k_is); (case zh1365k7 => k_is); (case zh1365k8 => (first | exact room_1 hd rfl | exact room_0 hd | ktr_room)); (case zh1365k9 => exact BindsTo.of_eq rfl); (case zh1365c5 => decide); (case zh1365kB => exact locs rfl); (case zh1365c2 => exact rfl); (case zh1365c3 => exact rfl); (case zh1365c4 => exact rfl); k_whole; intro gzz Lzz hzz hgzz FGzz Fzz Nzz Bzz Xzz Tzz; (try dsimp only); (try k_lift Bzz); (try (show wpAny _ _ _ _ _ _)); (try k_fold)))
  (repeat' (first | (k_unfold; (try dsimp only)) | ((fail_if_success (with_reducible show KswEnd _ _ _ _ _ _ _ _ _ _ _ _)); (fail_if_success (with_reducible show InvEndN _ _ _ _ _ _ _)); (fail_if_success (with_reducible show wpAny _ _ (exec (Stmt.While _ _ _ _) _) _ _ _)); (fail_if_success (with_reducible show wpAny _ _ (exec (Stmt.For _ _ _ _ _) _) _ _ _)); (fail_if_success (with_reducible show wpAny _ _ (exec (Stmt.Assign _ (PySem.Expr.ListComp _ _ _ _) _) _) _ _ _)); (fail_if_success (with_reducible show wpAny _ _ (eval (PySem.Expr.ListComp _ _ _ _) _) _ _ _)); (first | (k_here; (try dsimp only); (with_reducible show wpAny _ _ (call (Value.builtin "str.upper") [Value.str _ _]) _ _ _); refine SCL.upper (Nat.le_trans (by assumption : Str.length _ ≤ 1000) (by decide)) ?_; intro _) | (k_here; (with_reducible show wpAny _ _ (call (Value.ref 152) [Value.str _ _, Value.bytes _ _] _) _ _ _); k_dflt (refine' PC.use (text_in_ok _ (by assumption) _ _ (by assumption) (by assumption) _ (by assumption) _ _) ?zh31898k1 ?zh31898k2 ?zh31898k3 ?zh31898k4 ?zh31898k5 ?zh31898kK ?zh31898kd ?zh31898ku ?_); (( (case zh31898k1 => k_asm); (case zh31898k2 => k_asm); (case zh31898k3 => k_asm); (case zh31898k4 => k_asm); (case zh31898k5 => k_asm); (case zh31898kK => first | exact rfl | assumption); (case zh31898kd => (first | exact room_1 hd rfl | exact room_0 hd | ktr_room)); (case zh31898ku => (first | exact unit_3 hu rfl | ktr_units)))); intro vzz ownzz hzz tkzz hRzz hKzz Fzz Nzz hUzz; clear hKzz hUzz; obtain ⟨hOzz, tVzz, hVzz⟩ := hRzz; subst hOzz hVzz; (try simp only [List.nil_append] at Nzz); (try dsimp only)) | (k_here; (with_reducible show wpAny _ _ (call (Value.ref 38) [Value.bytes _ _] _) _ _ _); k_dflt (refine' PC.use (decoded_ok _ _ _ (by assumption) (by assumption) (by assumption) (by assumption) _) ?zh12696k1 ?zh12696k2 ?zh12696k3 ?zh12696k4 ?zh12696k5 ?zh12696kK ?zh12696kd ?zh12696ku ?_); (( (case zh12696k1 => k_asm); (case zh12696k2 => k_asm); (case zh12696k3 => k_asm); (case zh12696k4 => k_asm); (case zh12696k5 => k_asm); (case zh12696kK => first | exact rfl | assumption); (case zh12696kd => (first | exact room_1 hd rfl | exact room_0 hd | ktr_room)); (case zh12696ku => (first | exact unit_3 hu rfl | ktr_units)))); intro vzz ownzz hzz tkzz hRzz hKzz Fzz Nzz hUzz; clear hKzz hUzz; obtain ⟨hOzz, bVzz, tVzz, hVzz, hBzz⟩ := hRzz; subst hOzz hVzz; (try simp only [List.nil_append] at Nzz); (try dsimp only)) | (k_here; (with_reducible show wpAny _ _ (call (Value.ref 192) [Value.bytes _ _] _) _ _ _); k_dflt (refine' PC.use (word_q_decoded_ok _ _ ?zh32541pb ?zh32541pk _) ?zh32541k1 ?zh32541k2 ?zh32541k3 ?zh32541k4 ?zh32541k5 ?zh32541kK ?zh32541kd ?zh32541ku ?_); (case zh32541pb => first | assumption | exact KBa.ints_make (by assumption)); (case zh32541pk => first | assumption | omega); (( (case zh32541k1 => k_asm); (case zh32541k2 => k_asm); (case zh32541k3 => k_asm); (case zh32541k4 => k_asm); (case zh32541k5 => k_asm); (case zh32541kK => first | exact rfl | assumption); (case zh32541kd => (first | exact room_1 hd rfl | exact room_0 hd | ktr_room)); (case zh32541ku => (first | exact unit_3 hu rfl | ktr_units)))); intro vzz ownzz hzz tkzz hRzz hKzz Fzz Nzz hUzz; clear hKzz hUzz; obtain ⟨hOzz, bVzz, tVzz, hVzz, hBzz⟩ := hRzz; subst hOzz hVzz; (try simp only [List.nil_append] at Nzz); (try dsimp only)) | (k_here; (with_reducible show wpAny _ _ (call (Value.ref 105) [Value.str _ _] _) _ _ _); k_dflt (refine' PC.use (charset_name_ok _ (by assumption) (by assumption) _) ?zh6551k1 ?zh6551k2 ?zh6551k3 ?zh6551k4 ?zh6551k5 ?zh6551kK ?zh6551kd ?zh6551ku ?_); (( (case zh6551k1 => k_asm); (case zh6551k2 => k_asm); (case zh6551k3 => k_asm); (case zh6551k4 => k_asm); (case zh6551k5 => k_asm); (case zh6551kK => first | exact rfl | assumption); (case zh6551kd => (first | exact room_1 hd rfl | exact room_0 hd | ktr_room)); (case zh6551ku => (first | exact unit_3 hu rfl | ktr_units)))); intro vzz ownzz hzz tkzz hRzz hKzz Fzz Nzz hUzz; clear hKzz hUzz; obtain ⟨hOzz, tVzz, hVzz⟩ := hRzz; subst hOzz hVzz; (try simp only [List.nil_append] at Nzz); (try dsimp only)) | (k_here; (with_reducible show wpAny _ _ (call (Value.ref 225) [Value.bytes _ _] _) _ _ _); k_dflt (refine' PC.use (plain_text_ok _ _ ?zh60499pb ?zh60499pk _) ?zh60499k1 ?zh60499k2 ?zh60499k3 ?zh60499k4 ?zh60499k5 ?zh60499kK ?zh60499kd ?zh60499ku ?_); (case zh60499pb => first | assumption | exact KBa.ints_make (by assumption)); (case zh60499pk => first | assumption | omega); (( (case zh60499k1 => k_asm); (case zh60499k2 => k_asm); (case zh60499k3 => k_asm); (case zh60499k4 => k_asm); (case zh60499k5 => k_asm); (case zh60499kK => first | exact rfl | assumption); (case zh60499kd => (first | exact room_1 hd rfl | exact room_0 hd | ktr_room)); (case zh60499ku => (first | exact unit_3 hu rfl | ktr_units)))); intro vzz ownzz hzz tkzz hRzz hKzz Fzz Nzz hUzz; clear hKzz hUzz; obtain ⟨hOzz, tVzz, hVzz⟩ := hRzz; subst hOzz hVzz; (try simp only [List.nil_append] at Nzz); (try dsimp only)) | (k_here; (with_reducible show wpAny _ _ (call (Value.ref 213) [Value.bytes _ _, Value.int _ _] _) _ _ _); k_dflt (refine' PC.use (word_parts_ok _ _ ?zh8394pb ?zh8394pk _ ?zh8394pi _ _) ?zh8394k1 ?zh8394k2 ?zh8394k3 ?zh8394k4 ?zh8394k5 ?zh8394kK ?zh8394kd ?zh8394ku ?_); (case zh8394pb => first | assumption | exact KBa.ints_make (by assumption)); (case zh8394pk => first | assumption | omega); (case zh8394pi => first | assumption | omega); (( (case zh8394k1 => k_asm); (case zh8394k2 => k_asm); (case zh8394k3 => k_asm); (case zh8394k4 => k_asm); (case zh8394k5 => k_asm); (case zh8394kK => first | exact rfl | assumption); (case zh8394kd => (first | exact room_1 hd rfl | exact room_0 hd | ktr_room)); (case zh8394ku => (first | exact unit_3 hu rfl | ktr_units)))); intro vzz ownzz hzz tkzz hRzz hKzz Fzz Nzz hUzz; clear hKzz; skip; (try dsimp only)) | (k_here; (with_reducible show wpAny _ _ (call (Value.ref 220) [Value.bytes _ _, Value.int _ _, Value.int _ _] _) _ _ _); k_dflt (refine' PC.use (is_apart_ok _ _ ?zh1356pb ?zh1356pk _ _ ?zh1356pi ?zh1356pj _ _ _) ?zh1356k1 ?zh1356k2 ?zh1356k3 ?zh1356k4 ?zh1356k5 ?zh1356kK ?zh1356kd ?zh1356ku ?_); (case zh1356pb => first | assumption | exact KBa.ints_make (by assumption)); (case zh1356pk => first | assumption | omega); (case zh1356pi => first | assumption | omega); (case zh1356pj => first | assumption | omega); (( (case zh1356k1 => k_asm); (case zh1356k2 => k_asm); (case zh1356k3 => k_asm); (case zh1356k4 => k_asm); (case zh1356k5 => k_asm); (case zh1356kK => first | exact rfl | assumption); (case zh1356kd => (first | exact room_1 hd rfl | exact room_0 hd | ktr_room)); (case zh1356ku => (first | exact unit_3 hu rfl | ktr_units)))); intro vzz ownzz hzz tkzz hRzz hKzz Fzz Nzz hUzz; clear hKzz hUzz; obtain ⟨hOzz, hVzz⟩ := hRzz; subst hOzz; unfold IsBo at hVzz; subst hVzz; (try simp only [List.nil_append] at Nzz); (try dsimp only)) | (k_here; (with_reducible show wpAny _ _ (compareOp CmpOp.NotIn (Value.str _ _) (Value.ref _)) _ _ _); k_dflt (refine' notin_topStrs ?zh29371f ?zh29371x ?zh29371l ?zh29371i ?_; (case zh29371f => k_asm); (case zh29371x => k_asm); (case zh29371l => k_is); (case zh29371i => (repeat' (first | exact StrsAre.nil | refine' StrsAre.cons _ _ ?_))); k_whole)) | walk1 | (dsimp only; walk1))) | (leave1; walk_say "STEP leave1"; try dsimp only)))
  rename PartsR _ _ _ => hR
  rename ∀ p ∈ _, ∀ q ∈ _, _ => hU
  clear hU
  cases hP : partsP ks i with
  | none =>
    rw [hP] at hR
    obtain ⟨rfl, rfl⟩ := hR
    (repeat' (first | (k_unfold; (try dsimp only)) | ((fail_if_success (with_reducible show KswEnd _ _ _ _ _ _ _ _ _ _ _ _)); (fail_if_success (with_reducible show InvEndN _ _ _ _ _ _ _)); (fail_if_success (with_reducible show wpAny _ _ (exec (Stmt.While _ _ _ _) _) _ _ _)); (fail_if_success (with_reducible show wpAny _ _ (exec (Stmt.For _ _ _ _ _) _) _ _ _)); (fail_if_success (with_reducible show wpAny _ _ (exec (Stmt.Assign _ (PySem.Expr.ListComp _ _ _ _) _) _) _ _ _)); (fail_if_success (with_reducible show wpAny _ _ (eval (PySem.Expr.ListComp _ _ _ _) _) _ _ _)); (first | (k_here; (try dsimp only); (with_reducible show wpAny _ _ (call (Value.builtin "str.upper") [Value.str _ _]) _ _ _); refine SCL.upper (Nat.le_trans (by assumption : Str.length _ ≤ 1000) (by decide)) ?_; intro _) | (k_here; (with_reducible show wpAny _ _ (call (Value.ref 152) [Value.str _ _, Value.bytes _ _] _) _ _ _); k_dflt (refine' PC.use (text_in_ok _ (by assumption) _ _ (by assumption) (by assumption) _ (by assumption) _ _) ?zh31898k1 ?zh31898k2 ?zh31898k3 ?zh31898k4 ?zh31898k5 ?zh31898kK ?zh31898kd ?zh31898ku ?_); (( (case zh31898k1 => k_asm); (case zh31898k2 => k_asm); (case zh31898k3 => k_asm); (case zh31898k4 => k_asm); (case zh31898k5 => k_asm); (case zh31898kK => first | exact rfl | assumption); (case zh31898kd => (first | exact room_1 hd rfl | exact room_0 hd | ktr_room)); (case zh31898ku => (first | exact unit_3 hu rfl | ktr_units)))); intro vzz ownzz hzz tkzz hRzz hKzz Fzz Nzz hUzz; clear hKzz hUzz; obtain ⟨hOzz, tVzz, hVzz⟩ := hRzz; subst hOzz hVzz; (try simp only [List.nil_append] at Nzz); (try dsimp only)) | (k_here; (with_reducible show wpAny _ _ (call (Value.ref 38) [Value.bytes _ _] _) _ _ _); k_dflt (refine' PC.use (decoded_ok _ _ _ (by assumption) (by assumption) (by assumption) (by assumption) _) ?zh12696k1 ?zh12696k2 ?zh12696k3 ?zh12696k4 ?zh12696k5 ?zh12696kK ?zh12696kd ?zh12696ku ?_); (( (case zh12696k1 => k_asm); (case zh12696k2 => k_asm); (case zh12696k3 => k_asm); (case zh12696k4 => k_asm); (case zh12696k5 => k_asm); (case zh12696kK => first | exact rfl | assumption); (case zh12696kd => (first | exact room_1 hd rfl | exact room_0 hd | ktr_room)); (case zh12696ku => (first | exact unit_3 hu rfl | ktr_units)))); intro vzz ownzz hzz tkzz hRzz hKzz Fzz Nzz hUzz; clear hKzz hUzz; obtain ⟨hOzz, bVzz, tVzz, hVzz, hBzz⟩ := hRzz; subst hOzz hVzz; (try simp only [List.nil_append] at Nzz); (try dsimp only)) | (k_here; (with_reducible show wpAny _ _ (call (Value.ref 192) [Value.bytes _ _] _) _ _ _); k_dflt (refine' PC.use (word_q_decoded_ok _ _ ?zh32541pb ?zh32541pk _) ?zh32541k1 ?zh32541k2 ?zh32541k3 ?zh32541k4 ?zh32541k5 ?zh32541kK ?zh32541kd ?zh32541ku ?_); (case zh32541pb => first | assumption | exact KBa.ints_make (by assumption)); (case zh32541pk => first | assumption | omega); (( (case zh32541k1 => k_asm); (case zh32541k2 => k_asm); (case zh32541k3 => k_asm); (case zh32541k4 => k_asm); (case zh32541k5 => k_asm); (case zh32541kK => first | exact rfl | assumption); (case zh32541kd => (first | exact room_1 hd rfl | exact room_0 hd | ktr_room)); (case zh32541ku => (first | exact unit_3 hu rfl | ktr_units)))); intro vzz ownzz hzz tkzz hRzz hKzz Fzz Nzz hUzz; clear hKzz hUzz; obtain ⟨hOzz, bVzz, tVzz, hVzz, hBzz⟩ := hRzz; subst hOzz hVzz; (try simp only [List.nil_append] at Nzz); (try dsimp only)) | (k_here; (with_reducible show wpAny _ _ (call (Value.ref 105) [Value.str _ _] _) _ _ _); k_dflt (refine' PC.use (charset_name_ok _ (by assumption) (by assumption) _) ?zh6551k1 ?zh6551k2 ?zh6551k3 ?zh6551k4 ?zh6551k5 ?zh6551kK ?zh6551kd ?zh6551ku ?_); (( (case zh6551k1 => k_asm); (case zh6551k2 => k_asm); (case zh6551k3 => k_asm); (case zh6551k4 => k_asm); (case zh6551k5 => k_asm); (case zh6551kK => first | exact rfl | assumption); (case zh6551kd => (first | exact room_1 hd rfl | exact room_0 hd | ktr_room)); (case zh6551ku => (first | exact unit_3 hu rfl | ktr_units)))); intro vzz ownzz hzz tkzz hRzz hKzz Fzz Nzz hUzz; clear hKzz hUzz; obtain ⟨hOzz, tVzz, hVzz⟩ := hRzz; subst hOzz hVzz; (try simp only [List.nil_append] at Nzz); (try dsimp only)) | (k_here; (with_reducible show wpAny _ _ (call (Value.ref 225) [Value.bytes _ _] _) _ _ _); k_dflt (refine' PC.use (plain_text_ok _ _ ?zh60499pb ?zh60499pk _) ?zh60499k1 ?zh60499k2 ?zh60499k3 ?zh60499k4 ?zh60499k5 ?zh60499kK ?zh60499kd ?zh60499ku ?_); (case zh60499pb => first | assumption | exact KBa.ints_make (by assumption)); (case zh60499pk => first | assumption | omega); (( (case zh60499k1 => k_asm); (case zh60499k2 => k_asm); (case zh60499k3 => k_asm); (case zh60499k4 => k_asm); (case zh60499k5 => k_asm); (case zh60499kK => first | exact rfl | assumption); (case zh60499kd => (first | exact room_1 hd rfl | exact room_0 hd | ktr_room)); (case zh60499ku => (first | exact unit_3 hu rfl | ktr_units)))); intro vzz ownzz hzz tkzz hRzz hKzz Fzz Nzz hUzz; clear hKzz hUzz; obtain ⟨hOzz, tVzz, hVzz⟩ := hRzz; subst hOzz hVzz; (try simp only [List.nil_append] at Nzz); (try dsimp only)) | (k_here; (with_reducible show wpAny _ _ (call (Value.ref 213) [Value.bytes _ _, Value.int _ _] _) _ _ _); k_dflt (refine' PC.use (word_parts_ok _ _ ?zh8394pb ?zh8394pk _ ?zh8394pi _ _) ?zh8394k1 ?zh8394k2 ?zh8394k3 ?zh8394k4 ?zh8394k5 ?zh8394kK ?zh8394kd ?zh8394ku ?_); (case zh8394pb => first | assumption | exact KBa.ints_make (by assumption)); (case zh8394pk => first | assumption | omega); (case zh8394pi => first | assumption | omega); (( (case zh8394k1 => k_asm); (case zh8394k2 => k_asm); (case zh8394k3 => k_asm); (case zh8394k4 => k_asm); (case zh8394k5 => k_asm); (case zh8394kK => first | exact rfl | assumption); (case zh8394kd => (first | exact room_1 hd rfl | exact room_0 hd | ktr_room)); (case zh8394ku => (first | exact unit_3 hu rfl | ktr_units)))); intro vzz ownzz hzz tkzz hRzz hKzz Fzz Nzz hUzz; clear hKzz; skip; (try dsimp only)) | (k_here; (with_reducible show wpAny _ _ (call (Value.ref 220) [Value.bytes _ _, Value.int _ _, Value.int _ _] _) _ _ _); k_dflt (refine' PC.use (is_apart_ok _ _ ?zh1356pb ?zh1356pk _ _ ?zh1356pi ?zh1356pj _ _ _) ?zh1356k1 ?zh1356k2 ?zh1356k3 ?zh1356k4 ?zh1356k5 ?zh1356kK ?zh1356kd ?zh1356ku ?_); (case zh1356pb => first | assumption | exact KBa.ints_make (by assumption)); (case zh1356pk => first | assumption | omega); (case zh1356pi => first | assumption | omega); (case zh1356pj => first | assumption | omega); (( (case zh1356k1 => k_asm); (case zh1356k2 => k_asm); (case zh1356k3 => k_asm); (case zh1356k4 => k_asm); (case zh1356k5 => k_asm); (case zh1356kK => first | exact rfl | assumption); (case zh1356kd => (first | exact room_1 hd rfl | exact room_0 hd | ktr_room)); (case zh1356ku => (first | exact unit_3 hu rfl | ktr_units)))); intro vzz ownzz hzz tkzz hRzz hKzz Fzz Nzz hUzz; clear hKzz hUzz; obtain ⟨hOzz, hVzz⟩ := hRzz; subst hOzz; unfold IsBo at hVzz; subst hVzz; (try simp only [List.nil_append] at Nzz); (try dsimp only)) | (k_here; (with_reducible show wpAny _ _ (compareOp CmpOp.NotIn (Value.str _ _) (Value.ref _)) _ _ _); k_dflt (refine' notin_topStrs ?zh29371f ?zh29371x ?zh29371l ?zh29371i ?_; (case zh29371f => k_asm); (case zh29371x => k_asm); (case zh29371l => k_is); (case zh29371i => (repeat' (first | exact StrsAre.nil | refine' StrsAre.cons _ _ ?_))); k_whole)) | walk1 | (dsimp only; walk1))) | (leave1; walk_say "STEP leave1"; try dsimp only)))
    exact ret_word hret (by assumption) (hW.none_of hP) (by assumption) (by assumption)
  | some y =>
    obtain ⟨pa, pb, pc, e⟩ := y
    rw [hP] at hR
    obtain ⟨x, vp, vq, vr, te, rfl, rfl, ⟨ba, ta, rfl, hba⟩, ⟨bb, tb, rfl, hbb⟩, ⟨bc, tc, rfl, hbc⟩⟩ := hR
    obtain ⟨n, rfl, hn, hla, hlb, hlc, hma, hmb⟩ := parts_end hP
    rename News _ _ _ _ => lN
    simp only [List.singleton_append] at lN
    clear hma hmb
    (repeat' (first | (k_unfold; (try dsimp only)) | ((fail_if_success (with_reducible show KswEnd _ _ _ _ _ _ _ _ _ _ _ _)); (fail_if_success (with_reducible show InvEndN _ _ _ _ _ _ _)); (fail_if_success (with_reducible show wpAny _ _ (exec (Stmt.While _ _ _ _) _) _ _ _)); (fail_if_success (with_reducible show wpAny _ _ (exec (Stmt.For _ _ _ _ _) _) _ _ _)); (fail_if_success (with_reducible show wpAny _ _ (exec (Stmt.Assign _ (PySem.Expr.ListComp _ _ _ _) _) _) _ _ _)); (fail_if_success (with_reducible show wpAny _ _ (eval (PySem.Expr.ListComp _ _ _ _) _) _ _ _)); (first | (k_here; (try dsimp only); (with_reducible show wpAny _ _ (call (Value.builtin "str.upper") [Value.str _ _]) _ _ _); refine SCL.upper (Nat.le_trans (by assumption : Str.length _ ≤ 1000) (by decide)) ?_; intro _) | (k_here; (with_reducible show wpAny _ _ (call (Value.ref 152) [Value.str _ _, Value.bytes _ _] _) _ _ _); k_dflt (refine' PC.use (text_in_ok _ (by assumption) _ _ (by assumption) (by assumption) _ (by assumption) _ _) ?zh31898k1 ?zh31898k2 ?zh31898k3 ?zh31898k4 ?zh31898k5 ?zh31898kK ?zh31898kd ?zh31898ku ?_); (( (case zh31898k1 => k_asm); (case zh31898k2 => k_asm); (case zh31898k3 => k_asm); (case zh31898k4 => k_asm); (case zh31898k5 => k_asm); (case zh31898kK => first | exact rfl | assumption); (case zh31898kd => (first | exact room_1 hd rfl | exact room_0 hd | ktr_room)); (case zh31898ku => (first | exact unit_3 hu rfl | ktr_units)))); intro vzz ownzz hzz tkzz hRzz hKzz Fzz Nzz hUzz; clear hKzz hUzz; obtain ⟨hOzz, tVzz, hVzz⟩ := hRzz; subst hOzz hVzz; (try simp only [List.nil_append] at Nzz); (try dsimp only)) | (k_here; (with_reducible show wpAny _ _ (call (Value.ref 38) [Value.bytes _ _] _) _ _ _); k_dflt (refine' PC.use (decoded_ok _ _ _ (by assumption) (by assumption) (by assumption) (by assumption) _) ?zh12696k1 ?zh12696k2 ?zh12696k3 ?zh12696k4 ?zh12696k5 ?zh12696kK ?zh12696kd ?zh12696ku ?_); (( (case zh12696k1 => k_asm); (case zh12696k2 => k_asm); (case zh12696k3 => k_asm); (case zh12696k4 => k_asm); (case zh12696k5 => k_asm); (case zh12696kK => first | exact rfl | assumption); (case zh12696kd => (first | exact room_1 hd rfl | exact room_0 hd | ktr_room)); (case zh12696ku => (first | exact unit_3 hu rfl | ktr_units)))); intro vzz ownzz hzz tkzz hRzz hKzz Fzz Nzz hUzz; clear hKzz hUzz; obtain ⟨hOzz, bVzz, tVzz, hVzz, hBzz⟩ := hRzz; subst hOzz hVzz; (try simp only [List.nil_append] at Nzz); (try dsimp only)) | (k_here; (with_reducible show wpAny _ _ (call (Value.ref 192) [Value.bytes _ _] _) _ _ _); k_dflt (refine' PC.use (word_q_decoded_ok _ _ ?zh32541pb ?zh32541pk _) ?zh32541k1 ?zh32541k2 ?zh32541k3 ?zh32541k4 ?zh32541k5 ?zh32541kK ?zh32541kd ?zh32541ku ?_); (case zh32541pb => first | assumption | exact KBa.ints_make (by assumption)); (case zh32541pk => first | assumption | omega); (( (case zh32541k1 => k_asm); (case zh32541k2 => k_asm); (case zh32541k3 => k_asm); (case zh32541k4 => k_asm); (case zh32541k5 => k_asm); (case zh32541kK => first | exact rfl | assumption); (case zh32541kd => (first | exact room_1 hd rfl | exact room_0 hd | ktr_room)); (case zh32541ku => (first | exact unit_3 hu rfl | ktr_units)))); intro vzz ownzz hzz tkzz hRzz hKzz Fzz Nzz hUzz; clear hKzz hUzz; obtain ⟨hOzz, bVzz, tVzz, hVzz, hBzz⟩ := hRzz; subst hOzz hVzz; (try simp only [List.nil_append] at Nzz); (try dsimp only)) | (k_here; (with_reducible show wpAny _ _ (call (Value.ref 105) [Value.str _ _] _) _ _ _); k_dflt (refine' PC.use (charset_name_ok _ (by assumption) (by assumption) _) ?zh6551k1 ?zh6551k2 ?zh6551k3 ?zh6551k4 ?zh6551k5 ?zh6551kK ?zh6551kd ?zh6551ku ?_); (( (case zh6551k1 => k_asm); (case zh6551k2 => k_asm); (case zh6551k3 => k_asm); (case zh6551k4 => k_asm); (case zh6551k5 => k_asm); (case zh6551kK => first | exact rfl | assumption); (case zh6551kd => (first | exact room_1 hd rfl | exact room_0 hd | ktr_room)); (case zh6551ku => (first | exact unit_3 hu rfl | ktr_units)))); intro vzz ownzz hzz tkzz hRzz hKzz Fzz Nzz hUzz; clear hKzz hUzz; obtain ⟨hOzz, tVzz, hVzz⟩ := hRzz; subst hOzz hVzz; (try simp only [List.nil_append] at Nzz); (try dsimp only)) | (k_here; (with_reducible show wpAny _ _ (call (Value.ref 225) [Value.bytes _ _] _) _ _ _); k_dflt (refine' PC.use (plain_text_ok _ _ ?zh60499pb ?zh60499pk _) ?zh60499k1 ?zh60499k2 ?zh60499k3 ?zh60499k4 ?zh60499k5 ?zh60499kK ?zh60499kd ?zh60499ku ?_); (case zh60499pb => first | assumption | exact KBa.ints_make (by assumption)); (case zh60499pk => first | assumption | omega); (( (case zh60499k1 => k_asm); (case zh60499k2 => k_asm); (case zh60499k3 => k_asm); (case zh60499k4 => k_asm); (case zh60499k5 => k_asm); (case zh60499kK => first | exact rfl | assumption); (case zh60499kd => (first | exact room_1 hd rfl | exact room_0 hd | ktr_room)); (case zh60499ku => (first | exact unit_3 hu rfl | ktr_units)))); intro vzz ownzz hzz tkzz hRzz hKzz Fzz Nzz hUzz; clear hKzz hUzz; obtain ⟨hOzz, tVzz, hVzz⟩ := hRzz; subst hOzz hVzz; (try simp only [List.nil_append] at Nzz); (try dsimp only)) | (k_here; (with_reducible show wpAny _ _ (call (Value.ref 213) [Value.bytes _ _, Value.int _ _] _) _ _ _); k_dflt (refine' PC.use (word_parts_ok _ _ ?zh8394pb ?zh8394pk _ ?zh8394pi _ _) ?zh8394k1 ?zh8394k2 ?zh8394k3 ?zh8394k4 ?zh8394k5 ?zh8394kK ?zh8394kd ?zh8394ku ?_); (case zh8394pb => first | assumption | exact KBa.ints_make (by assumption)); (case zh8394pk => first | assumption | omega); (case zh8394pi => first | assumption | omega); (( (case zh8394k1 => k_asm); (case zh8394k2 => k_asm); (case zh8394k3 => k_asm); (case zh8394k4 => k_asm); (case zh8394k5 => k_asm); (case zh8394kK => first | exact rfl | assumption); (case zh8394kd => (first | exact room_1 hd rfl | exact room_0 hd | ktr_room)); (case zh8394ku => (first | exact unit_3 hu rfl | ktr_units)))); intro vzz ownzz hzz tkzz hRzz hKzz Fzz Nzz hUzz; clear hKzz; skip; (try dsimp only)) | (k_here; (with_reducible show wpAny _ _ (call (Value.ref 220) [Value.bytes _ _, Value.int _ _, Value.int _ _] _) _ _ _); k_dflt (refine' PC.use (is_apart_ok _ _ ?zh1356pb ?zh1356pk _ _ ?zh1356pi ?zh1356pj _ _ _) ?zh1356k1 ?zh1356k2 ?zh1356k3 ?zh1356k4 ?zh1356k5 ?zh1356kK ?zh1356kd ?zh1356ku ?_); (case zh1356pb => first | assumption | exact KBa.ints_make (by assumption)); (case zh1356pk => first | assumption | omega); (case zh1356pi => first | assumption | omega); (case zh1356pj => first | assumption | omega); (( (case zh1356k1 => k_asm); (case zh1356k2 => k_asm); (case zh1356k3 => k_asm); (case zh1356k4 => k_asm); (case zh1356k5 => k_asm); (case zh1356kK => first | exact rfl | assumption); (case zh1356kd => (first | exact room_1 hd rfl | exact room_0 hd | ktr_room)); (case zh1356ku => (first | exact unit_3 hu rfl | ktr_units)))); intro vzz ownzz hzz tkzz hRzz hKzz Fzz Nzz hUzz; clear hKzz hUzz; obtain ⟨hOzz, hVzz⟩ := hRzz; subst hOzz; unfold IsBo at hVzz; subst hVzz; (try simp only [List.nil_append] at Nzz); (try dsimp only)) | (k_here; (with_reducible show wpAny _ _ (compareOp CmpOp.NotIn (Value.str _ _) (Value.ref _)) _ _ _); k_dflt (refine' notin_topStrs ?zh29371f ?zh29371x ?zh29371l ?zh29371i ?_; (case zh29371f => k_asm); (case zh29371x => k_asm); (case zh29371l => k_is); (case zh29371i => (repeat' (first | exact StrsAre.nil | refine' StrsAre.cons _ _ ?_))); k_whole)) | walk1 | (dsimp only; walk1))) | (leave1; walk_say "STEP leave1"; try dsimp only)))
    · rename List.map _ _ = Txt.split _ _ => hsp
      rename _ = some _ => hy
      rename apart ks i n = true => hap
      have hz := hW.fit hP hap
      have hst : starHead pa = _ := (congrArg (fun l : List Str => (l[0]?).getD Str.empty) hsp.symm).trans (by rw [show (0 : Nat) = Int.toNat 0 from rfl, hy])
      rw [Option.getD_some] at hst
      rw [hst] at hz
      obtain ⟨hz1, hz2⟩ := hz
      have hul : Str.length ⟨(pb.map Int.toNat).toArray⟩ ≤ 1000 := by show (pb.map Int.toNat).toArray.size ≤ 1000; rw [List.size_toArray, List.length_map]; omega
      clear hy hsp
      (repeat' (first | (k_unfold; (try dsimp only)) | ((fail_if_success (with_reducible show KswEnd _ _ _ _ _ _ _ _ _ _ _ _)); (fail_if_success (with_reducible show InvEndN _ _ _ _ _ _ _)); (fail_if_success (with_reducible show wpAny _ _ (exec (Stmt.While _ _ _ _) _) _ _ _)); (fail_if_success (with_reducible show wpAny _ _ (exec (Stmt.For _ _ _ _ _) _) _ _ _)); (fail_if_success (with_reducible show wpAny _ _ (exec (Stmt.Assign _ (PySem.Expr.ListComp _ _ _ _) _) _) _ _ _)); (fail_if_success (with_reducible show wpAny _ _ (eval (PySem.Expr.ListComp _ _ _ _) _) _ _ _)); (first | (k_here; (try dsimp only); (with_reducible show wpAny _ _ (call (Value.builtin "str.upper") [Value.str _ _]) _ _ _); refine SCL.upper (Nat.le_trans (by assumption : Str.length _ ≤ 1000) (by decide)) ?_; intro _) | (k_here; (with_reducible show wpAny _ _ (call (Value.ref 152) [Value.str _ _, Value.bytes _ _] _) _ _ _); k_dflt (refine' PC.use (text_in_ok _ (by assumption) _ _ (by assumption) (by assumption) _ (by assumption) _ _) ?zh31898k1 ?zh31898k2 ?zh31898k3 ?zh31898k4 ?zh31898k5 ?zh31898kK ?zh31898kd ?zh31898ku ?_); (( (case zh31898k1 => k_asm); (case zh31898k2 => k_asm); (case zh31898k3 => k_asm); (case zh31898k4 => k_asm); (case zh31898k5 => k_asm); (case zh31898kK => first | exact rfl | assumption); (case zh31898kd => (first | exact room_1 hd rfl | exact room_0 hd | ktr_room)); (case zh31898ku => (first | exact unit_3 hu rfl | ktr_units)))); intro vzz ownzz hzz tkzz hRzz hKzz Fzz Nzz hUzz; clear hKzz hUzz; obtain ⟨hOzz, tVzz, hVzz⟩ := hRzz; subst hOzz hVzz; (try simp only [List.nil_append] at Nzz); (try dsimp only)) | (k_here; (with_reducible show wpAny _ _ (call (Value.ref 38) [Value.bytes _ _] _) _ _ _); k_dflt (refine' PC.use (decoded_ok _ _ _ (by assumption) (by assumption) (by assumption) (by assumption) _) ?zh12696k1 ?zh12696k2 ?zh12696k3 ?zh12696k4 ?zh12696k5 ?zh12696kK ?zh12696kd ?zh12696ku ?_); (( (case zh12696k1 => k_asm); (case zh12696k2 => k_asm); (case zh12696k3 => k_asm); (case zh12696k4 => k_asm); (case zh12696k5 => k_asm); (case zh12696kK => first | exact rfl | assumption); (case zh12696kd => (first | exact room_1 hd rfl | exact room_0 hd | ktr_room)); (case zh12696ku => (first | exact unit_3 hu rfl | ktr_units)))); intro vzz ownzz hzz tkzz hRzz hKzz Fzz Nzz hUzz; clear hKzz hUzz; obtain ⟨hOzz, bVzz, tVzz, hVzz, hBzz⟩ := hRzz; subst hOzz hVzz; (try simp only [List.nil_append] at Nzz); (try dsimp only)) | (k_here; (with_reducible show wpAny _ _ (call (Value.ref 192) [Value.bytes _ _] _) _ _ _); k_dflt (refine' PC.use (word_q_decoded_ok _ _ ?zh32541pb ?zh32541pk _) ?zh32541k1 ?zh32541k2 ?zh32541k3 ?zh32541k4 ?zh32541k5 ?zh32541kK ?zh32541kd ?zh32541ku ?_); (case zh32541pb => first | assumption | exact KBa.ints_make (by assumption)); (case zh32541pk => first | assumption | omega); (( (case zh32541k1 => k_asm); (case zh32541k2 => k_asm); (case zh32541k3 => k_asm); (case zh32541k4 => k_asm); (case zh32541k5 => k_asm); (case zh32541kK => first | exact rfl | assumption); (case zh32541kd => (first | exact room_1 hd rfl | exact room_0 hd | ktr_room)); (case zh32541ku => (first | exact unit_3 hu rfl | ktr_units)))); intro vzz ownzz hzz tkzz hRzz hKzz Fzz Nzz hUzz; clear hKzz hUzz; obtain ⟨hOzz, bVzz, tVzz, hVzz, hBzz⟩ := hRzz; subst hOzz hVzz; (try simp only [List.nil_append] at Nzz); (try dsimp only)) | (k_here; (with_reducible show wpAny _ _ (call (Value.ref 105) [Value.str _ _] _) _ _ _); k_dflt (refine' PC.use (charset_name_ok _ (by assumption) (by assumption) _) ?zh6551k1 ?zh6551k2 ?zh6551k3 ?zh6551k4 ?zh6551k5 ?zh6551kK ?zh6551kd ?zh6551ku ?_); (( (case zh6551k1 => k_asm); (case zh6551k2 => k_asm); (case zh6551k3 => k_asm); (case zh6551k4 => k_asm); (case zh6551k5 => k_asm); (case zh6551kK => first | exact rfl | assumption); (case zh6551kd => (first | exact room_1 hd rfl | exact room_0 hd | ktr_room)); (case zh6551ku => (first | exact unit_3 hu rfl | ktr_units)))); intro vzz ownzz hzz tkzz hRzz hKzz Fzz Nzz hUzz; clear hKzz hUzz; obtain ⟨hOzz, tVzz, hVzz⟩ := hRzz; subst hOzz hVzz; (try simp only [List.nil_append] at Nzz); (try dsimp only)) | (k_here; (with_reducible show wpAny _ _ (call (Value.ref 225) [Value.bytes _ _] _) _ _ _); k_dflt (refine' PC.use (plain_text_ok _ _ ?zh60499pb ?zh60499pk _) ?zh60499k1 ?zh60499k2 ?zh60499k3 ?zh60499k4 ?zh60499k5 ?zh60499kK ?zh60499kd ?zh60499ku ?_); (case zh60499pb => first | assumption | exact KBa.ints_make (by assumption)); (case zh60499pk => first | assumption | omega); (( (case zh60499k1 => k_asm); (case zh60499k2 => k_asm); (case zh60499k3 => k_asm); (case zh60499k4 => k_asm); (case zh60499k5 => k_asm); (case zh60499kK => first | exact rfl | assumption); (case zh60499kd => (first | exact room_1 hd rfl | exact room_0 hd | ktr_room)); (case zh60499ku => (first | exact unit_3 hu rfl | ktr_units)))); intro vzz ownzz hzz tkzz hRzz hKzz Fzz Nzz hUzz; clear hKzz hUzz; obtain ⟨hOzz, tVzz, hVzz⟩ := hRzz; subst hOzz hVzz; (try simp only [List.nil_append] at Nzz); (try dsimp only)) | (k_here; (with_reducible show wpAny _ _ (call (Value.ref 213) [Value.bytes _ _, Value.int _ _] _) _ _ _); k_dflt (refine' PC.use (word_parts_ok _ _ ?zh8394pb ?zh8394pk _ ?zh8394pi _ _) ?zh8394k1 ?zh8394k2 ?zh8394k3 ?zh8394k4 ?zh8394k5 ?zh8394kK ?zh8394kd ?zh8394ku ?_); (case zh8394pb => first | assumption | exact KBa.ints_make (by assumption)); (case zh8394pk => first | assumption | omega); (case zh8394pi => first | assumption | omega); (( (case zh8394k1 => k_asm); (case zh8394k2 => k_asm); (case zh8394k3 => k_asm); (case zh8394k4 => k_asm); (case zh8394k5 => k_asm); (case zh8394kK => first | exact rfl | assumption); (case zh8394kd => (first | exact room_1 hd rfl | exact room_0 hd | ktr_room)); (case zh8394ku => (first | exact unit_3 hu rfl | ktr_units)))); intro vzz ownzz hzz tkzz hRzz hKzz Fzz Nzz hUzz; clear hKzz; skip; (try dsimp only)) | (k_here; (with_reducible show wpAny _ _ (call (Value.ref 220) [Value.bytes _ _, Value.int _ _, Value.int _ _] _) _ _ _); k_dflt (refine' PC.use (is_apart_ok _ _ ?zh1356pb ?zh1356pk _ _ ?zh1356pi ?zh1356pj _ _ _) ?zh1356k1 ?zh1356k2 ?zh1356k3 ?zh1356k4 ?zh1356k5 ?zh1356kK ?zh1356kd ?zh1356ku ?_); (case zh1356pb => first | assumption | exact KBa.ints_make (by assumption)); (case zh1356pk => first | assumption | omega); (case zh1356pi => first | assumption | omega); (case zh1356pj => first | assumption | omega); (( (case zh1356k1 => k_asm); (case zh1356k2 => k_asm); (case zh1356k3 => k_asm); (case zh1356k4 => k_asm); (case zh1356k5 => k_asm); (case zh1356kK => first | exact rfl | assumption); (case zh1356kd => (first | exact room_1 hd rfl | exact room_0 hd | ktr_room)); (case zh1356ku => (first | exact unit_3 hu rfl | ktr_units)))); intro vzz ownzz hzz tkzz hRzz hKzz Fzz Nzz hUzz; clear hKzz hUzz; obtain ⟨hOzz, hVzz⟩ := hRzz; subst hOzz; unfold IsBo at hVzz; subst hVzz; (try simp only [List.nil_append] at Nzz); (try dsimp only)) | (k_here; (with_reducible show wpAny _ _ (compareOp CmpOp.NotIn (Value.str _ _) (Value.ref _)) _ _ _); k_dflt (refine' notin_topStrs ?zh29371f ?zh29371x ?zh29371l ?zh29371i ?_; (case zh29371f => k_asm); (case zh29371x => k_asm); (case zh29371l => k_is); (case zh29371i => (repeat' (first | exact StrsAre.nil | refine' StrsAre.cons _ _ ?_))); k_whole)) | walk1 | (dsimp only; walk1))) | (leave1; walk_say "STEP leave1"; try dsimp only)))
      · rename (_ == _) = true => he
        exact ret_word hret (by assumption) (hW.none_of_charset hP (by unfold charsetOf; rw [hst]; exact eq_of_beq he)) (by assumption) (by assumption)
      · rename (_ == Str.ofString "") = false => he
        rename (_ == Str.ofString "Q") = true => hq
        have hne : charsetOf pa ≠ Str.ofString "" := fun q => by unfold charsetOf at q; rw [hst] at q; rw [q] at he; cases he.symm.trans (beq_self_eq_true _)
        have hq2 : wayOf pb = Str.ofString "Q" := eq_of_beq hq
        obtain ⟨ys, rfl, hc3, hrow⟩ := hW.word_of hP hap hne (.inl hq2)
        have hcs' : charsetOf pa = csOf (lowS _) := congrArg (fun z => csOf (lowS z)) hst
        rw [hcs'] at hc3 hrow
        cases hrow with
        | b js k h => exact absurd (hq2.symm.trans h) (by decide)
        | q h1 h2 h3 =>
          (repeat' (first | (k_unfold; (try dsimp only)) | ((fail_if_success (with_reducible show KswEnd _ _ _ _ _ _ _ _ _ _ _ _)); (fail_if_success (with_reducible show InvEndN _ _ _ _ _ _ _)); (fail_if_success (with_reducible show wpAny _ _ (exec (Stmt.While _ _ _ _) _) _ _ _)); (fail_if_success (with_reducible show wpAny _ _ (exec (Stmt.For _ _ _ _ _) _) _ _ _)); (fail_if_success (with_reducible show wpAny _ _ (exec (Stmt.Assign _ (PySem.Expr.ListComp _ _ _ _) _) _) _ _ _)); (fail_if_success (with_reducible show wpAny _ _ (eval (PySem.Expr.ListComp _ _ _ _) _) _ _ _)); (first | (k_here; (try dsimp only); (with_reducible show wpAny _ _ (call (Value.builtin "str.upper") [Value.str _ _]) _ _ _); refine SCL.upper (Nat.le_trans (by assumption : Str.length _ ≤ 1000) (by decide)) ?_; intro _) | (k_here; (with_reducible show wpAny _ _ (call (Value.ref 152) [Value.str _ _, Value.bytes _ _] _) _ _ _); k_dflt (refine' PC.use (text_in_ok _ (by assumption) _ _ (by assumption) (by assumption) _ (by assumption) _ _) ?zh31898k1 ?zh31898k2 ?zh31898k3 ?zh31898k4 ?zh31898k5 ?zh31898kK ?zh31898kd ?zh31898ku ?_); (( (case zh31898k1 => k_asm); (case zh31898k2 => k_asm); (case zh31898k3 => k_asm); (case zh31898k4 => k_asm); (case zh31898k5 => k_asm); (case zh31898kK => first | exact rfl | assumption); (case zh31898kd => (first | exact room_1 hd rfl | exact room_0 hd | ktr_room)); (case zh31898ku => (first | exact unit_3 hu rfl | ktr_units)))); intro vzz ownzz hzz tkzz hRzz hKzz Fzz Nzz hUzz; clear hKzz hUzz; obtain ⟨hOzz, tVzz, hVzz⟩ := hRzz; subst hOzz hVzz; (try simp only [List.nil_append] at Nzz); (try dsimp only)) | (k_here; (with_reducible show wpAny _ _ (call (Value.ref 38) [Value.bytes _ _] _) _ _ _); k_dflt (refine' PC.use (decoded_ok _ _ _ (by assumption) (by assumption) (by assumption) (by assumption) _) ?zh12696k1 ?zh12696k2 ?zh12696k3 ?zh12696k4 ?zh12696k5 ?zh12696kK ?zh12696kd ?zh12696ku ?_); (( (case zh12696k1 => k_asm); (case zh12696k2 => k_asm); (case zh12696k3 => k_asm); (case zh12696k4 => k_asm); (case zh12696k5 => k_asm); (case zh12696kK => first | exact rfl | assumption); (case zh12696kd => (first | exact room_1 hd rfl | exact room_0 hd | ktr_room)); (case zh12696ku => (first | exact unit_3 hu rfl | ktr_units)))); intro vzz ownzz hzz tkzz hRzz hKzz Fzz Nzz hUzz; clear hKzz hUzz; obtain ⟨hOzz, bVzz, tVzz, hVzz, hBzz⟩ := hRzz; subst hOzz hVzz; (try simp only [List.nil_append] at Nzz); (try dsimp only)) | (k_here; (with_reducible show wpAny _ _ (call (Value.ref 192) [Value.bytes _ _] _) _ _ _); k_dflt (refine' PC.use (word_q_decoded_ok _ _ ?zh32541pb ?zh32541pk _) ?zh32541k1 ?zh32541k2 ?zh32541k3 ?zh32541k4 ?zh32541k5 ?zh32541kK ?zh32541kd ?zh32541ku ?_); (case zh32541pb => first | assumption | exact KBa.ints_make (by assumption)); (case zh32541pk => first | assumption | omega); (( (case zh32541k1 => k_asm); (case zh32541k2 => k_asm); (case zh32541k3 => k_asm); (case zh32541k4 => k_asm); (case zh32541k5 => k_asm); (case zh32541kK => first | exact rfl | assumption); (case zh32541kd => (first | exact room_1 hd rfl | exact room_0 hd | ktr_room)); (case zh32541ku => (first | exact unit_3 hu rfl | ktr_units)))); intro vzz ownzz hzz tkzz hRzz hKzz Fzz Nzz hUzz; clear hKzz hUzz; obtain ⟨hOzz, bVzz, tVzz, hVzz, hBzz⟩ := hRzz; subst hOzz hVzz; (try simp only [List.nil_append] at Nzz); (try dsimp only)) | (k_here; (with_reducible show wpAny _ _ (call (Value.ref 105) [Value.str _ _] _) _ _ _); k_dflt (refine' PC.use (charset_name_ok _ (by assumption) (by assumption) _) ?zh6551k1 ?zh6551k2 ?zh6551k3 ?zh6551k4 ?zh6551k5 ?zh6551kK ?zh6551kd ?zh6551ku ?_); (( (case zh6551k1 => k_asm); (case zh6551k2 => k_asm); (case zh6551k3 => k_asm); (case zh6551k4 => k_asm); (case zh6551k5 => k_asm); (case zh6551kK => first | exact rfl | assumption); (case zh6551kd => (first | exact room_1 hd rfl | exact room_0 hd | ktr_room)); (case zh6551ku => (first | exact unit_3 hu rfl | ktr_units)))); intro vzz ownzz hzz tkzz hRzz hKzz Fzz Nzz hUzz; clear hKzz hUzz; obtain ⟨hOzz, tVzz, hVzz⟩ := hRzz; subst hOzz hVzz; (try simp only [List.nil_append] at Nzz); (try dsimp only)) | (k_here; (with_reducible show wpAny _ _ (call (Value.ref 225) [Value.bytes _ _] _) _ _ _); k_dflt (refine' PC.use (plain_text_ok _ _ ?zh60499pb ?zh60499pk _) ?zh60499k1 ?zh60499k2 ?zh60499k3 ?zh60499k4 ?zh60499k5 ?zh60499kK ?zh60499kd ?zh60499ku ?_); (case zh60499pb => first | assumption | exact KBa.ints_make (by assumption)); (case zh60499pk => first | assumption | omega); (( (case zh60499k1 => k_asm); (case zh60499k2 => k_asm); (case zh60499k3 => k_asm); (case zh60499k4 => k_asm); (case zh60499k5 => k_asm); (case zh60499kK => first | exact rfl | assumption); (case zh60499kd => (first | exact room_1 hd rfl | exact room_0 hd | ktr_room)); (case zh60499ku => (first | exact unit_3 hu rfl | ktr_units)))); intro vzz ownzz hzz tkzz hRzz hKzz Fzz Nzz hUzz; clear hKzz hUzz; obtain ⟨hOzz, tVzz, hVzz⟩ := hRzz; subst hOzz hVzz; (try simp only [List.nil_append] at Nzz); (try dsimp only)) | (k_here; (with_reducible show wpAny _ _ (call (Value.ref 213) [Value.bytes _ _, Value.int _ _] _) _ _ _); k_dflt (refine' PC.use (word_parts_ok _ _ ?zh8394pb ?zh8394pk _ ?zh8394pi _ _) ?zh8394k1 ?zh8394k2 ?zh8394k3 ?zh8394k4 ?zh8394k5 ?zh8394kK ?zh8394kd ?zh8394ku ?_); (case zh8394pb => first | assumption | exact KBa.ints_make (by assumption)); (case zh8394pk => first | assumption | omega); (case zh8394pi => first | assumption | omega); (( (case zh8394k1 => k_asm); (case zh8394k2 => k_asm); (case zh8394k3 => k_asm); (case zh8394k4 => k_asm); (case zh8394k5 => k_asm); (case zh8394kK => first | exact rfl | assumption); (case zh8394kd => (first | exact room_1 hd rfl | exact room_0 hd | ktr_room)); (case zh8394ku => (first | exact unit_3 hu rfl | ktr_units)))); intro vzz ownzz hzz tkzz hRzz hKzz Fzz Nzz hUzz; clear hKzz; skip; (try dsimp only)) | (k_here; (with_reducible show wpAny _ _ (call (Value.ref 220) [Value.bytes _ _, Value.int _ _, Value.int _ _] _) _ _ _); k_dflt (refine' PC.use (is_apart_ok _ _ ?zh1356pb ?zh1356pk _ _ ?zh1356pi ?zh1356pj _ _ _) ?zh1356k1 ?zh1356k2 ?zh1356k3 ?zh1356k4 ?zh1356k5 ?zh1356kK ?zh1356kd ?zh1356ku ?_); (case zh1356pb => first | assumption | exact KBa.ints_make (by assumption)); (case zh1356pk => first | assumption | omega); (case zh1356pi => first | assumption | omega); (case zh1356pj => first | assumption | omega); (( (case zh1356k1 => k_asm); (case zh1356k2 => k_asm); (case zh1356k3 => k_asm); (case zh1356k4 => k_asm); (case zh1356k5 => k_asm); (case zh1356kK => first | exact rfl | assumption); (case zh1356kd => (first | exact room_1 hd rfl | exact room_0 hd | ktr_room)); (case zh1356ku => (first | exact unit_3 hu rfl | ktr_units)))); intro vzz ownzz hzz tkzz hRzz hKzz Fzz Nzz hUzz; clear hKzz hUzz; obtain ⟨hOzz, hVzz⟩ := hRzz; subst hOzz; unfold IsBo at hVzz; subst hVzz; (try simp only [List.nil_append] at Nzz); (try dsimp only)) | (k_here; (with_reducible show wpAny _ _ (compareOp CmpOp.NotIn (Value.str _ _) (Value.ref _)) _ _ _); k_dflt (refine' notin_topStrs ?zh29371f ?zh29371x ?zh29371l ?zh29371i ?_; (case zh29371f => k_asm); (case zh29371x => k_asm); (case zh29371l => k_is); (case zh29371i => (repeat' (first | exact StrsAre.nil | refine' StrsAre.cons _ _ ?_))); k_whole)) | walk1 | (dsimp only; walk1))) | (leave1; walk_say "STEP leave1"; try dsimp only)))
          exact ret_own [_] hret (by assumption) ⟨_, _, _, rfl, rfl⟩ (by assumption) (by assumption) (by assumption) (by assumption) (fun p hp => by rw [List.mem_singleton.mp hp]; exact .head _)
      · rename (_ == Str.ofString "") = false => he
        rename (_ == Str.ofString "Q") = false => hq
        rename List.any _ _ = true => hany
        have hne : charsetOf pa ≠ Str.ofString "" := fun q => by unfold charsetOf at q; rw [hst] at q; rw [q] at he; cases he.symm.trans (beq_self_eq_true _)
        have hq2 : wayOf pb ≠ Str.ofString "Q" := fun q => by unfold wayOf at q; rw [q] at hq; cases hq.symm.trans (beq_self_eq_true _)
        have hb2 : wayOf pb = Str.ofString "B" := by
          simp only [List.any_cons, List.any_nil, Bool.or_false, Bool.or_eq_true, beq_iff_eq] at hany
          exact hany.elim (fun h => absurd h.symm hq2) fun h => h.symm
        obtain ⟨ys, rfl, hc3, hrow⟩ := hW.word_of hP hap hne (.inr hb2)
        have hcs' : charsetOf pa = csOf (lowS _) := congrArg (fun z => csOf (lowS z)) hst
        rw [hcs'] at hc3 hrow
        cases hrow with
        | q h => exact absurd h hq2
        | b js k h1 h2 h3 h4 h5 h6 h7 =>
          rw [h2] at hbc
          (repeat' (first | (k_unfold; (try dsimp only)) | ((fail_if_success (with_reducible show KswEnd _ _ _ _ _ _ _ _ _ _ _ _)); (fail_if_success (with_reducible show InvEndN _ _ _ _ _ _ _)); (fail_if_success (with_reducible show wpAny _ _ (exec (Stmt.While _ _ _ _) _) _ _ _)); (fail_if_success (with_reducible show wpAny _ _ (exec (Stmt.For _ _ _ _ _) _) _ _ _)); (fail_if_success (with_reducible show wpAny _ _ (exec (Stmt.Assign _ (PySem.Expr.ListComp _ _ _ _) _) _) _ _ _)); (fail_if_success (with_reducible show wpAny _ _ (eval (PySem.Expr.ListComp _ _ _ _) _) _ _ _)); (first | (k_here; (try dsimp only); (with_reducible show wpAny _ _ (call (Value.builtin "str.upper") [Value.str _ _]) _ _ _); refine SCL.upper (Nat.le_trans (by assumption : Str.length _ ≤ 1000) (by decide)) ?_; intro _) | (k_here; (with_reducible show wpAny _ _ (call (Value.ref 152) [Value.str _ _, Value.bytes _ _] _) _ _ _); k_dflt (refine' PC.use (text_in_ok _ (by assumption) _ _ (by assumption) (by assumption) _ (by assumption) _ _) ?zh31898k1 ?zh31898k2 ?zh31898k3 ?zh31898k4 ?zh31898k5 ?zh31898kK ?zh31898kd ?zh31898ku ?_); (( (case zh31898k1 => k_asm); (case zh31898k2 => k_asm); (case zh31898k3 => k_asm); (case zh31898k4 => k_asm); (case zh31898k5 => k_asm); (case zh31898kK => first | exact rfl | assumption); (case zh31898kd => (first | exact room_1 hd rfl | exact room_0 hd | ktr_room)); (case zh31898ku => (first | exact unit_3 hu rfl | ktr_units)))); intro vzz ownzz hzz tkzz hRzz hKzz Fzz Nzz hUzz; clear hKzz hUzz; obtain ⟨hOzz, tVzz, hVzz⟩ := hRzz; subst hOzz hVzz; (try simp only [List.nil_append] at Nzz); (try dsimp only)) | (k_here; (with_reducible show wpAny _ _ (call (Value.ref 38) [Value.bytes _ _] _) _ _ _); k_dflt (refine' PC.use (decoded_ok _ _ _ (by assumption) (by assumption) (by assumption) (by assumption) _) ?zh12696k1 ?zh12696k2 ?zh12696k3 ?zh12696k4 ?zh12696k5 ?zh12696kK ?zh12696kd ?zh12696ku ?_); (( (case zh12696k1 => k_asm); (case zh12696k2 => k_asm); (case zh12696k3 => k_asm); (case zh12696k4 => k_asm); (case zh12696k5 => k_asm); (case zh12696kK => first | exact rfl | assumption); (case zh12696kd => (first | exact room_1 hd rfl | exact room_0 hd | ktr_room)); (case zh12696ku => (first | exact unit_3 hu rfl | ktr_units)))); intro vzz ownzz hzz tkzz hRzz hKzz Fzz Nzz hUzz; clear hKzz hUzz; obtain ⟨hOzz, bVzz, tVzz, hVzz, hBzz⟩ := hRzz; subst hOzz hVzz; (try simp only [List.nil_append] at Nzz); (try dsimp only)) | (k_here; (with_reducible show wpAny _ _ (call (Value.ref 192) [Value.bytes _ _] _) _ _ _); k_dflt (refine' PC.use (word_q_decoded_ok _ _ ?zh32541pb ?zh32541pk _) ?zh32541k1 ?zh32541k2 ?zh32541k3 ?zh32541k4 ?zh32541k5 ?zh32541kK ?zh32541kd ?zh32541ku ?_); (case zh32541pb => first | assumption | exact KBa.ints_make (by assumption)); (case zh32541pk => first | assumption | omega); (( (case zh32541k1 => k_asm); (case zh32541k2 => k_asm); (case zh32541k3 => k_asm); (case zh32541k4 => k_asm); (case zh32541k5 => k_asm); (case zh32541kK => first | exact rfl | assumption); (case zh32541kd => (first | exact room_1 hd rfl | exact room_0 hd | ktr_room)); (case zh32541ku => (first | exact unit_3 hu rfl | ktr_units)))); intro vzz ownzz hzz tkzz hRzz hKzz Fzz Nzz hUzz; clear hKzz hUzz; obtain ⟨hOzz, bVzz, tVzz, hVzz, hBzz⟩ := hRzz; subst hOzz hVzz; (try simp only [List.nil_append] at Nzz); (try dsimp only)) | (k_here; (with_reducible show wpAny _ _ (call (Value.ref 105) [Value.str _ _] _) _ _ _); k_dflt (refine' PC.use (charset_name_ok _ (by assumption) (by assumption) _) ?zh6551k1 ?zh6551k2 ?zh6551k3 ?zh6551k4 ?zh6551k5 ?zh6551kK ?zh6551kd ?zh6551ku ?_); (( (case zh6551k1 => k_asm); (case zh6551k2 => k_asm); (case zh6551k3 => k_asm); (case zh6551k4 => k_asm); (case zh6551k5 => k_asm); (case zh6551kK => first | exact rfl | assumption); (case zh6551kd => (first | exact room_1 hd rfl | exact room_0 hd | ktr_room)); (case zh6551ku => (first | exact unit_3 hu rfl | ktr_units)))); intro vzz ownzz hzz tkzz hRzz hKzz Fzz Nzz hUzz; clear hKzz hUzz; obtain ⟨hOzz, tVzz, hVzz⟩ := hRzz; subst hOzz hVzz; (try simp only [List.nil_append] at Nzz); (try dsimp only)) | (k_here; (with_reducible show wpAny _ _ (call (Value.ref 225) [Value.bytes _ _] _) _ _ _); k_dflt (refine' PC.use (plain_text_ok _ _ ?zh60499pb ?zh60499pk _) ?zh60499k1 ?zh60499k2 ?zh60499k3 ?zh60499k4 ?zh60499k5 ?zh60499kK ?zh60499kd ?zh60499ku ?_); (case zh60499pb => first | assumption | exact KBa.ints_make (by assumption)); (case zh60499pk => first | assumption | omega); (( (case zh60499k1 => k_asm); (case zh60499k2 => k_asm); (case zh60499k3 => k_asm); (case zh60499k4 => k_asm); (case zh60499k5 => k_asm); (case zh60499kK => first | exact rfl | assumption); (case zh60499kd => (first | exact room_1 hd rfl | exact room_0 hd | ktr_room)); (case zh60499ku => (first | exact unit_3 hu rfl | ktr_units)))); intro vzz ownzz hzz tkzz hRzz hKzz Fzz Nzz hUzz; clear hKzz hUzz; obtain ⟨hOzz, tVzz, hVzz⟩ := hRzz; subst hOzz hVzz; (try simp only [List.nil_append] at Nzz); (try dsimp only)) | (k_here; (with_reducible show wpAny _ _ (call (Value.ref 213) [Value.bytes _ _, Value.int _ _] _) _ _ _); k_dflt (refine' PC.use (word_parts_ok _ _ ?zh8394pb ?zh8394pk _ ?zh8394pi _ _) ?zh8394k1 ?zh8394k2 ?zh8394k3 ?zh8394k4 ?zh8394k5 ?zh8394kK ?zh8394kd ?zh8394ku ?_); (case zh8394pb => first | assumption | exact KBa.ints_make (by assumption)); (case zh8394pk => first | assumption | omega); (case zh8394pi => first | assumption | omega); (( (case zh8394k1 => k_asm); (case zh8394k2 => k_asm); (case zh8394k3 => k_asm); (case zh8394k4 => k_asm); (case zh8394k5 => k_asm); (case zh8394kK => first | exact rfl | assumption); (case zh8394kd => (first | exact room_1 hd rfl | exact room_0 hd | ktr_room)); (case zh8394ku => (first | exact unit_3 hu rfl | ktr_units)))); intro vzz ownzz hzz tkzz hRzz hKzz Fzz Nzz hUzz; clear hKzz; skip; (try dsimp only)) | (k_here; (with_reducible show wpAny _ _ (call (Value.ref 220) [Value.bytes _ _, Value.int _ _, Value.int _ _] _) _ _ _); k_dflt (refine' PC.use (is_apart_ok _ _ ?zh1356pb ?zh1356pk _ _ ?zh1356pi ?zh1356pj _ _ _) ?zh1356k1 ?zh1356k2 ?zh1356k3 ?zh1356k4 ?zh1356k5 ?zh1356kK ?zh1356kd ?zh1356ku ?_); (case zh1356pb => first | assumption | exact KBa.ints_make (by assumption)); (case zh1356pk => first | assumption | omega); (case zh1356pi => first | assumption | omega); (case zh1356pj => first | assumption | omega); (( (case zh1356k1 => k_asm); (case zh1356k2 => k_asm); (case zh1356k3 => k_asm); (case zh1356k4 => k_asm); (case zh1356k5 => k_asm); (case zh1356kK => first | exact rfl | assumption); (case zh1356kd => (first | exact room_1 hd rfl | exact room_0 hd | ktr_room)); (case zh1356ku => (first | exact unit_3 hu rfl | ktr_units)))); intro vzz ownzz hzz tkzz hRzz hKzz Fzz Nzz hUzz; clear hKzz hUzz; obtain ⟨hOzz, hVzz⟩ := hRzz; subst hOzz; unfold IsBo at hVzz; subst hVzz; (try simp only [List.nil_append] at Nzz); (try dsimp only)) | (k_here; (with_reducible show wpAny _ _ (compareOp CmpOp.NotIn (Value.str _ _) (Value.ref _)) _ _ _); k_dflt (refine' notin_topStrs ?zh29371f ?zh29371x ?zh29371l ?zh29371i ?_; (case zh29371f => k_asm); (case zh29371x => k_asm); (case zh29371l => k_is); (case zh29371i => (repeat' (first | exact StrsAre.nil | refine' StrsAre.cons _ _ ?_))); k_whole)) | walk1 | (dsimp only; walk1))) | (leave1; walk_say "STEP leave1"; try dsimp only)))
          exact ret_own [_] hret (by assumption) ⟨_, _, _, rfl, rfl⟩ (by assumption) (by assumption) (by assumption) (by assumption) (fun p hp => by rw [List.mem_singleton.mp hp]; exact .head _)
      · rename List.any _ _ = false => hany
        simp only [List.any_cons, List.any_nil, Bool.or_false, Bool.or_eq_false_iff, beq_eq_false_iff_ne] at hany
        exact ret_word hret (by assumption) (hW.none_of_way hP (fun h => hany.1 h.symm) (fun h => hany.2 h.symm)) (by assumption) (by assumption)
    · exact ret_word hret (by assumption) (hW.none_of_near hP (by assumption)) (by assumption) (by assumption)
theorem mem_two {α : Type} {a b : α} {l : List α} (h : a ∈ l) (g : b ∈ l) : ∀ p ∈ [a, b], p ∈ l := fun p hp => (List.mem_cons.mp hp).elim (fun e => e ▸ h) fun hp => (List.mem_singleton.mp hp) ▸ g
theorem mem_three {α : Type} {a b c : α} {l : List α} (h : a ∈ l) (g : b ∈ l) (f : c ∈ l) : ∀ p ∈ [a, b, c], p ∈ l := fun p hp => (List.mem_cons.mp hp).elim (fun e => e ▸ h) fun hp => mem_two g f p hp
theorem mem_four {α : Type} {a b c d : α} {l : List α} (h : a ∈ l) (g : b ∈ l) (f : c ∈ l) (e : d ∈ l) : ∀ p ∈ [a, b, c, d], p ∈ l := fun p hp => (List.mem_cons.mp hp).elim (fun e => e ▸ h) fun hp => mem_three g f e p hp
theorem clip0 (n : Nat) : clipAt n 0 = 0 := (clipAt_nat n 0).trans (Nat.zero_min n)
theorem cut_all (ks : List Int) : List.take (ks.length - clipAt ks.length 0) (List.drop (clipAt ks.length 0) ks) = ks := by
  rw [clip0]; simp
theorem cut_to (ks : List Int) (j : Nat) : List.take (min j ks.length - clipAt ks.length 0) (List.drop (clipAt ks.length 0) ks) = ks.take j := by
  rw [clip0, List.drop_zero, Nat.sub_zero, List.take_eq_take_iff]; omega
theorem cut_from (ks : List Int) (e : Nat) (h : e ≤ ks.length) : List.take (ks.length - min e ks.length) (List.drop (min e ks.length) ks) = ks.drop e := by
  rw [Nat.min_eq_left h, List.take_of_length_le (by rw [List.length_drop]; exact Nat.le_refl _)]
/-- a list of one piece -/
def Pieces1 (ks : List Int) (v : Value) (own : List (Addr × Obj)) : Prop := ∃ x D n vb, v = .ref x ∧ own = [(x, W.listOf #[.ref D] n), (D, { cls := .type "tuple", data := .seq #[.bool false, vb] })] ∧ IsB ks vb
set_option maxHeartbeats 1000000 in
theorem pieces_none (b : Array UInt8) (ks : List Int) (hb : KBw.bInts b = ks) (hk : ks.length ≤ 1000) (hW : ∀ i, i < ks.length → ks.getD i 0 = 61 → WordIs ks i none) (t1 : Tok) : PC 11 239 [.bytes b t1] (Pieces1 ks) := by
  unfold PC
  k_fill
  intro w mean mg mb dp un gd cn cs a ccd cl outer A₀ base h₀ L m s Q E B F X T hcs hd hu hret
  (k_dflt (refine' enter ?zh1365k1 ?zh1365k2 ?zh1365k3 ?zh1365k5 ?zh1365kA ?zh1365kF ?zh1365kK ?zh1365k6 ?zh1365k7 ?zh1365k8 ?zh1365k9 ?zh1365kB ?_ ?zh1365c2 ?zh1365c3 ?zh1365c4 ?zh1365c5; (case zh1365kA => exact rfl); (case zh1365kF => exact rfl); (case zh1365kK => first | assumption | exact rfl); (case zh1365k1 => k_asm); (case zh1365k2 => k_asm); (case zh1365k3 => k_asm); (case zh1365k5 => k_asm); (case zh1365k6 => k_is); (case zh1365k7 => k_is); (case zh1365k8 => (first | exact room_1 hd rfl | exact room_0 hd | ktr_room)); (case zh1365k9 => exact BindsTo.of_eq rfl); (case zh1365c5 => decide); (case zh1365kB => exact locs rfl); (case zh1365c2 => exact rfl); (case zh1365c3 => exact rfl); (case zh1365c4 => exact rfl); k_whole; intro gzz Lzz hzz hgzz FGzz Fzz Nzz Bzz Xzz Tzz; (try dsimp only); (try k_lift Bzz); (try (show wpAny _ _ _ _ _ _)); (try k_fold)))
  (repeat' (first | (k_unfold; (try dsimp only)) | ((fail_if_success (with_reducible show KswEnd _ _ _ _ _ _ _ _ _ _ _ _)); (fail_if_success (with_reducible show InvEndN _ _ _ _ _ _ _)); (fail_if_success (with_reducible show wpAny _ _ (exec (Stmt.While _ _ _ _) _) _ _ _)); (fail_if_success (with_reducible show wpAny _ _ (exec (Stmt.For _ _ _ _ _) _) _ _ _)); (fail_if_success (with_reducible show wpAny _ _ (exec (Stmt.Assign _ (PySem.Expr.ListComp _ _ _ _) _) _) _ _ _)); (fail_if_success (with_reducible show wpAny _ _ (eval (PySem.Expr.ListComp _ _ _ _) _) _ _ _)); (first | (k_here; (with_reducible show wpAny _ _ (call (Value.ref 232) [Value.bytes _ _, Value.int _ _] _) _ _ _); k_dflt (refine' PC.use (word_at_ok _ _ (by assumption) (by assumption) _ (by assumption) _ _ _ (by assumption)) ?zh35632k1 ?zh35632k2 ?zh35632k3 ?zh35632k4 ?zh35632k5 ?zh35632kK ?zh35632kd ?zh35632ku ?_); (( (case zh35632k1 => k_asm); (case zh35632k2 => k_asm); (case zh35632k3 => k_asm); (case zh35632k4 => k_asm); (case zh35632k5 => k_asm); (case zh35632kK => first | exact rfl | assumption); (case zh35632kd => (first | exact room_1 hd rfl | exact room_0 hd | ktr_room)); (case zh35632ku => (first | exact unit_3 hu rfl | ktr_units)))); intro vzz ownzz hzz tkzz hRzz hKzz Fzz Nzz hUzz; clear hKzz; (first | (obtain ⟨hVzz, hOzz⟩ := (hRzz : _ = Value.none ∧ _ = []); subst hOzz hVzz; clear hUzz; (try simp only [List.nil_append] at Nzz)) | (obtain ⟨xzz, t1zz, t2zz, hVzz, hOzz⟩ := hRzz; subst hVzz hOzz; (try (have n1zz := hUzz _ (.head _) _ (.head _); have m1zz := Ne.symm n1zz; dsimp only at n1zz m1zz)); (try (have n2zz := hUzz _ (.head _) _ (.tail _ (.head _)); have m2zz := Ne.symm n2zz; dsimp only at n2zz m2zz)); (try (have n3zz := hUzz _ (.head _) _ (.tail _ (.tail _ (.head _))); have m3zz := Ne.symm n3zz; dsimp only at n3zz m3zz)); clear hUzz; (try simp only [List.singleton_append] at Nzz))); (try dsimp only)) | walk1 | (dsimp only; walk1))) | (leave1; walk_say "STEP leave1"; try dsimp only)))
  rename Fr _ _ _ _ => lF
  rename News _ _ _ _ => lN
  with_unfolding_all refine' ksw_while (σ := Int × Tok) (fun c => [(_, W.listOf #[] 0)]) (fun c => [(Str.ofString "at", .int c.1 c.2)]) (fun _ => True) [Str.ofString "found"] (fun c => ∃ j : Nat, c.1 = j ∧ j ≤ ks.length) (fun c => ks.length - c.1.toNat) (0, _) lF lN trivial ?kk ⟨0, rfl, Nat.zero_le _⟩ ?_
  case kk => intro p hp; rw [List.mem_singleton.mp hp]; rfl
  clear lF lN
  rintro ⟨_, tj⟩ u h tk - ⟨j, hj, hjl⟩ lF lN
  dsimp only at hj
  subst hj
  have e0 : ((j : Int)).toNat = j := Int.toNat_natCast j
  dsimp only at lF lN ⊢
  show wpAny _ _ _ _ _ _
  k_fold
  by_cases hlt : j < ks.length
  · have hlt' : (j : Int) < (ks.length : Int) := by omega
    (repeat' (first | (k_unfold; (try dsimp only)) | ((fail_if_success (with_reducible show KswEnd _ _ _ _ _ _ _ _ _ _ _ _)); (fail_if_success (with_reducible show InvEndN _ _ _ _ _ _ _)); (fail_if_success (with_reducible show wpAny _ _ (exec (Stmt.While _ _ _ _) _) _ _ _)); (fail_if_success (with_reducible show wpAny _ _ (exec (Stmt.For _ _ _ _ _) _) _ _ _)); (fail_if_success (with_reducible show wpAny _ _ (exec (Stmt.Assign _ (PySem.Expr.ListComp _ _ _ _) _) _) _ _ _)); (fail_if_success (with_reducible show wpAny _ _ (eval (PySem.Expr.ListComp _ _ _ _) _) _ _ _)); (first | (k_here; (with_reducible show wpAny _ _ (call (Value.ref 232) [Value.bytes _ _, Value.int _ _] _) _ _ _); k_dflt (refine' PC.use (word_at_ok _ _ (by assumption) (by assumption) _ (by assumption) _ _ _ (by assumption)) ?zh35632k1 ?zh35632k2 ?zh35632k3 ?zh35632k4 ?zh35632k5 ?zh35632kK ?zh35632kd ?zh35632ku ?_); (( (case zh35632k1 => k_asm); (case zh35632k2 => k_asm); (case zh35632k3 => k_asm); (case zh35632k4 => k_asm); (case zh35632k5 => k_asm); (case zh35632kK => first | exact rfl | assumption); (case zh35632kd => (first | exact room_1 hd rfl | exact room_0 hd | ktr_room)); (case zh35632ku => (first | exact unit_3 hu rfl | ktr_units)))); intro vzz ownzz hzz tkzz hRzz hKzz Fzz Nzz hUzz; clear hKzz; (first | (obtain ⟨hVzz, hOzz⟩ := (hRzz : _ = Value.none ∧ _ = []); subst hOzz hVzz; clear hUzz; (try simp only [List.nil_append] at Nzz)) | (obtain ⟨xzz, t1zz, t2zz, hVzz, hOzz⟩ := hRzz; subst hVzz hOzz; (try (have n1zz := hUzz _ (.head _) _ (.head _); have m1zz := Ne.symm n1zz; dsimp only at n1zz m1zz)); (try (have n2zz := hUzz _ (.head _) _ (.tail _ (.head _)); have m2zz := Ne.symm n2zz; dsimp only at n2zz m2zz)); (try (have n3zz := hUzz _ (.head _) _ (.tail _ (.tail _ (.head _))); have m3zz := Ne.symm n3zz; dsimp only at n3zz m3zz)); clear hUzz; (try simp only [List.singleton_append] at Nzz))); (try dsimp only)) | walk1 | (dsimp only; walk1))) | (leave1; walk_say "STEP leave1"; try dsimp only)))
    · rename _ = (61 : Int) => h61
      rw [e0] at h61
      have hWj := hW j hlt h61
      (repeat' (first | (k_unfold; (try dsimp only)) | ((fail_if_success (with_reducible show KswEnd _ _ _ _ _ _ _ _ _ _ _ _)); (fail_if_success (with_reducible show InvEndN _ _ _ _ _ _ _)); (fail_if_success (with_reducible show wpAny _ _ (exec (Stmt.While _ _ _ _) _) _ _ _)); (fail_if_success (with_reducible show wpAny _ _ (exec (Stmt.For _ _ _ _ _) _) _ _ _)); (fail_if_success (with_reducible show wpAny _ _ (exec (Stmt.Assign _ (PySem.Expr.ListComp _ _ _ _) _) _) _ _ _)); (fail_if_success (with_reducible show wpAny _ _ (eval (PySem.Expr.ListComp _ _ _ _) _) _ _ _)); (first | (k_here; (with_reducible show wpAny _ _ (call (Value.ref 232) [Value.bytes _ _, Value.int _ _] _) _ _ _); k_dflt (refine' PC.use (word_at_ok _ _ (by assumption) (by assumption) _ (by assumption) _ _ _ (by assumption)) ?zh35632k1 ?zh35632k2 ?zh35632k3 ?zh35632k4 ?zh35632k5 ?zh35632kK ?zh35632kd ?zh35632ku ?_); (( (case zh35632k1 => k_asm); (case zh35632k2 => k_asm); (case zh35632k3 => k_asm); (case zh35632k4 => k_asm); (case zh35632k5 => k_asm); (case zh35632kK => first | exact rfl | assumption); (case zh35632kd => (first | exact room_1 hd rfl | exact room_0 hd | ktr_room)); (case zh35632ku => (first | exact unit_3 hu rfl | ktr_units)))); intro vzz ownzz hzz tkzz hRzz hKzz Fzz Nzz hUzz; clear hKzz; (first | (obtain ⟨hVzz, hOzz⟩ := (hRzz : _ = Value.none ∧ _ = []); subst hOzz hVzz; clear hUzz; (try simp only [List.nil_append] at Nzz)) | (obtain ⟨xzz, t1zz, t2zz, hVzz, hOzz⟩ := hRzz; subst hVzz hOzz; (try (have n1zz := hUzz _ (.head _) _ (.head _); have m1zz := Ne.symm n1zz; dsimp only at n1zz m1zz)); (try (have n2zz := hUzz _ (.head _) _ (.tail _ (.head _)); have m2zz := Ne.symm n2zz; dsimp only at n2zz m2zz)); (try (have n3zz := hUzz _ (.head _) _ (.tail _ (.tail _ (.head _))); have m3zz := Ne.symm n3zz; dsimp only at n3zz m3zz)); clear hUzz; (try simp only [List.singleton_append] at Nzz))); (try dsimp only)) | walk1 | (dsimp only; walk1))) | (leave1; walk_say "STEP leave1"; try dsimp only)))
      all_goals (
        rename Fr _ _ _ _ => fE
        rename News _ _ _ _ => nE
        refine' ksw_end ((j : Int) + 1, _) fE nE (mem_one (by first | exact .head _ | exact .tail _ (.head _))) trivial ?b ?c ⟨j + 1, by simp, by omega⟩ ?h
        case b => intro p hp; rw [List.mem_singleton.mp hp]; rfl
        case c =>
          intro z h2 h3
          have h2 := h2 _ (List.mem_singleton.mpr rfl)
          have h3' : z ≠ Str.ofString "found" := by simpa using h3
          simp [h2, h3', kstB]
        case h => first | exact meas_1 (by assumption) | exact meas_i (by assumption) | exact meas_e (by assumption) (by assumption) | exact meas_p 0 (by assumption) | exact meas_p 2 (by assumption) | (dsimp only; omega))
    all_goals (
        rename Fr _ _ _ _ => fE
        rename News _ _ _ _ => nE
        refine' ksw_end ((j : Int) + 1, _) fE nE (mem_one (by first | exact .head _ | exact .tail _ (.head _))) trivial ?b ?c ⟨j + 1, by simp, by omega⟩ ?h
        case b => intro p hp; rw [List.mem_singleton.mp hp]; rfl
        case c =>
          intro z h2 h3
          have h2 := h2 _ (List.mem_singleton.mpr rfl)
          have h3' : z ≠ Str.ofString "found" := by simpa using h3
          simp [h2, h3', kstB]
        case h => first | exact meas_1 (by assumption) | exact meas_i (by assumption) | exact meas_e (by assumption) (by assumption) | exact meas_p 0 (by assumption) | exact meas_p 2 (by assumption) | (dsimp only; omega))
  · have hlt' : ¬ (j : Int) < (ks.length : Int) := by omega
    (repeat' (first | (k_unfold; (try dsimp only)) | ((fail_if_success (with_reducible show KswEnd _ _ _ _ _ _ _ _ _ _ _ _)); (fail_if_success (with_reducible show InvEndN _ _ _ _ _ _ _)); (fail_if_success (with_reducible show wpAny _ _ (exec (Stmt.While _ _ _ _) _) _ _ _)); (fail_if_success (with_reducible show wpAny _ _ (exec (Stmt.For _ _ _ _ _) _) _ _ _)); (fail_if_success (with_reducible show wpAny _ _ (exec (Stmt.Assign _ (PySem.Expr.ListComp _ _ _ _) _) _) _ _ _)); (fail_if_success (with_reducible show wpAny _ _ (eval (PySem.Expr.ListComp _ _ _ _) _) _ _ _)); (first | (k_here; (with_reducible show wpAny _ _ (call (Value.ref 232) [Value.bytes _ _, Value.int _ _] _) _ _ _); k_dflt (refine' PC.use (word_at_ok _ _ (by assumption) (by assumption) _ (by assumption) _ _ _ (by assumption)) ?zh35632k1 ?zh35632k2 ?zh35632k3 ?zh35632k4 ?zh35632k5 ?zh35632kK ?zh35632kd ?zh35632ku ?_); (( (case zh35632k1 => k_asm); (case zh35632k2 => k_asm); (case zh35632k3 => k_asm); (case zh35632k4 => k_asm); (case zh35632k5 => k_asm); (case zh35632kK => first | exact rfl | assumption); (case zh35632kd => (first | exact room_1 hd rfl | exact room_0 hd | ktr_room)); (case zh35632ku => (first | exact unit_3 hu rfl | ktr_units)))); intro vzz ownzz hzz tkzz hRzz hKzz Fzz Nzz hUzz; clear hKzz; (first | (obtain ⟨hVzz, hOzz⟩ := (hRzz : _ = Value.none ∧ _ = []); subst hOzz hVzz; clear hUzz; (try simp only [List.nil_append] at Nzz)) | (obtain ⟨xzz, t1zz, t2zz, hVzz, hOzz⟩ := hRzz; subst hVzz hOzz; (try (have n1zz := hUzz _ (.head _) _ (.head _); have m1zz := Ne.symm n1zz; dsimp only at n1zz m1zz)); (try (have n2zz := hUzz _ (.head _) _ (.tail _ (.head _)); have m2zz := Ne.symm n2zz; dsimp only at n2zz m2zz)); (try (have n3zz := hUzz _ (.head _) _ (.tail _ (.tail _ (.head _))); have m3zz := Ne.symm n3zz; dsimp only at n3zz m3zz)); clear hUzz; (try simp only [List.singleton_append] at Nzz))); (try dsimp only)) | walk1 | (dsimp only; walk1))) | (leave1; walk_say "STEP leave1"; try dsimp only)))
    rename KBw.bInts _ = List.take _ _ => hA
    refine' ret_own [_, _] hret (by assumption) ⟨_, _, _, _, rfl, rfl, ⟨_, _, rfl, ?pk⟩⟩ (by assumption) (by assumption) (by assumption) (by assumption) (mem_two (.head _) (.tail _ (.tail _ (.head _))))
    case pk => exact hA.trans (cut_all ks)
theorem ne_begun : ¬ Str.ofString "begun" = Str.ofString "at" := by decide
/-- before the word, and behind it -/
inductive Phase (ks ys : List Int) (p e : Nat) : Nat → Int → List Value → List (Addr × Obj) → Prop
  | zero {j : Nat} : j ≤ p → Phase ks ys p e j 0 [] []
  | one {j : Nat} {D1 D2 : Addr} {vb : Value} {t : Tok} : e ≤ j → j ≤ ks.length → IsB (ks.take p) vb → Phase ks ys p e j (e : Int) [.ref D1, .ref D2] [(D1, { cls := .type "tuple", data := .seq #[.bool false, vb] }), (D2, { cls := .type "tuple", data := .seq #[.bool true, .str ⟨(ys.map Int.toNat).toArray⟩ t] })]
/-- a list of three pieces -/
def Pieces3 (pre ys post : List Int) (v : Value) (own : List (Addr × Obj)) : Prop := ∃ x D1 D2 D3 n vb vc t, v = .ref x ∧ own = [(x, W.listOf #[.ref D1, .ref D2, .ref D3] n), (D1, { cls := .type "tuple", data := .seq #[.bool false, vb] }), (D2, { cls := .type "tuple", data := .seq #[.bool true, .str ⟨(ys.map Int.toNat).toArray⟩ t] }), (D3, { cls := .type "tuple", data := .seq #[.bool false, vc] })] ∧ IsB pre vb ∧ IsB post vc
set_option maxHeartbeats 2000000 in
theorem pieces_one (b : Array UInt8) (ks : List Int) (hb : KBw.bInts b = ks) (hk : ks.length ≤ 1000) (p e : Nat) (ys : List Int) (hpe : p < e) (hel : e ≤ ks.length) (h61p : ks.getD p 0 = 61) (hWp : WordIs ks p (some (ys, (e : Int)))) (hW : ∀ i, i < ks.length → ks.getD i 0 = 61 → i < p ∨ e ≤ i → WordIs ks i none) (t1 : Tok) :
    PC 11 239 [.bytes b t1] (Pieces3 (ks.take p) ys (ks.drop e)) := by
  unfold PC
  k_fill
  intro w mean mg mb dp un gd cn cs a ccd cl outer A₀ base h₀ L m s Q E B F X T hcs hd hu hret
  (k_dflt (refine' enter ?zh1365k1 ?zh1365k2 ?zh1365k3 ?zh1365k5 ?zh1365kA ?zh1365kF ?zh1365kK ?zh1365k6 ?zh1365k7 ?zh1365k8 ?zh1365k9 ?zh1365kB ?_ ?zh1365c2 ?zh1365c3 ?zh1365c4 ?zh1365c5; (case zh1365kA => exact rfl); (case zh1365kF => exact rfl); (case zh1365kK => first | assumption | exact rfl); (case zh1365k1 => k_asm); (case zh1365k2 => k_asm); (case zh1365k3 => k_asm); (case zh1365k5 => k_asm); (case zh1365k6 => k_is); (case zh1365k7 => k_is); (case zh1365k8 => (first | exact room_1 hd rfl | exact room_0 hd | ktr_room)); (case zh1365k9 => exact BindsTo.of_eq rfl); (case zh1365c5 => decide); (case zh1365kB => exact locs rfl); (case zh1365c2 => exact rfl); (case zh1365c3 => exact rfl); (case zh1365c4 => exact rfl); k_whole; intro gzz Lzz hzz hgzz FGzz Fzz Nzz Bzz Xzz Tzz; (try dsimp only); (try k_lift Bzz); (try (show wpAny _ _ _ _ _ _)); (try k_fold)))
  (repeat' (first | (k_unfold; (try dsimp only)) | ((fail_if_success (with_reducible show KswEnd _ _ _ _ _ _ _ _ _ _ _ _)); (fail_if_success (with_reducible show InvEndN _ _ _ _ _ _ _)); (fail_if_success (with_reducible show wpAny _ _ (exec (Stmt.While _ _ _ _) _) _ _ _)); (fail_if_success (with_reducible show wpAny _ _ (exec (Stmt.For _ _ _ _ _) _) _ _ _)); (fail_if_success (with_reducible show wpAny _ _ (exec (Stmt.Assign _ (PySem.Expr.ListComp _ _ _ _) _) _) _ _ _)); (fail_if_success (with_reducible show wpAny _ _ (eval (PySem.Expr.ListComp _ _ _ _) _) _ _ _)); (first | (k_here; (with_reducible show wpAny _ _ (call (Value.ref 232) [Value.bytes _ _, Value.int _ _] _) _ _ _); k_dflt (refine' PC.use (word_at_ok _ _ (by assumption) (by assumption) _ (by assumption) _ _ _ (by assumption)) ?zh35632k1 ?zh35632k2 ?zh35632k3 ?zh35632k4 ?zh35632k5 ?zh35632kK ?zh35632kd ?zh35632ku ?_); (( (case zh35632k1 => k_asm); (case zh35632k2 => k_asm); (case zh35632k3 => k_asm); (case zh35632k4 => k_asm); (case zh35632k5 => k_asm); (case zh35632kK => first | exact rfl | assumption); (case zh35632kd => (first | exact room_1 hd rfl | exact room_0 hd | ktr_room)); (case zh35632ku => (first | exact unit_3 hu rfl | ktr_units)))); intro vzz ownzz hzz tkzz hRzz hKzz Fzz Nzz hUzz; clear hKzz; (first | (obtain ⟨hVzz, hOzz⟩ := (hRzz : _ = Value.none ∧ _ = []); subst hOzz hVzz; clear hUzz; (try simp only [List.nil_append] at Nzz)) | (obtain ⟨xzz, t1zz, t2zz, hVzz, hOzz⟩ := hRzz; subst hVzz hOzz; (try (have n1zz := hUzz _ (.head _) _ (.head _); have m1zz := Ne.symm n1zz; dsimp only at n1zz m1zz)); (try (have n2zz := hUzz _ (.head _) _ (.tail _ (.head _)); have m2zz := Ne.symm n2zz; dsimp only at n2zz m2zz)); (try (have n3zz := hUzz _ (.head _) _ (.tail _ (.tail _ (.head _))); have m3zz := Ne.symm n3zz; dsimp only at n3zz m3zz)); clear hUzz; (try simp only [List.singleton_append] at Nzz))); (try dsimp only)) | walk1 | (dsimp only; walk1))) | (leave1; walk_say "STEP leave1"; try dsimp only)))
  rename Fr _ _ _ _ => lF
  rename News _ _ _ _ => lN
  refine with_map lF ?_
  intro m₀ em lF2
  obtain ⟨ta0, hta⟩ : ∃ t, m₀ (Str.ofString "at") = some (.int 0 t) := ⟨_, by rw [em]; exact if_pos rfl⟩
  obtain ⟨tb0, htb⟩ : ∃ t, m₀ (Str.ofString "begun") = some (.int 0 t) := ⟨_, by rw [em]; simp only [if_neg ne_begun]; exact if_pos trivial⟩
  with_unfolding_all refine' ksw_while (σ := (Int × Tok) × (Int × Tok) × (List Value × Nat × List (Addr × Obj))) (fun c => (_, W.listOf c.2.2.1.toArray c.2.2.2.1) :: c.2.2.2.2) (fun c => [(Str.ofString "at", .int c.1.1 c.1.2), (Str.ofString "begun", .int c.2.1.1 c.2.1.2)]) (fun _ => True) [Str.ofString "found"] (fun c => ∃ j : Nat, c.1.1 = j ∧ Phase ks ys p e j c.2.1.1 c.2.2.1 c.2.2.2.2) (fun c => ks.length - c.1.1.toNat) ((0, ta0), (0, tb0), [], 0, []) lF2 lN trivial ?kk ⟨0, rfl, .zero (Nat.zero_le _)⟩ ?_
  case kk =>
    intro q hq
    rcases List.mem_cons.mp hq with hq | hq
    · rw [hq]; exact hta
    · rw [List.mem_singleton.mp hq]; exact htb
  clear hta htb lF2
  subst em
  clear lF lN
  rintro ⟨⟨_, tj⟩, ⟨bg, tb⟩, ⟨vs, nn, objs⟩⟩ u h tk - ⟨j, hj, hph⟩ lF lN
  dsimp only at hj hph
  subst hj
  have e0 : ((j : Int)).toNat = j := Int.toNat_natCast j
  dsimp only at lF lN ⊢
  show wpAny _ _ _ _ _ _
  k_fold
  have hjl : j ≤ ks.length := by cases hph <;> omega
  by_cases hlt : j < ks.length
  · have hlt' : (j : Int) < (ks.length : Int) := by omega
    by_cases hjp : j = p
    · subst hjp
      cases hph with
      | one h1 => omega
      | zero =>
        (repeat' (first | (k_unfold; (try dsimp only)) | ((fail_if_success (with_reducible show KswEnd _ _ _ _ _ _ _ _ _ _ _ _)); (fail_if_success (with_reducible show InvEndN _ _ _ _ _ _ _)); (fail_if_success (with_reducible show wpAny _ _ (exec (Stmt.While _ _ _ _) _) _ _ _)); (fail_if_success (with_reducible show wpAny _ _ (exec (Stmt.For _ _ _ _ _) _) _ _ _)); (fail_if_success (with_reducible show wpAny _ _ (exec (Stmt.Assign _ (PySem.Expr.ListComp _ _ _ _) _) _) _ _ _)); (fail_if_success (with_reducible show wpAny _ _ (eval (PySem.Expr.ListComp _ _ _ _) _) _ _ _)); (first | (k_here; (with_reducible show wpAny _ _ (call (Value.ref 232) [Value.bytes _ _, Value.int _ _] _) _ _ _); k_dflt (refine' PC.use (word_at_ok _ _ (by assumption) (by assumption) _ (by assumption) _ _ _ (by assumption)) ?zh35632k1 ?zh35632k2 ?zh35632k3 ?zh35632k4 ?zh35632k5 ?zh35632kK ?zh35632kd ?zh35632ku ?_); (( (case zh35632k1 => k_asm); (case zh35632k2 => k_asm); (case zh35632k3 => k_asm); (case zh35632k4 => k_asm); (case zh35632k5 => k_asm); (case zh35632kK => first | exact rfl | assumption); (case zh35632kd => (first | exact room_1 hd rfl | exact room_0 hd | ktr_room)); (case zh35632ku => (first | exact unit_3 hu rfl | ktr_units)))); intro vzz ownzz hzz tkzz hRzz hKzz Fzz Nzz hUzz; clear hKzz; (first | (obtain ⟨hVzz, hOzz⟩ := (hRzz : _ = Value.none ∧ _ = []); subst hOzz hVzz; clear hUzz; (try simp only [List.nil_append] at Nzz)) | (obtain ⟨xzz, t1zz, t2zz, hVzz, hOzz⟩ := hRzz; subst hVzz hOzz; (try (have n1zz := hUzz _ (.head _) _ (.head _); have m1zz := Ne.symm n1zz; dsimp only at n1zz m1zz)); (try (have n2zz := hUzz _ (.head _) _ (.tail _ (.head _)); have m2zz := Ne.symm n2zz; dsimp only at n2zz m2zz)); (try (have n3zz := hUzz _ (.head _) _ (.tail _ (.tail _ (.head _))); have m3zz := Ne.symm n3zz; dsimp only at n3zz m3zz)); clear hUzz; (try simp only [List.singleton_append] at Nzz))); (try dsimp only)) | walk1 | (dsimp only; walk1))) | (leave1; walk_say "STEP leave1"; try dsimp only)))
        · (repeat' (first | (k_unfold; (try dsimp only)) | ((fail_if_success (with_reducible show KswEnd _ _ _ _ _ _ _ _ _ _ _ _)); (fail_if_success (with_reducible show InvEndN _ _ _ _ _ _ _)); (fail_if_success (with_reducible show wpAny _ _ (exec (Stmt.While _ _ _ _) _) _ _ _)); (fail_if_success (with_reducible show wpAny _ _ (exec (Stmt.For _ _ _ _ _) _) _ _ _)); (fail_if_success (with_reducible show wpAny _ _ (exec (Stmt.Assign _ (PySem.Expr.ListComp _ _ _ _) _) _) _ _ _)); (fail_if_success (with_reducible show wpAny _ _ (eval (PySem.Expr.ListComp _ _ _ _) _) _ _ _)); (first | (k_here; (with_reducible show wpAny _ _ (call (Value.ref 232) [Value.bytes _ _, Value.int _ _] _) _ _ _); k_dflt (refine' PC.use (word_at_ok _ _ (by assumption) (by assumption) _ (by assumption) _ _ _ (by assumption)) ?zh35632k1 ?zh35632k2 ?zh35632k3 ?zh35632k4 ?zh35632k5 ?zh35632kK ?zh35632kd ?zh35632ku ?_); (( (case zh35632k1 => k_asm); (case zh35632k2 => k_asm); (case zh35632k3 => k_asm); (case zh35632k4 => k_asm); (case zh35632k5 => k_asm); (case zh35632kK => first | exact rfl | assumption); (case zh35632kd => (first | exact room_1 hd rfl | exact room_0 hd | ktr_room)); (case zh35632ku => (first | exact unit_3 hu rfl | ktr_units)))); intro vzz ownzz hzz tkzz hRzz hKzz Fzz Nzz hUzz; clear hKzz; (first | (obtain ⟨hVzz, hOzz⟩ := (hRzz : _ = Value.none ∧ _ = []); subst hOzz hVzz; clear hUzz; (try simp only [List.nil_append] at Nzz)) | (obtain ⟨xzz, t1zz, t2zz, hVzz, hOzz⟩ := hRzz; subst hVzz hOzz; (try (have n1zz := hUzz _ (.head _) _ (.head _); have m1zz := Ne.symm n1zz; dsimp only at n1zz m1zz)); (try (have n2zz := hUzz _ (.head _) _ (.tail _ (.head _)); have m2zz := Ne.symm n2zz; dsimp only at n2zz m2zz)); (try (have n3zz := hUzz _ (.head _) _ (.tail _ (.tail _ (.head _))); have m3zz := Ne.symm n3zz; dsimp only at n3zz m3zz)); clear hUzz; (try simp only [List.singleton_append] at Nzz))); (try dsimp only)) | walk1 | (dsimp only; walk1))) | (leave1; walk_say "STEP leave1"; try dsimp only)))
          rename Fr _ _ _ _ => fE
          rename News _ _ _ _ => nE
          rename KBw.bInts _ = List.take _ _ => hA
          refine' ksw_end (((e : Int), _), ((e : Int), _), [.ref _, .ref _], _, [(_, _), (_, _)]) fE nE (mem_three (.tail _ (.tail _ (.tail _ (.head _)))) (.tail _ (.head _)) (.head _)) trivial ?b ?c ⟨e, rfl, .one (Nat.le_refl _) hel ⟨_, _, rfl, hA.trans (cut_to ks j)⟩⟩ ?h
          case b =>
            intro q hq
            rcases List.mem_cons.mp hq with hq | hq
            · rw [hq]; rfl
            · rw [List.mem_singleton.mp hq]; rfl
          case c =>
            intro z h2 h3
            have h2a := h2 _ (.head _)
            have h2b := h2 _ (.tail _ (.head _))
            have h3' : z ≠ Str.ofString "found" := by simpa using h3
            simp [h2a, h2b, h3', kstB]
          case h => first | exact meas_1 (by assumption) | exact meas_i (by assumption) | exact meas_e (by assumption) (by assumption) | exact meas_p 0 (by assumption) | exact meas_p 2 (by assumption) | (dsimp only; omega)
        · exfalso
          rename _ ≠ (61 : Int) => h61
          rw [e0] at h61
          exact h61 h61p
    · have hWj : ks.getD j 0 = 61 → WordIs ks j none := fun h => hW j hlt h (by cases hph <;> omega)
      have hph' : Phase ks ys p e (j + 1) bg vs objs := by
        cases hph with
        | zero h => exact .zero (by omega)
        | one h1 h2 h3 => exact .one (by omega) (by omega) h3
      (repeat' (first | (k_unfold; (try dsimp only)) | ((fail_if_success (with_reducible show KswEnd _ _ _ _ _ _ _ _ _ _ _ _)); (fail_if_success (with_reducible show InvEndN _ _ _ _ _ _ _)); (fail_if_success (with_reducible show wpAny _ _ (exec (Stmt.While _ _ _ _) _) _ _ _)); (fail_if_success (with_reducible show wpAny _ _ (exec (Stmt.For _ _ _ _ _) _) _ _ _)); (fail_if_success (with_reducible show wpAny _ _ (exec (Stmt.Assign _ (PySem.Expr.ListComp _ _ _ _) _) _) _ _ _)); (fail_if_success (with_reducible show wpAny _ _ (eval (PySem.Expr.ListComp _ _ _ _) _) _ _ _)); (first | (k_here; (with_reducible show wpAny _ _ (call (Value.ref 232) [Value.bytes _ _, Value.int _ _] _) _ _ _); k_dflt (refine' PC.use (word_at_ok _ _ (by assumption) (by assumption) _ (by assumption) _ _ _ (by assumption)) ?zh35632k1 ?zh35632k2 ?zh35632k3 ?zh35632k4 ?zh35632k5 ?zh35632kK ?zh35632kd ?zh35632ku ?_); (( (case zh35632k1 => k_asm); (case zh35632k2 => k_asm); (case zh35632k3 => k_asm); (case zh35632k4 => k_asm); (case zh35632k5 => k_asm); (case zh35632kK => first | exact rfl | assumption); (case zh35632kd => (first | exact room_1 hd rfl | exact room_0 hd | ktr_room)); (case zh35632ku => (first | exact unit_3 hu rfl | ktr_units)))); intro vzz ownzz hzz tkzz hRzz hKzz Fzz Nzz hUzz; clear hKzz; (first | (obtain ⟨hVzz, hOzz⟩ := (hRzz : _ = Value.none ∧ _ = []); subst hOzz hVzz; clear hUzz; (try simp only [List.nil_append] at Nzz)) | (obtain ⟨xzz, t1zz, t2zz, hVzz, hOzz⟩ := hRzz; subst hVzz hOzz; (try (have n1zz := hUzz _ (.head _) _ (.head _); have m1zz := Ne.symm n1zz; dsimp only at n1zz m1zz)); (try (have n2zz := hUzz _ (.head _) _ (.tail _ (.head _)); have m2zz := Ne.symm n2zz; dsimp only at n2zz m2zz)); (try (have n3zz := hUzz _ (.head _) _ (.tail _ (.tail _ (.head _))); have m3zz := Ne.symm n3zz; dsimp only at n3zz m3zz)); clear hUzz; (try simp only [List.singleton_append] at Nzz))); (try dsimp only)) | walk1 | (dsimp only; walk1))) | (leave1; walk_say "STEP leave1"; try dsimp only)))
      · rename _ = (61 : Int) => h61
        rw [e0] at h61
        have hWj := hWj h61
        (repeat' (first | (k_unfold; (try dsimp only)) | ((fail_if_success (with_reducible show KswEnd _ _ _ _ _ _ _ _ _ _ _ _)); (fail_if_success (with_reducible show InvEndN _ _ _ _ _ _ _)); (fail_if_success (with_reducible show wpAny _ _ (exec (Stmt.While _ _ _ _) _) _ _ _)); (fail_if_success (with_reducible show wpAny _ _ (exec (Stmt.For _ _ _ _ _) _) _ _ _)); (fail_if_success (with_reducible show wpAny _ _ (exec (Stmt.Assign _ (PySem.Expr.ListComp _ _ _ _) _) _) _ _ _)); (fail_if_success (with_reducible show wpAny _ _ (eval (PySem.Expr.ListComp _ _ _ _) _) _ _ _)); (first | (k_here; (with_reducible show wpAny _ _ (call (Value.ref 232) [Value.bytes _ _, Value.int _ _] _) _ _ _); k_dflt (refine' PC.use (word_at_ok _ _ (by assumption) (by assumption) _ (by assumption) _ _ _ (by assumption)) ?zh35632k1 ?zh35632k2 ?zh35632k3 ?zh35632k4 ?zh35632k5 ?zh35632kK ?zh35632kd ?zh35632ku ?_); (( (case zh35632k1 => k_asm); (case zh35632k2 => k_asm); (case zh35632k3 => k_asm); (case zh35632k4 => k_asm); (case zh35632k5 => k_asm); (case zh35632kK => first | exact rfl | assumption); (case zh35632kd => (first | exact room_1 hd rfl | exact room_0 hd | ktr_room)); (case zh35632ku => (first | exact unit_3 hu rfl | ktr_units)))); intro vzz ownzz hzz tkzz hRzz hKzz Fzz Nzz hUzz; clear hKzz; (first | (obtain ⟨hVzz, hOzz⟩ := (hRzz : _ = Value.none ∧ _ = []); subst hOzz hVzz; clear hUzz; (try simp only [List.nil_append] at Nzz)) | (obtain ⟨xzz, t1zz, t2zz, hVzz, hOzz⟩ := hRzz; subst hVzz hOzz; (try (have n1zz := hUzz _ (.head _) _ (.head _); have m1zz := Ne.symm n1zz; dsimp only at n1zz m1zz)); (try (have n2zz := hUzz _ (.head _) _ (.tail _ (.head _)); have m2zz := Ne.symm n2zz; dsimp only at n2zz m2zz)); (try (have n3zz := hUzz _ (.head _) _ (.tail _ (.tail _ (.head _))); have m3zz := Ne.symm n3zz; dsimp only at n3zz m3zz)); clear hUzz; (try simp only [List.singleton_append] at Nzz))); (try dsimp only)) | walk1 | (dsimp only; walk1))) | (leave1; walk_say "STEP leave1"; try dsimp only)))
        rename Fr _ _ _ _ => fE
        rename News _ _ _ _ => nE
        refine' ksw_end (((j : Int) + 1, _), (bg, tb), vs, nn, objs) fE nE ?a trivial ?b ?c ⟨j + 1, by simp, hph'⟩ ?h
        case a => first | exact fun p hp => hp | exact fun p hp => .tail _ hp
        case b =>
          intro q hq
          rcases List.mem_cons.mp hq with hq | hq
          · rw [hq]; rfl
          · rw [List.mem_singleton.mp hq]; rfl
        case c =>
          intro z h2 h3
          have h2a := h2 _ (.head _)
          have h2b := h2 _ (.tail _ (.head _))
          have h3' : z ≠ Str.ofString "found" := by simpa using h3
          simp [h2a, h2b, h3', kstB]
        case h => first | exact meas_1 (by assumption) | exact meas_i (by assumption) | exact meas_e (by assumption) (by assumption) | exact meas_p 0 (by assumption) | exact meas_p 2 (by assumption) | (dsimp only; omega)
      · rename Fr _ _ _ _ => fE
        rename News _ _ _ _ => nE
        refine' ksw_end (((j : Int) + 1, _), (bg, tb), vs, nn, objs) fE nE ?a trivial ?b ?c ⟨j + 1, by simp, hph'⟩ ?h
        case a => first | exact fun p hp => hp | exact fun p hp => .tail _ hp
        case b =>
          intro q hq
          rcases List.mem_cons.mp hq with hq | hq
          · rw [hq]; rfl
          · rw [List.mem_singleton.mp hq]; rfl
        case c =>
          intro z h2 h3
          have h2a := h2 _ (.head _)
          have h2b := h2 _ (.tail _ (.head _))
          have h3' : z ≠ Str.ofString "found" := by simpa using h3
          simp [h2a, h2b, h3', kstB]
        case h => first | exact meas_1 (by assumption) | exact meas_i (by assumption) | exact meas_e (by assumption) (by assumption) | exact meas_p 0 (by assumption) | exact meas_p 2 (by assumption) | (dsimp only; omega)
  · have hlt' : ¬ (j : Int) < (ks.length : Int) := by omega
    cases hph with
    | zero h => omega
    | one h1 h2 h3 =>
      (repeat' (first | (k_unfold; (try dsimp only)) | ((fail_if_success (with_reducible show KswEnd _ _ _ _ _ _ _ _ _ _ _ _)); (fail_if_success (with_reducible show InvEndN _ _ _ _ _ _ _)); (fail_if_success (with_reducible show wpAny _ _ (exec (Stmt.While _ _ _ _) _) _ _ _)); (fail_if_success (with_reducible show wpAny _ _ (exec (Stmt.For _ _ _ _ _) _) _ _ _)); (fail_if_success (with_reducible show wpAny _ _ (exec (Stmt.Assign _ (PySem.Expr.ListComp _ _ _ _) _) _) _ _ _)); (fail_if_success (with_reducible show wpAny _ _ (eval (PySem.Expr.ListComp _ _ _ _) _) _ _ _)); (first | (k_here; (with_reducible show wpAny _ _ (call (Value.ref 232) [Value.bytes _ _, Value.int _ _] _) _ _ _); k_dflt (refine' PC.use (word_at_ok _ _ (by assumption) (by assumption) _ (by assumption) _ _ _ (by assumption)) ?zh35632k1 ?zh35632k2 ?zh35632k3 ?zh35632k4 ?zh35632k5 ?zh35632kK ?zh35632kd ?zh35632ku ?_); (( (case zh35632k1 => k_asm); (case zh35632k2 => k_asm); (case zh35632k3 => k_asm); (case zh35632k4 => k_asm); (case zh35632k5 => k_asm); (case zh35632kK => first | exact rfl | assumption); (case zh35632kd => (first | exact room_1 hd rfl | exact room_0 hd | ktr_room)); (case zh35632ku => (first | exact unit_3 hu rfl | ktr_units)))); intro vzz ownzz hzz tkzz hRzz hKzz Fzz Nzz hUzz; clear hKzz; (first | (obtain ⟨hVzz, hOzz⟩ := (hRzz : _ = Value.none ∧ _ = []); subst hOzz hVzz; clear hUzz; (try simp only [List.nil_append] at Nzz)) | (obtain ⟨xzz, t1zz, t2zz, hVzz, hOzz⟩ := hRzz; subst hVzz hOzz; (try (have n1zz := hUzz _ (.head _) _ (.head _); have m1zz := Ne.symm n1zz; dsimp only at n1zz m1zz)); (try (have n2zz := hUzz _ (.head _) _ (.tail _ (.head _)); have m2zz := Ne.symm n2zz; dsimp only at n2zz m2zz)); (try (have n3zz := hUzz _ (.head _) _ (.tail _ (.tail _ (.head _))); have m3zz := Ne.symm n3zz; dsimp only at n3zz m3zz)); clear hUzz; (try simp only [List.singleton_append] at Nzz))); (try dsimp only)) | walk1 | (dsimp only; walk1))) | (leave1; walk_say "STEP leave1"; try dsimp only)))
      rename KBw.bInts _ = List.take _ _ => hA
      refine' ret_own [_, _, _, _] hret (by assumption) ⟨_, _, _, _, _, _, _, _, rfl, rfl, h3, ⟨_, _, rfl, ?pk⟩⟩ (by assumption) (by assumption) (by assumption) (by assumption) (mem_four (.head _) (.tail _ (.tail _ (.tail _ (.tail _ (.head _))))) (.tail _ (.tail _ (.tail _ (.tail _ (.tail _ (.head _)))))) (.tail _ (.tail _ (.head _))))
      case pk => exact hA.trans (cut_from ks e hel)
theorem mul_ok64 {a b : Int} (ha : a.natAbs < 2 ^ 64) : IntMulOk a b := IntMulOk.of_left (PyProof.Rows.intBits_le ha)
theorem gen_fmod {g h : Heap} {L : Addr} {x : Str} {X M : Int} {t : Tok} {m : Str → Option Value} (F : Fr g L h (fun y => if y = x then some (.int (X.fmod M) t) else m y)) (hM : 0 < M) : ∃ st, 0 ≤ st ∧ st < M ∧ Fr g L h (fun y => if y = x then some (.int st t) else m y) :=
  ⟨_, Int.fmod_nonneg_of_pos _ hM, Int.fmod_lt_of_pos _ hM, F⟩
theorem lm_one {α : Type} {a : α} {l : List α} (h : a ∈ l) : ∀ p ∈ [a], p ∈ l := fun p hp => by rw [List.mem_singleton.mp hp]; exact h
theorem lm_two {α : Type} {a b : α} {l : List α} (h : a ∈ l) (g : b ∈ l) : ∀ p ∈ [a, b], p ∈ l := fun p hp => (List.mem_cons.mp hp).elim (fun e => e ▸ h) fun hp => (List.mem_singleton.mp hp) ▸ g
/-- a pen: the script's first cells, a spot, what is left of a great cell -/
def PenR (cs : List Int) (spot great : Int) (v : Value) (own : List (Addr × Obj)) : Prop := ∃ x D vs n t u, v = .ref x ∧ own = [(x, W.listOf #[.ref D, .int spot t, .int great u] n), (D, LCg.lst vs)] ∧ IntsAre vs cs ∧ D ≠ x
set_option maxHeartbeats 1000000 in
theorem law_pen_ok (x : Addr) (vs : List Value) (ns : List Int) (hvs : IntsAre vs ns) (hn : ns.length ≤ 63) : PCp 2 244 [.ref x] (fun h => h.IsList x vs.toArray) (PenR (ns.take 40) 0 0) := by
  unfold PCp
  k_fill
  intro w mean mg mb dp un gd cn cs a ccd cl outer A₀ base h₀ L m s Q E B F X T hcs hd hu hP hret
  (k_dflt (refine' enter ?zh1365k1 ?zh1365k2 ?zh1365k3 ?zh1365k5 ?zh1365kA ?zh1365kF ?zh1365kK ?zh1365k6 ?zh1365k7 ?zh1365k8 ?zh1365k9 ?zh1365kB ?_ ?zh1365c2 ?zh1365c3 ?zh1365c4 ?zh1365c5; (case zh1365kA => exact rfl); (case zh1365kF => exact rfl); (case zh1365kK => first | assumption | exact rfl); (case zh1365k1 => k_asm); (case zh1365k2 => k_asm); (case zh1365k3 => k_asm); (case zh1365k5 => k_asm); (case zh1365k6 => k_is); (case zh1365k7 => k_is); (case zh1365k8 => (first | exact room_1 hd rfl | exact room_0 hd | ktr_room)); (case zh1365k9 => exact BindsTo.of_eq rfl); (case zh1365c5 => decide); (case zh1365kB => exact locs rfl); (case zh1365c2 => exact rfl); (case zh1365c3 => exact rfl); (case zh1365c4 => exact rfl); k_whole; intro gzz Lzz hzz hgzz FGzz Fzz Nzz Bzz Xzz Tzz; (try dsimp only); (try k_lift Bzz); (try (show wpAny _ _ _ _ _ _)); (try k_fold)))
  have hl : Heap.IsList _ x vs.toArray := hP.at fun o e => (by assumption : Kept s.heap _) _ o e
  clear hP
  (repeat' (first | (k_unfold; (try dsimp only)) | ((fail_if_success (with_reducible show KswEnd _ _ _ _ _ _ _ _ _ _ _ _)); (fail_if_success (with_reducible show InvEndN _ _ _ _ _ _ _)); (fail_if_success (with_reducible show wpAny _ _ (exec (Stmt.While _ _ _ _) _) _ _ _)); (fail_if_success (with_reducible show wpAny _ _ (exec (Stmt.For _ _ _ _ _) _) _ _ _)); (fail_if_success (with_reducible show wpAny _ _ (exec (Stmt.Assign _ (PySem.Expr.ListComp _ _ _ _) _) _) _ _ _)); (fail_if_success (with_reducible show wpAny _ _ (eval (PySem.Expr.ListComp _ _ _ _) _) _ _ _)); (first | walk1 | (dsimp only; walk1))) | (leave1; walk_say "STEP leave1"; try dsimp only)))
  k_dflt (refine LCg.ListComp_U (F₀ := by k_asm) (by with_unfolding_all rfl) (by decide) (by rfl) (by decide) (by rfl) ?_)
  (repeat' (first | (k_unfold; (try dsimp only)) | ((fail_if_success (with_reducible show KswEnd _ _ _ _ _ _ _ _ _ _ _ _)); (fail_if_success (with_reducible show InvEndN _ _ _ _ _ _ _)); (fail_if_success (with_reducible show wpAny _ _ (exec (Stmt.While _ _ _ _) _) _ _ _)); (fail_if_success (with_reducible show wpAny _ _ (exec (Stmt.For _ _ _ _ _) _) _ _ _)); (fail_if_success (with_reducible show wpAny _ _ (exec (Stmt.Assign _ (PySem.Expr.ListComp _ _ _ _) _) _) _ _ _)); (fail_if_success (with_reducible show wpAny _ _ (eval (PySem.Expr.ListComp _ _ _ _) _) _ _ _)); (first | walk1 | (dsimp only; walk1))) | (leave1; walk_say "STEP leave1"; try dsimp only)))
  rename IntsAre _ (List.map _ _) => hI8
  rw [List.map_id'] at hI8
  exact ret_own [_, _] hret (by assumption) ⟨_, _, _, _, _, _, rfl, rfl, hI8, by rename _ < _ ∧ _ < _ => hlt; exact Nat.ne_of_lt hlt.1⟩ (by assumption) (by assumption) (by assumption) (by assumption) (lm_two (.head _) (.tail _ (.head _)))

def JoinInt (g : Heap) (L : Addr) (m : Str → Option Value) (x : Str) (keep : List (Addr × Obj)) (s : Shared) (f : Flow) (s' : Shared) : Prop := f = .next ∧ ∃ c tc h' tk', s' = { s with heap := h', toks := tk' } ∧ Fr g L h' (fun y => if y = x then some (.int c tc) else m y) ∧ News g L h' keep
theorem join_int {prog : Program} {w : World} {A : Around} {E : Value → Shared → Prop} {Q : Flow → Shared → Prop} {s : Shared} {g : Heap} {L : Addr} {tree : Sem Flow} {x : Str} {c0 : Int} {t0 : Tok} {m : Str → Option Value} {nl keep : List (Addr × Obj)} (_F : Fr g L s.heap (fun y => if y = x then some (.int c0 t0) else m y)) (_N : News g L s.heap nl) (_hk : ∀ p ∈ keep, p ∈ nl)
    (first : wpAny (model prog w) A tree (JoinInt g L m x keep s) E s)
    (rest : ∀ c tc h' tk', Fr g L h' (fun y => if y = x then some (.int c tc) else m y) → News g L h' keep → Q .next { s with heap := h', toks := tk' }) : wpAny (model prog w) A tree Q E s :=
  wpAny_mono first (fun f s' h => by
    obtain ⟨rfl, c, tc, h', tk', rfl, F, N⟩ := h
    exact rest c tc h' tk' F N) fun _ _ h => h
theorem JoinInt.mk {g : Heap} {L : Addr} {m : Str → Option Value} {x : Str} {keep nl : List (Addr × Obj)} {s : Shared} {h' : Heap} {tk' : Nat} {c : Int} {tc : Tok} (F : Fr g L h' (fun y => if y = x then some (.int c tc) else m y)) (N : News g L h' nl) (hk : ∀ p ∈ keep, p ∈ nl) : JoinInt g L m x keep s .next { s with heap := h', toks := tk' } :=
  ⟨rfl, c, tc, h', tk', rfl, F, fun p hp => N p (hk p hp)⟩
theorem map_twice {x : Str} {v u1 : Option Value} {m₀ : Str → Option Value} : (fun y => if y = x then v else if y = x then u1 else m₀ y) = fun z => if z = x then v else m₀ z := by
  funext z
  by_cases h : z = x
  · rw [if_pos h, if_pos h]
  · rw [if_neg h, if_neg h, if_neg h]
def JoinOr (g : Heap) (L : Addr) (m : Str → Option Value) (x : Str) (keep : List (Addr × Obj)) (s : Shared) (Q : Flow → Shared → Prop) (f : Flow) (s' : Shared) : Prop := JoinInt g L m x keep s f s' ∨ Q f s'
theorem join_or {prog : Program} {w : World} {A : Around} {E : Value → Shared → Prop} {Q : Flow → Shared → Prop} {s : Shared} {g : Heap} {L : Addr} {tree : Sem Flow} {x : Str} {c0 : Int} {t0 : Tok} {m : Str → Option Value} {nl keep : List (Addr × Obj)} (_F : Fr g L s.heap (fun y => if y = x then some (.int c0 t0) else m y)) (_N : News g L s.heap nl) (_hk : ∀ p ∈ keep, p ∈ nl)
    (first : wpAny (model prog w) A tree (JoinOr g L m x keep s Q) E s)
    (rest : ∀ c tc h' tk', Fr g L h' (fun y => if y = x then some (.int c tc) else m y) → News g L h' keep → Q .next { s with heap := h', toks := tk' }) : wpAny (model prog w) A tree Q E s :=
  wpAny_mono first (fun f s' h => by
    rcases h with h | h
    · obtain ⟨rfl, c, tc, h', tk', rfl, F, N⟩ := h
      exact rest c tc h' tk' F N
    · exact h) fun _ _ h => h
/-- one draw: from the pen's spot and what is left to a digit, a spot, what is left -/
inductive Drawn (many : Int) : Int → Prop
  | mk {d : Int} : 0 ≤ d → d < many → Drawn many d
def PenO (D : Addr) (spot great : Int) (o : Obj) : Prop := ∃ t u n, o = W.listOf #[.ref D, .int spot t, .int great u] n
inductive DrawR (many spot : Int) (D : Addr) (px : Obj) : Value → List (Addr × Obj) → Prop
  | mk (d : Int) (tv : Tok) (s' g' : Int) : Drawn many d → spot ≤ s' → s' ≤ spot + 1 → 0 ≤ g' → PenO D s' g' px → DrawR many spot D px (.int d tv) []
set_option maxHeartbeats 2000000 in
theorem law_draw_ok (x D : Addr) (hxD : D ≠ x) (vs : List Value) (ns : List Int) (hvs : IntsAre vs ns) (hn : ns.length ≤ 40) (spot great many : Int) (h0 : 0 ≤ spot) (h1 : spot ≤ 30) (hg : 0 ≤ great) (hm0 : 0 < many) (hm1 : many ≤ 64) (t u : Tok) (n : Nat) (tm : Tok) :
    PM 16 251 [.ref x, .int many tm] x (W.listOf #[.ref D, .int spot t, .int great u] n) (fun h => h.IsList D vs.toArray) (fun v own px => DrawR many spot D px v own) := by
  unfold PM
  k_fill
  intro w mean mg mb dp un gd cn cs a ccd cl outer A₀ base h₀ L m s Q E B F X T hcs hd hu hP N hret
  (k_dflt (refine' enterM ?zh61317k1 ?zh61317k2 ?zh61317k3 ?zh61317k5 ?zh61317kN ?zh61317kA ?zh61317kF ?zh61317kK ?zh61317k6 ?zh61317k7 ?zh61317k8 ?zh61317k9 ?zh61317kB ?_ ?zh61317c2 ?zh61317c3 ?zh61317c4 ?zh61317c5; (case zh61317kA => exact rfl); (case zh61317kF => exact rfl); (case zh61317kK => first | assumption | exact rfl); (case zh61317k1 => k_asm); (case zh61317k2 => k_asm); (case zh61317k3 => k_asm); (case zh61317k5 => k_asm); (case zh61317kN => k_asm); (case zh61317k6 => k_is); (case zh61317k7 => k_is); (case zh61317k8 => (first | exact room_1 hd rfl | exact room_0 hd | ktr_room)); (case zh61317k9 => exact BindsTo.of_eq rfl); (case zh61317c5 => decide); (case zh61317kB => exact locs rfl); (case zh61317c2 => exact rfl); (case zh61317c3 => exact rfl); (case zh61317c4 => exact rfl); k_whole; intro gzz Lzz hzz hgzz FGzz Fzz Nzz Bzz Xzz Tzz; (try dsimp only); (try k_lift Bzz); (try (show wpAny _ _ _ _ _ _)); (try k_fold)))
  have hl : Heap.IsList _ D vs.toArray := hP.at fun o e => (by assumption : KeptBut x s.heap _) D o hxD e
  clear hP
  (repeat' (first | (k_unfold; (try dsimp only)) | ((fail_if_success (with_reducible show wpAny _ _ (compareOp CmpOp.NotEq (Value.ref _) (Value.ref _)) _ _ _)); (fail_if_success (with_reducible show wpAny _ _ (exec (Stmt.If _ _ _ _) _) _ _ _)); (first | (k_here; with_reducible refine pow_int_small (by decide) (by decide) (by omega) ?_) | (k_here; with_reducible refine mul_int ?_ (mul_ok64 (by omega))) | walk1 | (dsimp only; walk1))) | (leave1; walk_say "STEP leave1"; try dsimp only)))
  by_cases hg0 : 0 < great
  · (repeat' (first | (k_unfold; (try dsimp only)) | ((fail_if_success (with_reducible show KswEnd _ _ _ _ _ _ _ _ _ _ _ _)); (fail_if_success (with_reducible show InvEndN _ _ _ _ _ _ _)); (fail_if_success (with_reducible show wpAny _ _ (exec (Stmt.While _ _ _ _) _) _ _ _)); (fail_if_success (with_reducible show wpAny _ _ (exec (Stmt.For _ _ _ _ _) _) _ _ _)); (fail_if_success (with_reducible show wpAny _ _ (exec (Stmt.Assign _ (PySem.Expr.ListComp _ _ _ _) _) _) _ _ _)); (fail_if_success (with_reducible show wpAny _ _ (eval (PySem.Expr.ListComp _ _ _ _) _) _ _ _)); (first | (k_here; with_reducible refine pow_int_small (by decide) (by decide) (by omega) ?_) | (k_here; with_reducible refine mul_int ?_ (mul_ok64 (by omega))) | walk1 | (dsimp only; walk1))) | (leave1; walk_say "STEP leave1"; try dsimp only)))
    exact ret_mut [] hret (by assumption) (.mk _ _ _ _ (.mk (Int.fmod_nonneg_of_pos _ hm0) (Int.fmod_lt_of_pos _ hm0)) (Int.le_refl _) (Int.le_add_one (Int.le_refl _)) (Int.fdiv_nonneg hg (Int.le_of_lt hm0)) ⟨_, _, _, rfl⟩) (by assumption) (by assumption) (by assumption) (by assumption) (by first | exact .head _ | exact .tail _ (.head _) | exact .tail _ (.tail _ (.head _))) (fun _ h => nomatch h) (fun _ h => nomatch h)
  walk1
  (repeat' (first | (k_unfold; (try dsimp only)) | ((fail_if_success (with_reducible show wpAny _ _ (compareOp CmpOp.NotEq (Value.ref _) (Value.ref _)) _ _ _)); (fail_if_success (with_reducible show wpAny _ _ (exec (Stmt.If _ _ _ _) _) _ _ _)); (first | (k_here; with_reducible refine pow_int_small (by decide) (by decide) (by omega) ?_) | (k_here; with_reducible refine mul_int ?_ (mul_ok64 (by omega))) | walk1 | (dsimp only; walk1))) | (leave1; walk_say "STEP leave1"; try dsimp only)))
  rename Fr _ _ _ _ => fC
  rename News _ _ _ _ => nC
  refine join_int (x := Str.ofString "cell") fC nC (lm_one (.tail _ (.head _))) ?join ?rest
  case join =>
    generalize 20947 * spot + 3571 + (List.take 1 ns).sum.fmod 1000003 = c0 at fC
    walk1
    (repeat' (first | (k_unfold; (try dsimp only)) | ((fail_if_success (with_reducible show wpAny _ _ (compareOp CmpOp.NotEq (Value.ref _) (Value.ref _)) _ _ _)); (fail_if_success (with_reducible show wpAny _ _ (exec (Stmt.If _ _ _ _) _) _ _ _)); (first | (k_here; with_reducible refine pow_int_small (by decide) (by decide) (by omega) ?_) | (k_here; with_reducible refine mul_int ?_ (mul_ok64 (by omega))) | walk1 | (dsimp only; walk1))) | (leave1; walk_say "STEP leave1"; try dsimp only)))
    k_dflt (refine' ne_intsK (a := D) (ns := ns) (ms := []) ?k1 hvs ?k3 .nil ?k5 ?_; (case k1 => is_list); (case k3 => is_list); (case k5 => (first | exact unit_3 hu rfl | ktr_units)))
    by_cases hnil : ns = []
    · subst hnil
      (repeat' (first | (k_unfold; (try dsimp only)) | ((fail_if_success (with_reducible show KswEnd _ _ _ _ _ _ _ _ _ _ _ _)); (fail_if_success (with_reducible show InvEndN _ _ _ _ _ _ _)); (fail_if_success (with_reducible show wpAny _ _ (exec (Stmt.While _ _ _ _) _) _ _ _)); (fail_if_success (with_reducible show wpAny _ _ (exec (Stmt.For _ _ _ _ _) _) _ _ _)); (fail_if_success (with_reducible show wpAny _ _ (exec (Stmt.Assign _ (PySem.Expr.ListComp _ _ _ _) _) _) _ _ _)); (fail_if_success (with_reducible show wpAny _ _ (eval (PySem.Expr.ListComp _ _ _ _) _) _ _ _)); (first | (k_here; with_reducible refine pow_int_small (by decide) (by decide) (by omega) ?_) | (k_here; with_reducible refine mul_int ?_ (mul_ok64 (by omega))) | walk1 | (dsimp only; walk1))) | (leave1; walk_say "STEP leave1"; try dsimp only)))
      exact JoinInt.mk (by assumption) (by assumption) (by first | exact lm_one (.head _) | exact lm_one (.tail _ (.head _)) | exact lm_one (.tail _ (.tail _ (.head _))))
    · have hpos : 0 < ns.length := List.length_pos_iff.mpr hnil
      (repeat' (first | (k_unfold; (try dsimp only)) | ((fail_if_success (with_reducible show KswEnd _ _ _ _ _ _ _ _ _ _ _ _)); (fail_if_success (with_reducible show InvEndN _ _ _ _ _ _ _)); (fail_if_success (with_reducible show wpAny _ _ (exec (Stmt.While _ _ _ _) _) _ _ _)); (fail_if_success (with_reducible show wpAny _ _ (exec (Stmt.For _ _ _ _ _) _) _ _ _)); (fail_if_success (with_reducible show wpAny _ _ (exec (Stmt.Assign _ (PySem.Expr.ListComp _ _ _ _) _) _) _ _ _)); (fail_if_success (with_reducible show wpAny _ _ (eval (PySem.Expr.ListComp _ _ _ _) _) _ _ _)); (first | (k_here; with_reducible refine pow_int_small (by decide) (by decide) (by omega) ?_) | (k_here; with_reducible refine mul_int ?_ (mul_ok64 (by omega))) | walk1 | (dsimp only; walk1))) | (leave1; walk_say "STEP leave1"; try dsimp only)))
      rename Fr _ _ _ _ => fE
      rw [map_twice] at fE
      exact JoinInt.mk fE (by assumption) (by first | exact lm_one (.head _) | exact lm_one (.tail _ (.head _)) | exact lm_one (.tail _ (.tail _ (.head _))))
  case rest =>
    clear fC nC
    intro c tc h tk fC nC
    have hcm0 : 0 ≤ c.fmod 2147483587 := Int.fmod_nonneg_of_pos _ (by decide)
    have hcm1 : c.fmod 2147483587 < 2147483587 := Int.fmod_lt_of_pos _ (by decide)
    show wpAny _ _ _ _ _ _
    (repeat' (first | (k_unfold; (try dsimp only)) | ((fail_if_success (with_reducible show wpAny _ _ (compareOp CmpOp.NotEq (Value.ref _) (Value.ref _)) _ _ _)); (fail_if_success (with_reducible show wpAny _ _ (exec (Stmt.If _ _ _ _) _) _ _ _)); (first | (k_here; with_reducible refine pow_int_small (by decide) (by decide) (by omega) ?_) | (k_here; with_reducible refine mul_int ?_ (mul_ok64 (by omega))) | walk1 | (dsimp only; walk1))) | (leave1; walk_say "STEP leave1"; try dsimp only)))
    refine join_or (x := Str.ofString "cell") fC nC (lm_one (.head _)) ?join2 ?rest2
    case join2 =>
      clear hcm0 hcm1
      walk1
      (repeat' (first | (k_unfold; (try dsimp only)) | ((fail_if_success (with_reducible show KswEnd _ _ _ _ _ _ _ _ _ _ _ _)); (fail_if_success (with_reducible show InvEndN _ _ _ _ _ _ _)); (fail_if_success (with_reducible show wpAny _ _ (exec (Stmt.While _ _ _ _) _) _ _ _)); (fail_if_success (with_reducible show wpAny _ _ (exec (Stmt.For _ _ _ _ _) _) _ _ _)); (fail_if_success (with_reducible show wpAny _ _ (exec (Stmt.Assign _ (PySem.Expr.ListComp _ _ _ _) _) _) _ _ _)); (fail_if_success (with_reducible show wpAny _ _ (eval (PySem.Expr.ListComp _ _ _ _) _) _ _ _)); (first | (k_here; with_reducible refine pow_int_small (by decide) (by decide) (by omega) ?_) | (k_here; with_reducible refine mul_int ?_ (mul_ok64 (by omega))) | walk1 | (dsimp only; walk1))) | (leave1; walk_say "STEP leave1"; try dsimp only)))
      · rename _ ≤ ite _ _ _ => hbig
        refine Or.inr ?_
        dsimp only
        (repeat' (first | (k_unfold; (try dsimp only)) | ((fail_if_success (with_reducible show KswEnd _ _ _ _ _ _ _ _ _ _ _ _)); (fail_if_success (with_reducible show InvEndN _ _ _ _ _ _ _)); (fail_if_success (with_reducible show wpAny _ _ (exec (Stmt.While _ _ _ _) _) _ _ _)); (fail_if_success (with_reducible show wpAny _ _ (exec (Stmt.For _ _ _ _ _) _) _ _ _)); (fail_if_success (with_reducible show wpAny _ _ (exec (Stmt.Assign _ (PySem.Expr.ListComp _ _ _ _) _) _) _ _ _)); (fail_if_success (with_reducible show wpAny _ _ (eval (PySem.Expr.ListComp _ _ _ _) _) _ _ _)); (first | (k_here; with_reducible refine pow_int_small (by decide) (by decide) (by omega) ?_) | (k_here; with_reducible refine mul_int ?_ (mul_ok64 (by omega))) | walk1 | (dsimp only; walk1))) | (leave1; walk_say "STEP leave1"; try dsimp only)))
        refine ret_mut [] hret (by assumption) (.mk _ _ _ _ (.mk (Int.fmod_nonneg_of_pos _ hm0) (Int.fmod_lt_of_pos _ hm0)) (Int.le_add_one (Int.le_refl _)) (Int.le_refl _) ?great ⟨_, _, _, rfl⟩) (by assumption) (by assumption) (by assumption) (by assumption) (by first | exact .head _ | exact .tail _ (.head _) | exact .tail _ (.tail _ (.head _))) (fun _ h => nomatch h) (fun _ h => nomatch h)
        case great =>
          refine Int.fdiv_nonneg ?_ (Int.le_of_lt hm0)
          refine Int.add_nonneg (Int.mul_nonneg (by decide) (Int.sub_nonneg_of_le hbig)) ?_
          split <;> decide
      all_goals exact Or.inl (JoinInt.mk (by assumption) (by assumption) (by first | exact lm_one (.head _) | exact lm_one (.tail _ (.head _)) | exact lm_one (.tail _ (.tail _ (.head _)))))
    case rest2 =>
      clear hcm0 hcm1 fC nC
      intro c tc h tk fC nC
      have hcm0 : 0 ≤ c.fmod 2147483587 := Int.fmod_nonneg_of_pos _ (by decide)
      have hcm1 : c.fmod 2147483587 < 2147483587 := Int.fmod_lt_of_pos _ (by decide)
      show wpAny _ _ _ _ _ _
      (repeat' (first | (k_unfold; (try dsimp only)) | ((fail_if_success (with_reducible show wpAny _ _ (exec (Stmt.Assign _ _ _) _) _ _ _)); (fail_if_success (with_reducible show wpAny _ _ (exec (Stmt.If _ _ _ _) _) _ _ _)); (first | (k_here; with_reducible refine pow_int_small (by decide) (by decide) (by omega) ?_) | (k_here; with_reducible refine mul_int ?_ (mul_ok64 (by omega))) | walk1 | (dsimp only; walk1))) | (leave1; walk_say "STEP leave1"; try dsimp only)))
      walk1
      (repeat' (first | (k_unfold; (try dsimp only)) | ((fail_if_success (with_reducible show wpAny _ _ (exec (Stmt.Assign _ _ _) _) _ _ _)); (fail_if_success (with_reducible show wpAny _ _ (exec (Stmt.If _ _ _ _) _) _ _ _)); (first | (k_here; with_reducible refine pow_int_small (by decide) (by decide) (by omega) ?_) | (k_here; with_reducible refine mul_int ?_ (mul_ok64 (by omega))) | walk1 | (dsimp only; walk1))) | (leave1; walk_say "STEP leave1"; try dsimp only)))
      rename Fr _ _ _ _ => fS
      obtain ⟨st, hst0, hst1, fS2⟩ := gen_fmod fS (by decide)
      clear fS hcm0 hcm1
      have hp0 : 0 ≤ st * (2 * spot + 7207) := Int.mul_nonneg hst0 (by omega)
      have hp1 : st * (2 * spot + 7207) ≤ 2147483629 * 7267 := Int.mul_le_mul (by omega) (by omega) (by omega) (by omega)
      have hq0 : 0 ≤ 20947 * spot * spot := Int.mul_nonneg (by omega) h0
      have hq1 : 20947 * spot * spot ≤ 628410 * 30 := Int.mul_le_mul (by omega) h1 h0 (by omega)
      walk1
      (repeat' (first | (k_unfold; (try dsimp only)) | ((fail_if_success (with_reducible show wpAny _ _ (exec (Stmt.Assign _ _ _) _) _ _ _)); (fail_if_success (with_reducible show wpAny _ _ (exec (Stmt.If _ _ _ _) _) _ _ _)); (first | (k_here; with_reducible refine pow_int_small (by decide) (by decide) (by omega) ?_) | (k_here; with_reducible refine mul_int ?_ (mul_ok64 (by omega))) | walk1 | (dsimp only; walk1))) | (leave1; walk_say "STEP leave1"; try dsimp only)))
      exact ret_mut [] hret (by assumption) (.mk _ _ _ _ (.mk (Int.fmod_nonneg_of_pos _ hm0) (Int.fmod_lt_of_pos _ hm0)) (Int.le_add_one (Int.le_refl _)) (Int.le_refl _) hg ⟨_, _, _, rfl⟩) (by assumption) (by assumption) (by assumption) (by assumption) (by first | exact .head _ | exact .tail _ (.head _) | exact .tail _ (.tail _ (.head _))) (fun _ h => nomatch h) (fun _ h => nomatch h)
theorem len_base {prog : Program} {w : World} {A : Around} {E : Value → Shared → Prop} {s : Shared} {D : Addr} {ys : List Value} {Q : Value → Shared → Prop} (hl : s.heap.IsList D ys.toArray) (hz : ys.length ≤ 1000000)
    (h : Q (.int ys.length (s.toks + 1)) { s with toks := s.toks + 1 + 1 }) : wpAny (model prog w) A (call (.builtin "len") [.ref D]) Q E s :=
  len_list hl (by rw [List.size_toArray]; omega) (by rw [List.size_toArray]; exact h)
inductive PickR (items : List Value) (spot : Int) (D : Addr) (v : Value) (px : Obj) : List (Addr × Obj) → Prop
  | mk (d : Nat) (s' g' : Int) : d < items.length → items[d]? = some v → spot ≤ s' → s' ≤ spot + 1 → 0 ≤ g' → PenO D s' g' px → PickR items spot D v px []
set_option maxHeartbeats 1000000 in
theorem law_pick_ok (x D Y : Addr) (hxD : D ≠ x) (hxY : Y ≠ x) (vs : List Value) (ns : List Int) (hvs : IntsAre vs ns) (hn : ns.length ≤ 40) (items : List Value) (hi0 : 0 < items.length) (hi1 : items.length ≤ 64) (spot great : Int) (h0 : 0 ≤ spot) (h1 : spot ≤ 30) (hg : 0 ≤ great) (t u : Tok) (n : Nat) :
    PM 18 258 [.ref x, .ref Y] x (W.listOf #[.ref D, .int spot t, .int great u] n) (fun h => h.IsList D vs.toArray ∧ h.IsList Y items.toArray) (fun v own px => PickR items spot D v px own) := by
  unfold PM
  k_fill
  intro w mean mg mb dp un gd cn cs a ccd cl outer A₀ base h₀ L m s Q E B F X T hcs hd hu hP N hret
  (k_dflt (refine' enterM ?zh61317k1 ?zh61317k2 ?zh61317k3 ?zh61317k5 ?zh61317kN ?zh61317kA ?zh61317kF ?zh61317kK ?zh61317k6 ?zh61317k7 ?zh61317k8 ?zh61317k9 ?zh61317kB ?_ ?zh61317c2 ?zh61317c3 ?zh61317c4 ?zh61317c5; (case zh61317kA => exact rfl); (case zh61317kF => exact rfl); (case zh61317kK => first | assumption | exact rfl); (case zh61317k1 => k_asm); (case zh61317k2 => k_asm); (case zh61317k3 => k_asm); (case zh61317k5 => k_asm); (case zh61317kN => k_asm); (case zh61317k6 => k_is); (case zh61317k7 => k_is); (case zh61317k8 => (first | exact room_1 hd rfl | exact room_0 hd | ktr_room)); (case zh61317k9 => exact BindsTo.of_eq rfl); (case zh61317c5 => decide); (case zh61317kB => exact locs rfl); (case zh61317c2 => exact rfl); (case zh61317c3 => exact rfl); (case zh61317c4 => exact rfl); k_whole; intro gzz Lzz hzz hgzz FGzz Fzz Nzz Bzz Xzz Tzz; (try dsimp only); (try k_lift Bzz); (try (show wpAny _ _ _ _ _ _)); (try k_fold)))
  have hl : Heap.IsList _ D vs.toArray := hP.1.at fun o e => (by assumption : KeptBut x s.heap _) D o hxD e
  have hlY : Heap.IsList _ Y items.toArray := hP.2.at fun o e => (by assumption : KeptBut x s.heap _) Y o hxY e
  clear hP
  (repeat' (first | (k_unfold; (try dsimp only)) | ((fail_if_success (with_reducible show KswEnd _ _ _ _ _ _ _ _ _ _ _ _)); (fail_if_success (with_reducible show InvEndN _ _ _ _ _ _ _)); (fail_if_success (with_reducible show wpAny _ _ (exec (Stmt.While _ _ _ _) _) _ _ _)); (fail_if_success (with_reducible show wpAny _ _ (exec (Stmt.For _ _ _ _ _) _) _ _ _)); (fail_if_success (with_reducible show wpAny _ _ (exec (Stmt.Assign _ (PySem.Expr.ListComp _ _ _ _) _) _) _ _ _)); (fail_if_success (with_reducible show wpAny _ _ (eval (PySem.Expr.ListComp _ _ _ _) _) _ _ _)); (first | walk1 | (dsimp only; walk1))) | (leave1; walk_say "STEP leave1"; try dsimp only)))
  rename Fr _ _ _ _ => fE
  rename News _ _ _ _ => nE
  refine len_base (fE.lst hlY) (by omega) ?_
  (repeat' (first | (k_unfold; (try dsimp only)) | ((fail_if_success (with_reducible show KswEnd _ _ _ _ _ _ _ _ _ _ _ _)); (fail_if_success (with_reducible show InvEndN _ _ _ _ _ _ _)); (fail_if_success (with_reducible show wpAny _ _ (exec (Stmt.While _ _ _ _) _) _ _ _)); (fail_if_success (with_reducible show wpAny _ _ (exec (Stmt.For _ _ _ _ _) _) _ _ _)); (fail_if_success (with_reducible show wpAny _ _ (exec (Stmt.Assign _ (PySem.Expr.ListComp _ _ _ _) _) _) _ _ _)); (fail_if_success (with_reducible show wpAny _ _ (eval (PySem.Expr.ListComp _ _ _ _) _) _ _ _)); (first | walk1 | (dsimp only; walk1))) | (leave1; walk_say "STEP leave1"; try dsimp only)))
  k_dflt (refine' PM.use (law_draw_ok x D hxD vs ns hvs hn spot great _ h0 h1 hg ?p1 ?p2 _ _ _ _) ?k1 ?k2 ?k3 ?k4 ?koff ?k5 ?kK ?kd ?ku ?kp ?_)
  case p1 => omega
  case p2 => omega
  (( (case k1 => k_asm); (case k2 => k_asm); (case k3 => k_asm); (case k4 => k_asm); (case k5 => k_asm); (case kK => first | exact rfl | assumption); (case kd => (first | exact room_1 hd rfl | exact room_0 hd | ktr_room)); (case ku => (first | exact unit_3 hu rfl | ktr_units))))
  case koff => exact fun _ h => nomatch h
  case kp => exact fE.lst hl
  rintro v' own' px' h' tk' ⟨d, tv, s', g', hdr, hs1, hs2, hg', ⟨t', u', n', rfl⟩⟩ hK' F' N' hU1 hU2
  clear hU1 hU2 hK'
  obtain ⟨hd0, hd1⟩ := hdr
  dsimp only
  have hlY' := F'.lst hlY
  have hlt : d.toNat < items.length := by omega
  have hx : items[d.toNat]? = some items[d.toNat] := List.getElem?_eq_getElem hlt
  k_dflt (refine item_listL hlY' hd0 (by omega) hx ?_)
  (repeat' (first | (k_unfold; (try dsimp only)) | ((fail_if_success (with_reducible show KswEnd _ _ _ _ _ _ _ _ _ _ _ _)); (fail_if_success (with_reducible show InvEndN _ _ _ _ _ _ _)); (fail_if_success (with_reducible show wpAny _ _ (exec (Stmt.While _ _ _ _) _) _ _ _)); (fail_if_success (with_reducible show wpAny _ _ (exec (Stmt.For _ _ _ _ _) _) _ _ _)); (fail_if_success (with_reducible show wpAny _ _ (exec (Stmt.Assign _ (PySem.Expr.ListComp _ _ _ _) _) _) _ _ _)); (fail_if_success (with_reducible show wpAny _ _ (eval (PySem.Expr.ListComp _ _ _ _) _) _ _ _)); (first | walk1 | (dsimp only; walk1))) | (leave1; walk_say "STEP leave1"; try dsimp only)))
  exact ret_mut [] hret (by assumption) (.mk d.toNat s' g' hlt hx hs1 hs2 hg' ⟨_, _, _, rfl⟩) (by assumption) (by assumption) (by assumption) (by assumption) (.head _) (fun _ h => nomatch h) (fun _ h => nomatch h)
theorem map3_self {a b c : Str} {v : Value} {m₀ : Str → Option Value} (h : m₀ a = some v) : m₀ = fun z => if z = a then some v else if z = b then m₀ b else if z = c then m₀ c else m₀ z := by
  funext z
  by_cases h1 : z = a
  · rw [if_pos h1, h1, h]
  · by_cases h2 : z = b
    · rw [if_neg h1, if_pos h2, h2]
    · by_cases h3 : z = c
      · rw [if_neg h1, if_neg h2, if_pos h3, h3]
      · rw [if_neg h1, if_neg h2, if_neg h3]
theorem map3_in {a b c : Str} {x y u v : Option Value} {m₀ : Str → Option Value} (n1 : a ≠ c) (n2 : b ≠ c) : (fun z => if z = c then v else (fun z => if z = a then x else if z = b then y else if z = c then u else m₀ z) z) = fun z => if z = a then x else if z = b then y else if z = c then v else m₀ z := by
  funext z
  dsimp only
  by_cases h1 : z = c
  · rw [if_pos h1, if_neg (fun e => n1 (e.symm.trans h1)), if_neg (fun e => n2 (e.symm.trans h1)), if_pos h1]
  · rw [if_neg h1, if_neg h1, if_neg h1]
theorem map3_out {a b : Str} {x y x' y' : Option Value} {m₀ : Str → Option Value} : (fun z => if z = a then x' else if z = b then y' else if z = a then x else if z = b then y else m₀ z) = fun z => if z = a then x' else if z = b then y' else m₀ z := by
  funext z
  by_cases h1 : z = a
  · rw [if_pos h1, if_pos h1]
  · by_cases h2 : z = b
    · rw [if_neg h1, if_pos h2, if_neg h1, if_pos h2]
    · rw [if_neg h1, if_neg h2, if_neg h1, if_neg h2, if_neg h1, if_neg h2]
theorem high4 {k : Int} (h0 : 0 ≤ k) (h1 : k < 256) : 0 ≤ k.fdiv (2 ^ Int.toNat 4) ∧ k.fdiv (2 ^ Int.toNat 4) < 16 := by
  have : k.fdiv (2 ^ Int.toNat 4) = k / 16 := Int.fdiv_eq_ediv_of_nonneg _ (by decide)
  omega
theorem low4 (k : Int) : 0 ≤ Builtin.bitAnd k 15 ∧ Builtin.bitAnd k 15 < 16 := by
  rw [bitAnd_m4]
  omega
theorem add_fit {b c : Array UInt8} (h : b.size ≤ 1000) (g : c.size ≤ 1000) : b.size + c.size ≤ 16777216 := by omega
theorem u8two (a b : UInt8) : ∀ k ∈ [((a.toNat : Nat) : Int), ((b.toNat : Nat) : Int)], 0 ≤ k ∧ k < 256 := by
  intro k hk
  have h1 := a.toNat_lt
  have h2 := b.toNat_lt
  simp only [List.mem_cons, List.not_mem_nil, or_false] at hk
  omega
def occM (k : Int) : Bool := (Builtin.Str.occurrences (Str.ofString "!*+-/") ⟨#[k.toNat]⟩ 0 (Str.ofString "!*+-/").length 1).isEmpty
def hexS : List UInt8 := [48, 49, 50, 51, 52, 53, 54, 55, 56, 57, 65, 66, 67, 68, 69, 70]
/-- how the law writes one octet -/
def markOf (k : Int) : List Int := if k < 128 ∧ (Txt.isalnum ⟨#[k.toNat]⟩ = true ∨ occM k = false) then [k] else if k = 32 then [95] else [61, (((hexS.getD (k.fdiv (2 ^ Int.toNat 4)).toNat 0).toNat : Nat) : Int), (((hexS.getD (Builtin.bitAnd k 15).toNat 0).toNat : Nat) : Int)]
theorem mark_a {k : Int} (h : k < 128) (ha : Txt.isalnum ⟨#[k.toNat]⟩ = true) : markOf k = [k] := if_pos ⟨h, .inl ha⟩
theorem mark_b {k : Int} (h : k < 128) (ha : occM k = false) : markOf k = [k] := if_pos ⟨h, .inr ha⟩
theorem mark_c {k : Int} (ha : Txt.isalnum ⟨#[k.toNat]⟩ = false) (hb : occM k = true) (h : k = 32) : markOf k = [95] := by
  unfold markOf
  rw [if_neg (fun q => by rcases q.2 with q | q; · rw [ha] at q; cases q
                          · rw [hb] at q; cases q), if_pos h]
theorem mark_d {k : Int} (ha : Txt.isalnum ⟨#[k.toNat]⟩ = false) (hb : occM k = true) (h : k ≠ 32) : markOf k = [61, (((hexS.getD (k.fdiv (2 ^ Int.toNat 4)).toNat 0).toNat : Nat) : Int), (((hexS.getD (Builtin.bitAnd k 15).toNat 0).toNat : Nat) : Int)] := by
  unfold markOf
  rw [if_neg (fun q => by rcases q.2 with q | q; · rw [ha] at q; cases q
                          · rw [hb] at q; cases q), if_neg h]
theorem mark_e {k : Int} (h : ¬ k < 128) : markOf k = [61, (((hexS.getD (k.fdiv (2 ^ Int.toNat 4)).toNat 0).toNat : Nat) : Int), (((hexS.getD (Builtin.bitAnd k 15).toNat 0).toNat : Nat) : Int)] := by
  unfold markOf
  rw [if_neg (fun q => h q.1), if_neg (fun q => h (by omega))]
theorem one_in {k : Int} (h0 : 0 ≤ k) (h1 : k < 256) : KBw.bInts #[k.toNat.toUInt8] = [k] := by
  show [((k.toNat.toUInt8.toNat : Nat) : Int)] = [k]
  have : k.toNat.toUInt8.toNat = k.toNat := by
    show k.toNat % 256 = k.toNat
    omega
  rw [this]
  exact congrArg (· :: []) (by omega)
theorem two_in (a b : UInt8) : KBw.bInts (byteArr [((a.toNat : Nat) : Int), ((b.toNat : Nat) : Int)]) = [((a.toNat : Nat) : Int), ((b.toNat : Nat) : Int)] := KBa.ints_make (u8two a b)
noncomputable def marked (ks : List Int) : List Int := (ks.map markOf).flatten
theorem marked_succ {ks : List Int} {i : Nat} {k : Int} (h : ks[i]? = some k) : marked (ks.take (i + 1)) = marked (ks.take i) ++ markOf k := by
  unfold marked
  rw [List.take_add_one, h]
  simp
theorem mark_len (k : Int) : (markOf k).length ≤ 3 := by unfold markOf; (repeat' split) <;> simp
theorem marked_len : ∀ ks : List Int, (marked ks).length ≤ 3 * ks.length
  | [] => by simp [marked]
  | k :: r => by
    have ih := marked_len r
    have h := mark_len k
    have e : marked (k :: r) = markOf k ++ marked r := by simp [marked]
    rw [e, List.length_append, List.length_cons]
    omega
set_option maxHeartbeats 1000000 in
theorem law_marked_ok (b : Array UInt8) (ks : List Int) (hb : KBw.bInts b = ks) (hk : ks.length ≤ 30) (t1 : Tok) : PC 4 270 [.bytes b t1] (Im (IsB (marked ks))) := by
  have hin : ∀ k ∈ ks, 0 ≤ k ∧ k < 256 := fun k hk => KBw.ints_in (b := b) (by rw [hb]; exact hk)
  unfold PC
  k_fill
  intro w mean mg mb dp un gd cn cs a ccd cl outer A₀ base h₀ L m s Q E B F X T hcs hd hu hret
  (k_dflt (refine' enter ?zh1365k1 ?zh1365k2 ?zh1365k3 ?zh1365k5 ?zh1365kA ?zh1365kF ?zh1365kK ?zh1365k6 ?zh1365k7 ?zh1365k8 ?zh1365k9 ?zh1365kB ?_ ?zh1365c2 ?zh1365c3 ?zh1365c4 ?zh1365c5; (case zh1365kA => exact rfl); (case zh1365kF => exact rfl); (case zh1365kK => first | assumption | exact rfl); (case zh1365k1 => k_asm); (case zh1365k2 => k_asm); (case zh1365k3 => k_asm); (case zh1365k5 => k_asm); (case zh1365k6 => k_is); (case zh1365k7 => k_is); (case zh1365k8 => (first | exact room_1 hd rfl | exact room_0 hd | ktr_room)); (case zh1365k9 => exact BindsTo.of_eq rfl); (case zh1365c5 => decide); (case zh1365kB => exact locs rfl); (case zh1365c2 => exact rfl); (case zh1365c3 => exact rfl); (case zh1365c4 => exact rfl); k_whole; intro gzz Lzz hzz hgzz FGzz Fzz Nzz Bzz Xzz Tzz; (try dsimp only); (try k_lift Bzz); (try (show wpAny _ _ _ _ _ _)); (try k_fold)))
  (repeat' (first | (k_unfold; (try dsimp only)) | ((fail_if_success (with_reducible show KswEnd _ _ _ _ _ _ _ _ _ _ _ _)); (fail_if_success (with_reducible show InvEndN _ _ _ _ _ _ _)); (fail_if_success (with_reducible show wpAny _ _ (exec (Stmt.While _ _ _ _) _) _ _ _)); (fail_if_success (with_reducible show wpAny _ _ (exec (Stmt.For _ _ _ _ _) _) _ _ _)); (fail_if_success (with_reducible show wpAny _ _ (exec (Stmt.Assign _ (PySem.Expr.ListComp _ _ _ _) _) _) _ _ _)); (fail_if_success (with_reducible show wpAny _ _ (eval (PySem.Expr.ListComp _ _ _ _) _) _ _ _)); (first | (k_here; (with_reducible show wpAny _ _ (call (Value.type "bytes") [Value.ref _]) _ _ _); k_dflt (refine' KBa.make_K (ns := [((UInt8.toNat _ : Nat) : Int), ((UInt8.toNat _ : Nat) : Int)]) ?zh42988kbaF ?zh42988kbaN ?zh42988kbah ?zh42988kbal ?zh42988kbai ?zh42988kbar ?zh42988kban ?_; (case zh42988kbaF => k_asm); (case zh42988kbaN => k_asm); (case zh42988kbah => rfl); (case zh42988kbal => kba_isList); (case zh42988kbai => exact .cons _ _ (.cons _ _ .nil)); (case zh42988kbar => exact u8two _ _); (case zh42988kban => exact Nat.le_of_ble_eq_true rfl)); intro _ _ _ Fzz Nzz kbaIn; (try dsimp only)) | (k_here; (with_reducible show wpAny _ _ (binaryOp Operator.Add (Value.bytes _ _) (Value.bytes _ _)) _ _ _); (refine KBy.add_bytes (add_fit (by first | assumption | (simp only [Array.size_append, List.size_toArray, List.length_cons, List.length_nil]; omega)) (Nat.le_of_ble_eq_true rfl)) ?_); intro _ _) | walk1 | (dsimp only; walk1))) | (leave1; walk_say "STEP leave1"; try dsimp only)))
  (((rename Fr _ _ _ _ => lFzz); (with_unfolding_all refine' For_invVF lFzz ?zh39862k1 ?zh39862k2 ?_); (case zh39862k1 => exact rfl); (case zh39862k2 => exact rfl); (repeat' (first | (k_unfold; (try dsimp only)) | ((fail_if_success (with_reducible show wpAny _ _ (pyIter _) _ _ _)); (fail_if_success (with_reducible show wpAny _ _ (exec (Stmt.While _ _ _ _) _) _ _ _)); (fail_if_success (with_reducible show wpAny _ _ (exec (Stmt.For _ _ _ _ _) _) _ _ _)); (fail_if_success (with_reducible show wpAny _ _ (exec (Stmt.Assign _ (PySem.Expr.ListComp _ _ _ _) _) _) _ _ _)); (fail_if_success (with_reducible show wpAny _ _ (eval (PySem.Expr.ListComp _ _ _ _) _) _ _ _)); (first | (k_here; (with_reducible show wpAny _ _ (call (Value.type "bytes") [Value.ref _]) _ _ _); k_dflt (refine' KBa.make_K (ns := [((UInt8.toNat _ : Nat) : Int), ((UInt8.toNat _ : Nat) : Int)]) ?zh42988kbaF ?zh42988kbaN ?zh42988kbah ?zh42988kbal ?zh42988kbai ?zh42988kbar ?zh42988kban ?_; (case zh42988kbaF => k_asm); (case zh42988kbaN => k_asm); (case zh42988kbah => rfl); (case zh42988kbal => kba_isList); (case zh42988kbai => exact .cons _ _ (.cons _ _ .nil)); (case zh42988kbar => exact u8two _ _); (case zh42988kban => exact Nat.le_of_ble_eq_true rfl)); intro _ _ _ Fzz Nzz kbaIn; (try dsimp only)) | (k_here; (with_reducible show wpAny _ _ (binaryOp Operator.Add (Value.bytes _ _) (Value.bytes _ _)) _ _ _); (refine KBy.add_bytes (add_fit (by first | assumption | (simp only [Array.size_append, List.size_toArray, List.length_cons, List.length_nil]; omega)) (Nat.le_of_ble_eq_true rfl)) ?_); intro _ _) | walk1 | (dsimp only; walk1))) | (leave1; walk_say "STEP leave1"; try dsimp only)))))
  rename Fr _ _ _ _ => lF
  rename News _ _ _ _ => lN
  refine with_map lF ?_
  intro m₀ em lF2
  obtain ⟨t0, hb0⟩ : ∃ t0, m₀ (Str.ofString "found") = some (.bytes #[] t0) := ⟨_, by rw [em]; exact if_pos rfl⟩
  k_dflt refine loop1 (src_bytes (by rfl) hb) (fun i m nx => ∃ fb ft u1 u2, nx = [] ∧ KBw.bInts fb = marked (ks.take i) ∧ m = fun z => if z = Str.ofString "found" then some (.bytes fb ft) else if z = Str.ofString "sign" then u1 else if z = Str.ofString "code" then u2 else m₀ z) lF2 lN ⟨#[], t0, m₀ (Str.ofString "sign"), m₀ (Str.ofString "code"), rfl, rfl, map3_self hb0⟩ ?_ ?_
  · rintro i v m₁ nx h tk own hi ⟨k, u, hk', rfl⟩ _ hoff ⟨fb, ft, u1, u2, rfl, hfb, rfl⟩ F₁ N₁
    have hkb := hin k (List.mem_of_getElem? hk')
    obtain ⟨hk0, hk1⟩ := hkb
    rw [map3_in (by decide) (by decide)] at F₁
    subst em
    simp only [List.cons_append, List.nil_append, List.map_cons, List.map_nil] at N₁ hoff
    have hml := marked_len (ks.take i)
    have hfz2 : fb.size ≤ 90 := by
      have := KBw.ints_length fb
      rw [hfb] at this
      rw [List.length_take] at hml
      omega
    have hfz : fb.size ≤ 1000 := by omega
    have hq : 0 ≤ k.fdiv (2 ^ Int.toNat 4) ∧ k.fdiv (2 ^ Int.toNat 4) < 16 := high4 hk0 hk1
    have hr : 0 ≤ Builtin.bitAnd k 15 ∧ Builtin.bitAnd k 15 < 16 := low4 k
    obtain ⟨hq0, hq1⟩ := hq
    obtain ⟨hr0, hr1⟩ := hr
    have hms := marked_succ hk'
    have h1in := one_in hk0 hk1
    clear lN lF lF2 hin hb hb0 hml
    (repeat' (first | (k_unfold; (try dsimp only)) | ((fail_if_success (with_reducible show KswEnd _ _ _ _ _ _ _ _ _ _ _ _)); (fail_if_success (with_reducible show InvEndN _ _ _ _ _ _ _)); (fail_if_success (with_reducible show wpAny _ _ (exec (Stmt.While _ _ _ _) _) _ _ _)); (fail_if_success (with_reducible show wpAny _ _ (exec (Stmt.For _ _ _ _ _) _) _ _ _)); (fail_if_success (with_reducible show wpAny _ _ (exec (Stmt.Assign _ (PySem.Expr.ListComp _ _ _ _) _) _) _ _ _)); (fail_if_success (with_reducible show wpAny _ _ (eval (PySem.Expr.ListComp _ _ _ _) _) _ _ _)); (first | (k_here; (with_reducible show wpAny _ _ (call (Value.type "bytes") [Value.ref _]) _ _ _); k_dflt (refine' KBa.make_K (ns := [((UInt8.toNat _ : Nat) : Int), ((UInt8.toNat _ : Nat) : Int)]) ?zh42988kbaF ?zh42988kbaN ?zh42988kbah ?zh42988kbal ?zh42988kbai ?zh42988kbar ?zh42988kban ?_; (case zh42988kbaF => k_asm); (case zh42988kbaN => k_asm); (case zh42988kbah => rfl); (case zh42988kbal => kba_isList); (case zh42988kbai => exact .cons _ _ (.cons _ _ .nil)); (case zh42988kbar => exact u8two _ _); (case zh42988kban => exact Nat.le_of_ble_eq_true rfl)); intro _ _ _ Fzz Nzz kbaIn; (try dsimp only)) | (k_here; (with_reducible show wpAny _ _ (binaryOp Operator.Add (Value.bytes _ _) (Value.bytes _ _)) _ _ _); (refine KBy.add_bytes (add_fit (by first | assumption | (simp only [Array.size_append, List.size_toArray, List.length_cons, List.length_nil]; omega)) (Nat.le_of_ble_eq_true rfl)) ?_); intro _ _) | walk1 | (dsimp only; walk1))) | (leave1; walk_say "STEP leave1"; try dsimp only)))
    all_goals (
      rename Fr _ _ _ _ => fE
      rename News _ _ _ _ => nE
      refine' InvEndN.intro fE nE ⟨_, _, _, _, rfl, ?zv, map3_out⟩ rfl (fun _ h => nomatch h) ?zo
      case zo => first | exact fun p hp => hp | exact fun p hp => .tail _ hp
      case zv =>
        rw [hms]
        first
          | exact KBw.ints_app hfb (h1in.trans (mark_a (by assumption) (by assumption)).symm)
          | exact KBw.ints_app hfb (h1in.trans (mark_b (by assumption) (by assumption)).symm)
          | exact KBw.ints_app hfb (Eq.symm (mark_c (by assumption) (by assumption) (by assumption)))
          | (rw [mark_d (by assumption) (by assumption) (by assumption)]; exact (KBw.ints_app (KBw.ints_app hfb (rfl : KBw.bInts #[61] = [61])) (two_in _ _)).trans (List.append_assoc _ _ _))
          | (exfalso; clear hms hfb h1in; omega)
          | (rw [mark_e (by assumption)]; exact (KBw.ints_app (KBw.ints_app hfb (rfl : KBw.bInts #[61] = [61])) (two_in _ _)).trans (List.append_assoc _ _ _)))
  rintro m₁ nx h tk ⟨fb, ft, u1, u2, rfl, hfb, rfl⟩ F₁ N₁
  subst em
  clear lN lF lF2
  rw [List.take_length] at hfb
  (repeat' (first | (k_unfold; (try dsimp only)) | ((fail_if_success (with_reducible show KswEnd _ _ _ _ _ _ _ _ _ _ _ _)); (fail_if_success (with_reducible show InvEndN _ _ _ _ _ _ _)); (fail_if_success (with_reducible show wpAny _ _ (exec (Stmt.While _ _ _ _) _) _ _ _)); (fail_if_success (with_reducible show wpAny _ _ (exec (Stmt.For _ _ _ _ _) _) _ _ _)); (fail_if_success (with_reducible show wpAny _ _ (exec (Stmt.Assign _ (PySem.Expr.ListComp _ _ _ _) _) _) _ _ _)); (fail_if_success (with_reducible show wpAny _ _ (eval (PySem.Expr.ListComp _ _ _ _) _) _ _ _)); (first | (k_here; (with_reducible show wpAny _ _ (call (Value.type "bytes") [Value.ref _]) _ _ _); k_dflt (refine' KBa.make_K (ns := [((UInt8.toNat _ : Nat) : Int), ((UInt8.toNat _ : Nat) : Int)]) ?zh42988kbaF ?zh42988kbaN ?zh42988kbah ?zh42988kbal ?zh42988kbai ?zh42988kbar ?zh42988kban ?_; (case zh42988kbaF => k_asm); (case zh42988kbaN => k_asm); (case zh42988kbah => rfl); (case zh42988kbal => kba_isList); (case zh42988kbai => exact .cons _ _ (.cons _ _ .nil)); (case zh42988kbar => exact u8two _ _); (case zh42988kban => exact Nat.le_of_ble_eq_true rfl)); intro _ _ _ Fzz Nzz kbaIn; (try dsimp only)) | (k_here; (with_reducible show wpAny _ _ (binaryOp Operator.Add (Value.bytes _ _) (Value.bytes _ _)) _ _ _); (refine KBy.add_bytes (add_fit (by first | assumption | (simp only [Array.size_append, List.size_toArray, List.length_cons, List.length_nil]; omega)) (Nat.le_of_ble_eq_true rfl)) ?_); intro _ _) | walk1 | (dsimp only; walk1))) | (leave1; walk_say "STEP leave1"; try dsimp only)))
  exact ret_im hret (by assumption) ⟨_, _, rfl, hfb⟩ (by assumption) (by assumption)
theorem lt10 : ∀ d, d < 10 → d = 0 ∨ d = 1 ∨ d = 2 ∨ d = 3 ∨ d = 4 ∨ d = 5 ∨ d = 6 ∨ d = 7 ∨ d = 8 ∨ d = 9 := by decide
theorem lt6 : ∀ d, d < 6 → d = 0 ∨ d = 1 ∨ d = 2 ∨ d = 3 ∨ d = 4 ∨ d = 5 := by decide
theorem lt5 : ∀ d, d < 5 → d = 0 ∨ d = 1 ∨ d = 2 ∨ d = 3 ∨ d = 4 := by decide
theorem lt4 : ∀ d, d < 4 → d = 0 ∨ d = 1 ∨ d = 2 ∨ d = 3 := by decide
theorem lt2 : ∀ d, d < 2 → d = 0 ∨ d = 1 := by decide
section
variable {prog : Program} {w : World} {A : Around} {E : Value → Shared → Prop} {s : Shared}
theorem extend_bytes {R : Result → Shared → Prop} (hh : A.handled = none) (b : Array UInt8) (t : Tok) (S : Addr) (res : Value) (c₀ : Nat) (hS : s.heap.get? S = some { cls := .type "list", data := .seq #[] c₀ })
    (hR : ∀ h' tk acc' c', (∀ b o, b ≠ S → s.heap.get? b = some o → h'.get? b = some o) → h'.get? S = some { cls := .type "list", dict := none, data := .seq acc' c', slots := #[] } →
      ItemsOf (fun i v => ∃ c u, b[i]? = some c ∧ v = .int ((c.toNat : Nat) : Int) u) acc' b.size → R (.ok (.ret res)) { s with heap := h', toks := tk }) (hn : b.size ≤ sizeLine) :
    wpAny (model prog w) A.in1 (Builtin.List.listExtendWith (.ref S) (.bytes b t) res)
      (fun fin s' => match fin with | .done f => R (.ok f) s' | .again c' => c'.quiet = true ∧ codeAny (model prog w) A c' R s') (fun e s' => R (.error e) s') s := by
  have hSI : S ≠ s.heap.objs.size := Nat.ne_of_lt (Heap.lt_size hS)
  have hSf : S ∉ [s.heap.objs.size] := fun hm => hSI (List.mem_singleton.mp hm)
  unfold Builtin.List.listExtendWith
  refine wpAny_bind (wpAny_typeOf (T := "bytes") (v := .bytes b t) rfl ?_)
  have h1 : Builtin.List.listSameRef (.ref S) (.bytes b t) = false := rfl
  have h2 : (Value.type "bytes" == Value.type "list") = false := by decide
  have h3 : (Value.type "bytes" == Value.type "tuple") = false := by decide
  simp only [h1, h2, h3, Bool.or_false, Bool.false_eq_true, if_false]
  refine wpAny_bind (KBw.pyIter_bytes ?_)
  refine wpAny_bind (wpAny_holding ?_)
  unfold Builtin.List.listLengthHint
  have hlk : typeLookup (.type "bytes") "__len__" = pure (some (.builtin "bytes.__len__")) := by rw [typeLookup_type, builtinLookup_eq_fast]; kernel_rfl
  refine wpAny_bind (wpAny_specialOf (T := "bytes") (v := .bytes b t) rfl hlk ?_)
  wp_delta
  refine wpAny_bind (wpAny_isInstance (T := "bytes") (v := .bytes b t) (b := true) rfl (by rw [isSubtype_type]; kernel_rfl) ?_)
  show wpAny _ _ (typeOf (Value.bytes b t) >>= _) _ _ _
  refine wpAny_bind (wpAny_typeOf (T := "bytes") (v := .bytes b t) rfl ?_)
  refine wpAny_pure ?_
  rw [if_neg (by decide)]
  have W := (KBw.walks (prog := prog) (w := w) (A := A.in1) hh s.heap.objs.size b t).toS
  refine wpAny_pure ⟨plainId_quiet F.plain_extend_loop _, codeAny_extend_loopS W hn _ hSf _ b.size 0 _ _ _ rfl (Nat.zero_le _) ⟨_, Heap.get?_push_size _ rfl, rfl, rfl⟩ (Heap.get?_push_of_some _ hS) (ItemsOf.nil _) fun s' acc' c' hm hS' hacc => ?_⟩
  rw [Moved.eq_with hm]
  refine hR s'.heap s'.toks acc' c' (fun b ob hb e => hm.heap b ob (fun hmem => ?_) (Heap.get?_push_of_some _ e)) hS' hacc
  rcases List.mem_cons.mp hmem with e' | hmem
  · exact hb e'
  · exact absurd (Heap.lt_size e) (by rw [List.mem_singleton.mp hmem]; exact Nat.lt_irrefl _)
theorem list_bytes {b : Array UInt8} {ks : List Int} {t : Tok} {Q : Value → Shared → Prop} (hh : A.handled = none) (hb : KBw.bInts b = ks) (hk : ks.length ≤ 1000)
    (hQ : ∀ h' tk (vs : List Value) c, (∀ b o, s.heap.get? b = some o → h'.get? b = some o) → h'.get? s.heap.objs.size = some { cls := .type "list", data := .seq vs.toArray c } → IntsAre vs ks → Q (.ref s.heap.objs.size) { s with heap := h', toks := tk }) :
    wpAny (model prog w) A (call (.type "list") [.bytes b t]) Q E s := by
  have hsz : b.size ≤ sizeLine := by
    have := KBw.ints_length b
    rw [hb] at this
    rw [PySem.sizeLine_eq]; omega
  refine callType_codes (Q₁ := fun obj s₁ => obj = .ref s.heap.objs.size ∧ s₁ = { s with heap := s.heap.push { cls := .type "list", data := .seq #[] } }) F.called_list (F.typeCall_list_1 _) F.entry_list_init
    (code_list_new _ ⟨rfl, rfl⟩) fun obj s₁ h₁ => ?_
  obtain ⟨rfl, rfl⟩ := h₁
  have hS : (s.heap.push { cls := .type "list", data := .seq #[] }).get? s.heap.objs.size = some { cls := .type "list", data := .seq #[] } := Heap.get?_push_size _ rfl
  refine ⟨⟨_, hS, rfl⟩, F.args_list_init_2 _ _, ?_⟩
  generalize hg : s.heap.push { cls := .type "list", data := .seq #[] } = g at hS
  show wpAny _ _ (do let old ← Builtin.List.listItems (.ref s.heap.objs.size); Builtin.List.listUpdate (.ref s.heap.objs.size) (fun _ => #[]); letGo old.toList.reverse; Builtin.List.listExtendWith (.ref s.heap.objs.size) (.bytes b t) .none) _ _ _
  refine wpAny_bind ?_
  unfold Builtin.List.listItems
  refine wpAny_bind (wpAny_seqItems hS rfl (wpAny_pure ?_))
  show wpAny _ _ (updateSeq s.heap.objs.size (fun _ => #[]) >>= fun _ => letGo (#[] : Array Value).toList.reverse >>= fun _ => Builtin.List.listExtendWith (.ref s.heap.objs.size) (.bytes b t) .none) _ _ _
  refine wpAny_bind (wpAny_updateSeq hS rfl ?_)
  have hS₂ := Heap.get?_update_self (Obj.mapSeq (fun _ => (#[] : Array Value))) hS rfl
  have oth : ∀ b o, b ≠ s.heap.objs.size → g.get? b = some o → (g.update s.heap.objs.size (Obj.mapSeq (fun _ => (#[] : Array Value)))).get? b = some o :=
    fun b o hb e => (Heap.get?_update_other _ _ (Ne.symm hb)).trans e
  refine wpAny_bind (wpAny_letGo ?_)
  refine extend_bytes (A := A.in1) hh b t _ .none _ hS₂ (fun h' tk acc' c' hk' hS' hacc => ?_) hsz
  refine ⟨rfl, hQ h' tk acc'.toList c' (fun b o e => hk' b o (Nat.ne_of_lt (Heap.lt_size e)) (oth b o (Nat.ne_of_lt (Heap.lt_size e)) (by rw [← hg]; exact Heap.get?_push_of_some _ e))) (by simpa using hS') ?_⟩
  refine ints_of_each (by rw [Array.length_toList, hacc.1, ← hb, KBw.ints_length]) fun i y hy => ?_
  obtain ⟨c, u, hc, rfl⟩ := hacc.2 i y (by simpa using hy)
  have := KBw.ints_get hc
  rw [hb] at this
  rw [List.getD_eq_getElem?_getD, this]
  exact ⟨u, rfl⟩
end
theorem list_bytes_F {prog : Program} {w : World} {A : Around} {E : Value → Shared → Prop} {s : Shared} {h₀ : Heap} {L : Addr} {m : Str → Option Value} {news : List (Addr × Obj)} {b : Array UInt8} {ks : List Int} {t : Tok} {Q : Value → Shared → Prop} (hh : A.handled = none) (F : Fr h₀ L s.heap m) (N : News h₀ L s.heap news) (hb : KBw.bInts b = ks) (hk : ks.length ≤ 1000)
    (hQ : ∀ h' tk (vs : List Value) c x, (∀ p ∈ news, p.1 < x) → Fr h₀ L h' m → News h₀ L h' ((x, W.listOf vs.toArray c) :: news) → IntsAre vs ks → Q (.ref x) { s with heap := h', toks := tk }) :
    wpAny (model prog w) A (call (.type "list") [.bytes b t]) Q E s := by
  refine list_bytes hh hb hk fun h' tk vs c hk' hl hi => hQ h' tk vs c _ (fun p hp => Heap.lt_size (N p hp).1) (F.keeps hk') (fun p hp => ?_) hi
  rcases List.mem_cons.mp hp with rfl | hp
  · exact ⟨hl, Nat.ne_of_gt F.ns.lt, next_is_new F⟩
  · exact N.grown hk' p hp
section
variable {prog : Program} {w : World} {A : Around} {E : Value → Shared → Prop} {s : Shared} {h₀ : Heap} {L : Addr} {m : Str → Option Value} {env : Env}
def IntOut (k : Int) (s : Shared) (h : Heap) (y : Value) (s₂ : Shared) : Prop := ∃ t tk', y = .int k t ∧ s₂ = { s with heap := h, toks := tk' }
/-- what a comprehension over enumerate wants; its elements are ints and change nothing -/
inductive EnumOver (prog : Program) (w : World) (A : Around) (h₀ : Heap) (L : Addr) (m : Str → Option Value) (env : Env) (elt : Expr) (x x₂ : Str) (scope : Scope) (cl : List (Str × Addr)) (Q : Value → Shared → Prop) : Value → Shared → Prop
  | mk (e it l : Addr) (vs : List Value) (news : List (Addr × Obj)) (f : Nat → Int) (s₁ : Shared) : A.handled = none → IsEnum s₁.heap e it 0 .none → s₁.heap.IsListIter it l 0 → s₁.heap.IsList l vs.toArray → e ≠ it → l ≠ e → l ≠ it → L ≠ e → L ≠ it → h₀.get? e = none → h₀.get? it = none →
    (∀ p ∈ news, p.1 ≠ e ∧ p.1 ≠ it) → Fr h₀ L s₁.heap m → News h₀ L s₁.heap news → vs.length ≤ sizeLine →
    (∀ i t v oI C oC D m₂ h tk ys (E' : Value → Shared → Prop), i < vs.length → vs[i]? = some v → LCg.NsObj oC m₂ → m₂ x = some (.int ((i : Nat) : Int) t) → m₂ x₂ = some v → Fr h₀ L h m → News h₀ L h ((e, oI) :: (C, oC) :: (D, LCg.lst ys) :: news) →
      wpAny (model prog w) A (eval elt (compEnvC scope cl C env)) (IntOut (f i) s₁ h) E' { s₁ with heap := h, toks := tk }) →
    (∀ D ys h tk, IntsAre ys ((List.range vs.length).map f) → Fr h₀ L h m → News h₀ L h ((D, LCg.lst ys) :: news) → LCg.Off1 D news → Q (.ref D) { s₁ with heap := h, toks := tk }) → EnumOver prog w A h₀ L m env elt x x₂ scope cl Q (.ref e) s₁
/-- between two turns of such a comprehension -/
inductive EInv (h₀ : Heap) (L : Addr) (m : Str → Option Value) (vs : List Value) (f : Nat → Int) (e it l C D : Addr) (news : List (Addr × Obj)) (s₁ : Shared) : Nat → Shared → Prop
  | mk {h' : Heap} {tk i : Nat} {ys : List Value} {m' : Str → Option Value} : i ≤ vs.length → ((∃ o, IsEnum h' e it i o) ∧ h'.IsListIter it l i ∧ h'.IsList l vs.toArray) → Fr h₀ L h' m → h'.Ns C m' → News h₀ L h' ((D, LCg.lst ys) :: news) → IntsAre ys ((List.range i).map f) →
      EInv h₀ L m vs f e it l C D news s₁ (vs.length + 1 - i) { s₁ with heap := h', toks := tk }
theorem compE {elt iter : Expr} {x x₂ : Str} {px px₂ tp : Pos} {tn} {scope : Scope} {cl : List (Str × Addr)} {pos : Pos} {Q : Value → Shared → Prop} (_F₀ : Fr h₀ L s.heap m)
    (hclos : closureFor scope env = pure cl) (hcell : ∀ y ∈ scope.names, y.2 ≠ .cell) (hkind : scope.kind = .function)
    (hnames : ∀ y ∈ scope.names, y.2 = .local → scope.names.lookup y.1 = some .local) (hx : scope.names.lookup x = some .local) (hx₂ : scope.names.lookup x₂ = some .local) (hxx : x ≠ x₂)
    (h : wpAny (model prog w) A (eval iter env) (EnumOver prog w A h₀ L m env elt x x₂ scope cl Q) E s)
    (hs : ∀ x, foldedSetIterable iter env x = pure x := by intro _; rfl) :
    wpAny (model prog w) A (eval (.ListComp elt [⟨.Tuple [.Name x px, .Name x₂ px₂] tn tp, iter, [], 0⟩] scope pos) env) Q E s := by
  rw [eval_ListComp]
  refine wpAny_comprehension_free (use := none) rfl hs hclos hkind hnames (wpAny_mono h (fun xv s₁ h₁ => ?_) fun _ _ e => e)
  obtain ⟨e, it, l, vs, news, f, _, hh, he, hit, hl, hei, hle, hli, hLe, hLi, he₀, hi₀, off, F, N, hsz, turn, fin⟩ := h₁
  refine wpAny_pyIter_enum he ?_
  have W := WalksT.enumerate (prog := prog) (w := w) hh e it l hei hle hli vs.toArray
  generalize hwr : [e, it] = wr at W
  have he_wr : e ∈ wr := by rw [← hwr]; simp
  have hi_wr : it ∈ wr := by rw [← hwr]; simp
  have wr_mem : ∀ b ∈ wr, b = e ∨ b = it := fun b hb => by rw [← hwr] at hb; simpa using hb
  have helt : e < s₁.heap.objs.size := Heap.lt_size he
  have hilt : it < s₁.heap.objs.size := by obtain ⟨_, z, _⟩ := hit; exact Heap.lt_size z
  have hllt : l < s₁.heap.objs.size := by obtain ⟨_, z, _⟩ := hl; exact Heap.lt_size z
  refine wpAny_newObj_type (wpAny_newFunctionEnv hcell (by intro y hy; simp at hy) (fun h₁ hns₁ hsb₁ => ?_) hkind)
  dsimp only at hns₁ hsb₁ ⊢
  generalize hH2 : s₁.heap.push { cls := .type "list", dict := none, data := .seq ([] : List Value).toArray } = H2 at hns₁ hsb₁ ⊢
  have hC : H2.objs.size = s₁.heap.objs.size + 1 := by rw [← hH2, Heap.size_push]
  have hDC : s₁.heap.objs.size ≠ H2.objs.size := by rw [hC]; exact Nat.ne_of_lt (Nat.lt_succ_self _)
  have below : ∀ b, b < s₁.heap.objs.size → b ≠ H2.objs.size ∧ b ≠ s₁.heap.objs.size := fun b hb => ⟨by rw [hC]; exact Nat.ne_of_lt (Nat.lt_succ_of_lt hb), Nat.ne_of_lt hb⟩
  have wr_lt : ∀ b ∈ wr, b < s₁.heap.objs.size := fun b hb => (wr_mem b hb).elim (fun q => q ▸ helt) fun q => q ▸ hilt
  have fp_lt : ∀ b ∈ [e, it, l], b < s₁.heap.objs.size := fun b hb => by
    simp only [List.mem_cons, List.not_mem_nil, or_false] at hb
    rcases hb with rfl | rfl | rfl <;> assumption
  have old : ∀ b o, s₁.heap.get? b = some o → h₁.get? b = some o := fun b o q => hsb₁.extBut b o (below b (Heap.lt_size q)).1 (Heap.get?_push_of_some _ (hH2 ▸ Heap.get?_push_of_some _ q))
  have hacc : h₁.get? s₁.heap.objs.size = some (LCg.lst []) := hsb₁.extBut _ _ hDC (Heap.get?_push_of_some _ (hH2 ▸ Heap.get?_push_size _ rfl))
  have hst₁ : (∃ o, IsEnum h₁ e it 0 o) ∧ h₁.IsListIter it l 0 ∧ h₁.IsList l vs.toArray := ⟨⟨_, old _ _ he⟩, hit.at fun o q => old _ _ q, hl.at fun o q => old _ _ q⟩
  have fresh : ∀ a, s₁.heap.objs.size ≤ a → s₁.heap.get? a = none := fun a ha => by
    cases q : s₁.heap.get? a with
    | none => rfl
    | some o' => exact absurd (Heap.lt_size q) (Nat.not_lt.mpr ha)
  have fresh₀ : ∀ a, s₁.heap.objs.size ≤ a → h₀.get? a = none := fun a ha => by
    cases q : h₀.get? a with
    | none => rfl
    | some o' => have := F.keep a o' q; rw [fresh a ha] at this; cases this
  have hD₀ : h₀.get? s₁.heap.objs.size = none := fresh₀ _ (Nat.le_refl _)
  have hC₀ : h₀.get? H2.objs.size = none := fresh₀ _ (by rw [hC]; exact Nat.le_succ _)
  have hLlt : L < s₁.heap.objs.size := F.ns.lt
  have hDL : s₁.heap.objs.size ≠ L := Ne.symm (below L hLlt).2
  have hCL : H2.objs.size ≠ L := Ne.symm (below L hLlt).1
  have hLw : L ∉ wr := fun q => (wr_mem L q).elim hLe hLi
  have hCw : H2.objs.size ∉ wr := fun q => (below _ (wr_lt _ q)).1 rfl
  have hDw : s₁.heap.objs.size ∉ wr := fun q => (below _ (wr_lt _ q)).2 rfl
  have offw : ∀ p ∈ news, p.1 ∉ wr := fun p hp q => (wr_mem _ q).elim (off p hp).1 (off p hp).2
  have h₀w : ∀ b ∈ wr, h₀.get? b = none := fun b hb => (wr_mem b hb).elim (fun q => q ▸ he₀) fun q => q ▸ hi₀
  have nlt : ∀ p ∈ news, p.1 < s₁.heap.objs.size := fun p hp => Heap.lt_size (N p hp).1
  have frw : ∀ {h h' : Heap}, Fr h₀ L h m → (∀ b o, b ∉ wr → h.get? b = some o → h'.get? b = some o) → Fr h₀ L h' m := fun F hk =>
    ⟨F.ns.at' fun o q => hk L o hLw q, fun b o q => hk b o (fun hm => by rw [h₀w b hm] at q; cases q) (F.keep b o q), F.above⟩
  have nww : ∀ {h h' : Heap} {nw : List (Addr × Obj)}, News h₀ L h nw → (∀ p ∈ nw, p.1 ∉ wr) → (∀ b o, b ∉ wr → h.get? b = some o → h'.get? b = some o) → News h₀ L h' nw := fun N ho hk p hp => ⟨hk _ _ (ho p hp) (N p hp).1, (N p hp).2⟩
  have offD : ∀ p ∈ (s₁.heap.objs.size, LCg.lst []) :: news, p.1 ∉ wr := fun p hp => (List.mem_cons.mp hp).elim (fun q => q ▸ hDw) fun q => offw p q
  have offD' : ∀ ys, ∀ p ∈ (s₁.heap.objs.size, LCg.lst ys) :: news, p.1 ∉ wr := fun ys p hp => (List.mem_cons.mp hp).elim (fun q => q ▸ hDw) fun q => offw p q
  have off1 : LCg.Off1 s₁.heap.objs.size news := LCg.Off3.one (I := H2.objs.size) (C := H2.objs.size) (LCg.Off3.of fun p hp => ⟨(below _ (nlt p hp)).1, (below _ (nlt p hp)).1, (below _ (nlt p hp)).2⟩)
  refine (fun (loop : ∀ s₃ : Shared, s₃ = { s₁ with heap := h₁, toks := s₁.toks + ([] : List (Str × Value)).length } →
      codeAny (model prog w) A (.compLoop (.ListComp elt [⟨.Tuple [.Name x px, .Name x₂ px₂] tn tp, iter, [], 0⟩] scope pos) 0 (.ref e) (.ref s₁.heap.objs.size) (compEnvC scope cl H2.objs.size env)) _ s₃) => codeAny_compStart_list (loop _ rfl) (W.self 0 _ _ _ hst₁ (loop _ rfl))) ?_
  · rintro s₃ rfl
    refine LCp.codeAny_compLoop_pair (EInv h₀ L m vs f e it l H2.objs.size s₁.heap.objs.size news s₁) ?_ (vs.length + 1) (EInv.mk (i := 0) (ys := []) (Nat.zero_le _) hst₁ (F.keeps old) hns₁ (fun p hp => ?_) .nil)
    · rintro k s' ⟨hi, hst', F', hn', N', hys⟩
      rename Heap => h'
      rename Nat => i
      rename List Value => ys
      have hyl : ys.length = i := by have := IntsAre.length hys; simpa using this
      by_cases hlt : i < vs.length
      · refine W.item i _ _ _ (by simpa using hlt) hst' fun T vals h₂ tk₂ hPv hTl hT hM hk₂ => ?_
        obtain ⟨t, xv, hxv, rfl⟩ := hPv
        have hxv' : vs[i]? = some xv := by simpa using hxv
        refine W.go _ _ _ i T _ _ _ hM fun h₃ hst₃ hk₃ => ?_
        have ht : Heap.IsTuple h₃ T #[.int ((i : Nat) : Int) t, xv] := hT.at fun o q => hk₃ T o (W.apart _ _ _ hM) q
        refine assign_Tuple_tuple hh ht rfl rfl fun h₄ hk₄ => ?_
        have hk₄' : ∀ b o, h₃.get? b = some o → h₄.get? b = some o := fun b o q => hk₄ b o (Nat.ne_of_lt (Heap.lt_size q)) q
        have all : ∀ b o, b ∉ wr → h'.get? b = some o → h₄.get? b = some o := fun b o hb q => hk₄' b o (hk₃ b o hb (hk₂ b o hb q))
        refine assignInOrder_cons (wpAny_assign_Name (wpAny_storeName_local (lookup_relabel_local hx) (hn'.at' fun o q => all _ o hCw q) (fun h₅ hn₅ hs₅ => ?_) (by simp [compEnvC, relabel, hkind])))
        refine assignInOrder_cons (wpAny_assign_Name (wpAny_storeName_local (lookup_relabel_local hx₂) hn₅ (fun h₆ hn₆ hs₆ => ?_) (by simp [compEnvC, relabel, hkind])))
        refine assignInOrder_nil ?_
        have up6 : ∀ b o, b ≠ H2.objs.size → h₄.get? b = some o → h₆.get? b = some o := fun b o hb q => hs₆.extBut b o hb (hs₅.extBut b o hb q)
        have hst₆ : (∃ o, IsEnum h₆ e it ((i + 1 : Nat) : Int) o) ∧ h₆.IsListIter it l (i + 1) ∧ h₆.IsList l vs.toArray := W.frame _ _ _ hst₃ fun b hb o q => up6 b o (below _ (fp_lt b hb)).1 (hk₄' b o q)
        obtain ⟨⟨oe, hoe⟩, _⟩ := id hst₆
        obtain ⟨oC, heC, hoC⟩ := LCg.ns_obj hn₆
        have F₆ : Fr h₀ L h₆ m := ((frw F' all).change hs₅ hCL hC₀).change hs₆ hCL hC₀
        have N₄ := nww N' (offD' ys) all
        have N₆ : News h₀ L h₆ ((e, _) :: (H2.objs.size, oC) :: (s₁.heap.objs.size, LCg.lst ys) :: news) := fun p hp => by
          rcases List.mem_cons.mp hp with rfl | hp
          · exact ⟨hoe, Ne.symm hLe, he₀⟩
          · rcases List.mem_cons.mp hp with rfl | hp
            · exact ⟨heC, hCL, hC₀⟩
            · refine ⟨up6 _ _ ?_ (N₄ p hp).1, (N₄ p hp).2⟩
              rcases List.mem_cons.mp hp with rfl | hp
              · exact hDC
              · exact (below _ (nlt p hp)).1
        refine wpAny_mono (turn i t xv _ _ oC _ _ h₆ _ ys _ hlt hxv' hoC (by simp [hxx]) (by simp) F₆ N₆) (fun y s₄ h₄ => ?_) fun _ _ q => q
        obtain ⟨ty, tk', rfl, rfl⟩ := h₄
        have zD := (N₆ (s₁.heap.objs.size, LCg.lst ys) (.tail _ (.tail _ (.head _)))).1
        refine append_at (hsz := by show ys.toArray.size ≤ sizeLine; rw [List.size_toArray, hyl]; exact Nat.le_trans hi hsz) zD fun h₇ hs₇ hD₇ => ?_
        refine ⟨vs.length + 1 - (i + 1), by omega, EInv.mk (i := i + 1) (ys := ys ++ [.int (f i) ty]) hlt (W.frame _ _ _ hst₆ fun b hb o q => hs₇.extBut b o (fun z => (below _ (fp_lt b hb)).2 z) q) (F₆.change hs₇ hDL hD₀) (hn₆.sameBut hs₇ (Ne.symm hDC)) (fun p hp => ?_) ?_⟩
        · rcases List.mem_cons.mp hp with rfl | hp
          · exact ⟨hD₇.trans (congrArg some (LCg.lst_snoc ys _)), hDL, hD₀⟩
          · exact ⟨hs₇.extBut _ _ (below _ (nlt p hp)).2 (N₆ p (.tail _ (.tail _ (.tail _ hp)))).1, (N p hp).2⟩
        · rw [List.range_succ, List.map_append]
          exact hys.append (.cons _ _ .nil)
      · obtain rfl : i = vs.length := Nat.le_antisymm hi (Nat.not_lt.mp hlt)
        refine W.done _ _ _ (by simpa using hst') fun h₂ tk₂ hk₂ => ?_
        refine ⟨_, hn'.at' fun o q => hk₂ _ o hCw q, fun h'' hs'' => fin _ ys h'' tk₂ hys ((frw F' hk₂).change hs'' hCL hC₀) (fun p hp => ?_) off1⟩
        have z := nww N' (offD' ys) hk₂ p hp
        refine ⟨hs''.extBut _ _ ?_ z.1, z.2⟩
        rcases List.mem_cons.mp hp with rfl | hp
        · exact hDC
        · exact (below _ (nlt p hp)).1
    · rcases List.mem_cons.mp hp with rfl | hp
      · exact ⟨hacc, hDL, hD₀⟩
      · exact ⟨old _ _ (N p hp).1, (N p hp).2⟩
end
theorem enum_over_F {prog : Program} {w : World} {A : Around} {E : Value → Shared → Prop} {s : Shared} {h₀ : Heap} {L : Addr} {m : Str → Option Value} {env : Env} {elt : Expr} {x x₂ : Str} {scope : Scope} {cl : List (Str × Addr)} {Q : Value → Shared → Prop} {l : Addr} {vs : List Value} {c : Nat} {news : List (Addr × Obj)}
    (hh : A.handled = none) (F : Fr h₀ L s.heap m) (N : News h₀ L s.heap ((l, W.listOf vs.toArray c) :: news)) (hsz : vs.length ≤ 1000) (f : Nat → Int)
    (turn : ∀ i t v e oI C oC D m₂ h tk ys (E' : Value → Shared → Prop), i < vs.length → vs[i]? = some v → LCg.NsObj oC m₂ → m₂ x = some (.int ((i : Nat) : Int) t) → m₂ x₂ = some v → Fr h₀ L h m → News h₀ L h ((e, oI) :: (C, oC) :: (D, LCg.lst ys) :: (l, W.listOf vs.toArray c) :: news) →
      wpAny (model prog w) A (eval elt (compEnvC scope cl C env)) (IntOut (f i) s h) E' { s with heap := h, toks := tk })
    (fin : ∀ D ys h tk, IntsAre ys ((List.range vs.length).map f) → Fr h₀ L h m → News h₀ L h ((D, LCg.lst ys) :: (l, W.listOf vs.toArray c) :: news) → LCg.Off1 D ((l, W.listOf vs.toArray c) :: news) → Q (.ref D) { s with heap := h, toks := tk }) :
    wpAny (model prog w) A (call (.type "enumerate") [.ref l]) (EnumOver prog w A h₀ L m env elt x x₂ scope cl Q) E s := by
  have hl := N _ (.head _)
  have hls : s.heap.IsList l vs.toArray := ⟨_, hl.1, rfl, c, rfl⟩
  have hlt : l < s.heap.objs.size := Heap.lt_size hl.1
  have hLs : L < s.heap.objs.size := F.ns.lt
  refine call_enumerate_list hls fun h' he hit _ hk => ?_
  have h0 : ∀ a, s.heap.objs.size ≤ a → h₀.get? a = none := fun a ha => by
    cases q : h₀.get? a with
    | none => rfl
    | some o' => exact absurd (Heap.lt_size (F.keep _ _ q)) (Nat.not_lt.mpr ha)
  refine EnumOver.mk _ _ l vs _ f _ hh he hit (hls.at fun o q => hk l o q) (Nat.succ_ne_self _) (Nat.ne_of_lt (Nat.lt_succ_of_lt hlt)) (Nat.ne_of_lt hlt) (Nat.ne_of_lt (Nat.lt_succ_of_lt hLs)) (Nat.ne_of_lt hLs) (h0 _ (Nat.le_succ _)) (h0 _ (Nat.le_refl _)) (fun p hp => ?_) (F.keeps hk) (N.grown hk) (by rw [PySem.sizeLine_eq]; omega) (fun i t v oI C oC D m₂ h tk ys E' => turn i t v _ oI C oC D m₂ h tk ys E') fin
  have := Heap.lt_size (N p hp).1
  exact ⟨Nat.ne_of_lt (Nat.lt_succ_of_lt this), Nat.ne_of_lt this⟩
section
variable {prog : Program} {w : World} {A : Around} {E : Value → Shared → Prop} {s : Shared} {h₀ : Heap} {env : Env}
/-- a turn's end where what is kept may be a new object -/
def TurnV (h₀ : Heap) (L : Addr) (J : (Str → Option Value) → List (Addr × Obj) → Prop) (I : Addr) (oI : Obj) (s₁ : Shared) (f : Flow) (s₂ : Shared) : Prop :=
  f = .next ∧ ∃ h' tk m' news' nx, s₂ = { s₁ with heap := h', toks := tk } ∧ Fr h₀ L h' m' ∧ News h₀ L h' news' ∧ (∀ p ∈ nx, p ∈ news') ∧ (I, oI) ∈ news' ∧ (∀ p ∈ nx, p.1 ≠ I) ∧ J m' nx
theorem TurnV.mk {L : Addr} {J : (Str → Option Value) → List (Addr × Obj) → Prop} {I : Addr} {oI : Obj} {s₁ : Shared} {h' : Heap} {tk : Nat} {m' : Str → Option Value} {news' nx : List (Addr × Obj)} (F : Fr h₀ L h' m') (N : News h₀ L h' news') (hj : J m' nx) (hn : ∀ p ∈ nx, p ∈ news') (hi : (I, oI) ∈ news') (hI : ∀ p ∈ nx, p.1 ≠ I) :
    TurnV h₀ L J I oI s₁ .next { s₁ with heap := h', toks := tk } := ⟨rfl, h', tk, m', news', nx, rfl, F, N, hn, hi, hI, hj⟩
theorem loop1V {x : Str} {body : List Stmt} {Q : Flow → Shared → Prop} {xv : Value} {n : Nat} {P : Nat → Value → Prop} {m₀ : Str → Option Value} {news : List (Addr × Obj)} (S : Src prog w A s xv n P) (J : Nat → (Str → Option Value) → List (Addr × Obj) → Prop)
    (F : Fr h₀ env.locals s.heap m₀) (N : News h₀ env.locals s.heap news) (hj : J 0 m₀ news)
    (turn : ∀ i v m₁ news₁ h tk I oI, i < n → P i v → (∀ p ∈ news₁, p.1 ≠ I) → J i m₁ news₁ → Fr h₀ env.locals h (fun y => if y = x then some v else m₁ y) → News h₀ env.locals h ((I, oI) :: news₁) →
      wpAny (model prog w) A (execs body env) (TurnV h₀ env.locals (J (i + 1)) I oI { s with heap := h, toks := tk }) E { s with heap := h, toks := tk })
    (done : ∀ m₁ news₁ h tk, J n m₁ news₁ → Fr h₀ env.locals h m₁ → News h₀ env.locals h news₁ → Q .next { s with heap := h, toks := tk }) :
    wpAny (model prog w) A (pyIter xv) (fun it s₂ => LoopAtV prog w A h₀ env x body Q E it s₂) E s := by
  obtain ⟨o, St, hit, W, hIo, hst⟩ := S
  refine hit _ _ ?_
  have hI₀ : h₀.get? s.heap.objs.size = none := next_is_new F
  refine ⟨s.heap.objs.size, _, _, n, P, St, m₀, news, J, rfl, W, ?_, ?_, ?_, hst, F.push _, fun p hp => ⟨Heap.get?_push_of_some _ (N p hp).1, (N p hp).2⟩, hj, ?_, ?_⟩
  · intro hm
    exact absurd F.ns.lt ((List.mem_singleton.mp hm) ▸ Nat.lt_irrefl _)
  · intro b hb
    rw [List.mem_singleton.mp hb]
    exact hI₀
  · intro p hp hI
    exact absurd (Heap.lt_size (N p hp).1) ((List.mem_singleton.mp hI) ▸ Nat.lt_irrefl _)
  · rintro i v m₁ news₁ s₁ own ⟨hh', tk', rfl⟩ hin hP hJ hoff hown hval hmem hst₁ F₁ N₁
    obtain ⟨oI, hoI⟩ := hIo _ _ hst₁
    have hIown : (s.heap.objs.size, oI) ∈ own := hmem _ (List.mem_singleton.mpr rfl) hI₀ _ hoI
    have hI := N₁ _ (List.mem_append_left _ hIown)
    have N₂ : News h₀ env.locals hh' ((s.heap.objs.size, oI) :: news₁) := fun p hp => by
      rcases List.mem_cons.mp hp with rfl | hp
      · exact hI
      · exact N₁ p (List.mem_append_right _ hp)
    refine wpAny_mono (turn i v m₁ news₁ hh' tk' _ oI hin hP (fun p hp q => hoff p hp (List.mem_singleton.mpr q)) hJ F₁ N₂) (fun f s₂ p => ?_) fun _ _ e => e
    obtain ⟨rfl, h', tk, m', news', nx, rfl, F', N', hn, hi, hne, hj'⟩ := p
    refine .next ⟨rfl, h', tk, m', nx, rfl, F', fun p hp => ?_, fun p hp q => hne p hp (List.mem_singleton.mp q), hj'⟩
    rcases List.mem_append.mp hp with hp | hp
    · have e1 : p.1 = s.heap.objs.size := List.mem_singleton.mp (hown p hp)
      have e2 := hval p hp
      rw [e1] at e2
      have e3 : some p.2 = some oI := e2.symm.trans hI.1
      have : p = (s.heap.objs.size, oI) := Prod.ext e1 (Option.some.inj e3)
      rw [this]
      exact N' _ hi
    · exact N' p (hn p hp)
  · intro h' tk m' news' F' N' _ hJ
    exact done m' news' h' tk hJ F' N'
end
theorem small_1L {n : Nat} (h : n + 1 ≤ 100) : Builtin.Range.small 0 ((n : Int) + 1) 1 = true := by
  have : ∀ n ≤ 99, Builtin.Range.small 0 (((n : Nat) : Int) + 1) 1 = true := by decide +kernel
  exact this n (by omega)
theorem size_1L {n : Nat} : Builtin.Range.rangeSize 0 ((n : Int) + 1) 1 = ((n + 1 : Nat) : Int) := by
  unfold Builtin.Range.rangeSize
  rw [if_pos (by decide)]
  split <;> omega
theorem and63 (x : Int) : 0 ≤ Builtin.bitAnd x 63 ∧ Builtin.bitAnd x 63 < 64 := by
  rw [bitAnd_m6]
  omega
theorem add_lists_FI {prog : Program} {w : World} {A : Around} {E : Value → Shared → Prop} {s : Shared} {h₀ : Heap} {L : Addr} {m : Str → Option Value} {news : List (Addr × Obj)} {l b : Addr} {vs ws : List Value} {ns ms : List Int} {Q : Value → Shared → Prop} (F : Fr h₀ L s.heap m) (N : News h₀ L s.heap news) (hl : s.heap.IsList l vs.toArray) (hb : s.heap.IsList b ws.toArray) (hi : IntsAre vs ns) (hj : IntsAre ws ms) (hz : ns.length + ms.length ≤ 100000)
    (h : ∀ h' x, (∀ p ∈ news, p.1 < x) → Fr h₀ L h' m → News h₀ L h' ((x, W.listOf (vs ++ ws).toArray 0) :: news) → IntsAre (vs ++ ws) (ns ++ ms) → Q (.ref x) { s with heap := h' }) :
    wpAny (model prog w) A (binaryOp .Add (.ref l) (.ref b)) Q E s :=
  add_lists_ints (hsz := by rw [PySem.sizeLine_eq]; omega) F N hl hb hi hj fun h' F' N' hI => h h' _ (fun p hp => Heap.lt_size (N p hp).1) F' N' hI
theorem pick5 {α : Type} {a b c d e f g : α} {p : α} (h : p ∈ [a, c, d, f, g]) : p ∈ [a, b, c, d, e, f, g] := by
  simp only [List.mem_cons, List.not_mem_nil, or_false] at h ⊢
  rcases h with h | h | h | h | h <;> simp [h]
theorem sig_item {x : Int} (h0 : 0 ≤ x) (h1 : x < 64) : (((sigA.toList.getD x.toNat 0).toNat : Nat) : Int) = sg x := by
  have : ∀ n < 64, (((sigA.toList.getD n 0).toNat : Nat) : Int) = sigs.getD n 0 := by decide +kernel
  exact this x.toNat (by omega)
theorem lm_three {α : Type} {a b c : α} {l : List α} (h : a ∈ l) (g : b ∈ l) (f : c ∈ l) : ∀ p ∈ [a, b, c], p ∈ l := fun p hp => by
  simp only [List.mem_cons, List.not_mem_nil, or_false] at hp
  rcases hp with rfl | rfl | rfl <;> assumption
theorem lm_ne3 {a b c : Addr × Obj} {x : Addr} (h : a.1 ≠ x) (g : b.1 ≠ x) (f : c.1 ≠ x) : ∀ p ∈ [a, b, c], p.1 ≠ x := fun p hp => by
  simp only [List.mem_cons, List.not_mem_nil, or_false] at hp
  rcases hp with rfl | rfl | rfl <;> assumption
theorem map3_out3 {a b c : Str} {v x x' y u : Option Value} {m₀ : Str → Option Value} : (fun z => if z = a then v else if z = b then x' else if z = a then x else if z = b then y else if z = c then u else m₀ z) = fun z => if z = a then v else if z = b then x' else if z = c then u else m₀ z := by
  funext z
  by_cases h1 : z = a
  · rw [if_pos h1, if_pos h1]
  · by_cases h2 : z = b
    · rw [if_neg h1, if_pos h2, if_neg h1, if_pos h2]
    · rw [if_neg h1, if_neg h2, if_neg h1, if_neg h2, if_neg h1, if_neg h2]
theorem small_3 {n : Nat} (h : n ≤ 100) : Builtin.Range.small 0 (n : Int) 3 = true := by
  have : ∀ n ≤ 100, Builtin.Range.small 0 ((n : Nat) : Int) 3 = true := by decide +kernel
  exact this n h
/-- the sum of a group, its signs, the group as it is written -/
def btotal (cs : List Int) : Int := ((List.range cs.length).map fun i => cs.getD i 0 * 2 ^ (16 - 8 * (i : Int)).toNat).sum
def bitAt (t : Int) (j : Nat) : Int := sg (Builtin.bitAnd (t.fdiv (2 ^ (18 - 6 * (j : Int)).toNat)) 63)
def bchunk (cs : List Int) : List Int := (List.range (cs.length + 1)).map (bitAt (btotal cs)) ++ List.replicate (3 - cs.length) 61
def bits (ks : List Int) : List Int := ((List.range ((ks.length + 2) / 3)).map fun i => bchunk ((ks.drop (3 * i)).take 3)).flatten
theorem bchunk_eq (cs : List Int) : bchunk cs = (List.range (cs.length + 1)).map (bitAt (btotal cs)) ++ List.replicate (3 - cs.length) 61 := rfl
theorem bchunk_len {cs : List Int} (h : cs.length ≤ 3) : (bchunk cs).length = 4 := by
  unfold bchunk
  rw [List.length_append, List.length_map, List.length_range, List.length_replicate]
  omega
theorem bits_len (ks : List Int) : ∀ i : Nat, (((List.range i).map fun i => bchunk ((ks.drop (3 * i)).take 3)).flatten).length = 4 * i
  | 0 => rfl
  | i + 1 => by
    rw [List.range_succ, List.map_append, List.flatten_append, List.length_append, bits_len ks i]
    have : (bchunk ((ks.drop (3 * i)).take 3)).length = 4 := bchunk_len (by rw [List.length_take]; omega)
    simp [this]
    omega
theorem rep61 {n : Nat} : (List.replicate (3 - (n : Int)).toNat [(61 : Int)]).flatten = List.replicate (3 - n) 61 := by
  rw [show (3 - (n : Int)).toNat = 3 - n by omega]
  induction (3 - n) with
  | zero => rfl
  | succ k ih => rw [List.replicate_succ, List.flatten_cons, ih, List.replicate_succ]; rfl
theorem map_four {a b c : Str} {v : Option Value} {m₀ : Str → Option Value} (h : m₀ a = v) : m₀ = fun z => if z = a then v else if z = b then m₀ b else if z = c then m₀ c else m₀ z := by
  funext z
  by_cases h1 : z = a
  · rw [if_pos h1, h1, h]
  · by_cases h2 : z = b
    · rw [if_neg h1, if_pos h2, h2]
    · by_cases h3 : z = c
      · rw [if_neg h1, if_neg h2, if_pos h3, h3]
      · rw [if_neg h1, if_neg h2, if_neg h3]
theorem clipAt_natL (n i : Nat) : clipAt n i = min i n := by
  unfold clipAt; split <;> omega
theorem cut3 (ks : List Int) (i : Nat) : List.take (clipAt ks.length (0 + (i : Int) * 3 + 3) - clipAt ks.length (0 + (i : Int) * 3)) (List.drop (clipAt ks.length (0 + (i : Int) * 3)) ks) = (ks.drop (3 * i)).take 3 := by
  rw [show (0 + (i : Int) * 3) = ((3 * i : Nat) : Int) by omega, show (((3 * i : Nat) : Int) + 3) = ((3 * i + 3 : Nat) : Int) from rfl, clipAt_natL, clipAt_natL]
  by_cases h : 3 * i ≤ ks.length
  · rw [Nat.min_eq_left h, take_clip]
  · have h1 : ks.length ≤ 3 * i := Nat.le_of_not_le h
    rw [Nat.min_eq_right h1, List.drop_length, List.drop_eq_nil_of_le h1, List.take_nil, List.take_nil]
theorem bits_succ (ks : List Int) (i : Nat) : ((List.range (i + 1)).map fun i => bchunk ((ks.drop (3 * i)).take 3)).flatten = ((List.range i).map fun i => bchunk ((ks.drop (3 * i)).take 3)).flatten ++ bchunk ((ks.drop (3 * i)).take 3) := by
  rw [List.range_succ, List.map_append, List.flatten_append]
  simp
theorem sg_in (j : Int) : 0 ≤ sg j ∧ sg j < 256 := by
  have h : ∀ k ∈ sigs, 0 ≤ k ∧ k < 256 := by decide +kernel
  exact KBw.getD_in h
theorem bits_in (ks : List Int) : ∀ k ∈ bits ks, 0 ≤ k ∧ k < 256 := by
  intro k hk
  obtain ⟨l, hl, hk⟩ := List.mem_flatten.mp hk
  obtain ⟨i, _, rfl⟩ := List.mem_map.mp hl
  rcases List.mem_append.mp hk with hk | hk
  · obtain ⟨j, _, rfl⟩ := List.mem_map.mp hk
    exact sg_in _
  · rw [(List.mem_replicate.mp hk).2]
    decide
inductive BitsInv (L : List Int) (T : Addr) (r : Addr × Obj) (a c : Addr) (m₀ m : Str → Option Value) : List (Addr × Obj) → Prop
  | mk (l : Addr) (vs : List Value) (nn : Nat) (oT : Obj) (cv : Option Value) (u1 u2 : Option Value) : oT.data = .cell cv → (a < l ∧ c < l) → IntsAre vs L → (m = fun z => if z = Str.ofString "found" then some (.ref l) else if z = Str.ofString "some" then u1 else if z = Str.ofString "at" then u2 else m₀ z) → BitsInv L T r a c m₀ m [(l, PySem.W.listOf vs.toArray nn), (T, oT), r]
set_option maxHeartbeats 1000000 in
theorem law_bits_ok (b : Array UInt8) (ks : List Int) (hb : KBw.bInts b = ks) (hk : ks.length ≤ 30) (t1 : Tok) : PC 4 263 [.bytes b t1] (Im (IsB (bits ks))) := by
  have hin : ∀ k ∈ ks, 0 ≤ k ∧ k < 256 := fun k hk => KBw.ints_in (b := b) (by rw [hb]; exact hk)
  unfold PC
  k_fill
  intro w mean mg mb dp un gd cn cs a ccd cl outer A₀ base h₀ L m s Q E B F X T hcs hd hu hret
  (k_dflt (refine' enterC ?zh52620k1 ?zh52620k2 ?zh52620k3 ?zh52620k5 ?zh52620kA ?zh52620kF ?zh52620kK ?zh52620k6 ?zh52620k7 ?zh52620k8 ?zh52620k9 ?zh52620kB ?zh52620kD ?_ ?zh52620c2 ?zh52620c3 ?zh52620c4; (case zh52620kA => exact rfl); (case zh52620kF => exact rfl); (case zh52620kK => first | assumption | exact rfl); (case zh52620k1 => k_asm); (case zh52620k2 => k_asm); (case zh52620k3 => k_asm); (case zh52620k5 => k_asm); (case zh52620k6 => k_is); (case zh52620k7 => k_is); (case zh52620k8 => (first | exact room_1 hd rfl | exact room_0 hd | ktr_room)); (case zh52620k9 => exact BindsTo.of_eq rfl); (case zh52620kB => exact rfl); (case zh52620kD => decide +kernel); (case zh52620c2 => exact rfl); (case zh52620c3 => exact rfl); (case zh52620c4 => exact rfl); k_whole; intro gzz Lzz hzz tkzz cellszz hgzz FGzz Fzz Nzz Yzz Bzz Xzz Tzz; k_cells Yzz; (try dsimp only); (try k_lift Bzz); (try (show wpAny _ _ _ _ _ _)); (try k_fold)))
  (repeat' (first | (k_unfold; (try dsimp only)) | ((fail_if_success (with_reducible show KswEnd _ _ _ _ _ _ _ _ _ _ _ _)); (fail_if_success (with_reducible show InvEndN _ _ _ _ _ _ _)); (fail_if_success (with_reducible show wpAny _ _ (exec (Stmt.While _ _ _ _) _) _ _ _)); (fail_if_success (with_reducible show wpAny _ _ (exec (Stmt.For _ _ _ _ _) _) _ _ _)); (fail_if_success (with_reducible show wpAny _ _ (exec (Stmt.Assign _ (PySem.Expr.ListComp _ _ _ _) _) _) _ _ _)); (fail_if_success (with_reducible show wpAny _ _ (eval (PySem.Expr.ListComp _ _ _ _) _) _ _ _)); (first | walk1 | (dsimp only; walk1))) | (leave1; walk_say "STEP leave1"; try dsimp only)))
  (((rename Fr _ _ _ _ => lFzz); (with_unfolding_all refine' For_invVF lFzz ?zh39862k1 ?zh39862k2 ?_); (case zh39862k1 => exact rfl); (case zh39862k2 => exact rfl); (repeat' (first | (k_unfold; (try dsimp only)) | ((fail_if_success (with_reducible show wpAny _ _ (pyIter _) _ _ _)); (fail_if_success (with_reducible show wpAny _ _ (exec (Stmt.While _ _ _ _) _) _ _ _)); (fail_if_success (with_reducible show wpAny _ _ (exec (Stmt.For _ _ _ _ _) _) _ _ _)); (fail_if_success (with_reducible show wpAny _ _ (exec (Stmt.Assign _ (PySem.Expr.ListComp _ _ _ _) _) _) _ _ _)); (fail_if_success (with_reducible show wpAny _ _ (eval (PySem.Expr.ListComp _ _ _ _) _) _ _ _)); (first | walk1 | (dsimp only; walk1))) | (leave1; walk_say "STEP leave1"; try dsimp only)))))
  rename Fr _ _ _ _ => lF
  rename News _ _ _ _ => lN
  rename IsRange _ _ _ _ _ _ _ _ => hR
  rename _ < _ ∧ _ < _ ∧ _ < _ => hl3
  clear hl3
  rename _ < _ ∧ _ < _ => hl2
  refine with_map lF ?_
  intro m₀ em lF2
  have hlf := (congrFun em (Str.ofString "found")).trans (if_pos (rfl : Str.ofString "found" = Str.ofString "found"))
  k_dflt refine loop1V (src_range (n := (ks.length + 2) / 3) (by rfl) hR ?s1 ?s2) (fun i m nx => BitsInv (((List.range i).map fun i => bchunk ((ks.drop (3 * i)).take 3)).flatten) _ _ _ _ m₀ m nx) lF2 (fun p hp => lN p (.tail _ hp)) (.mk _ _ _ _ _ _ _ (by assumption) hl2 .nil (map_four hlf)) ?_ ?_
  case s1 => exact small_3 (by omega)
  case s2 =>
    unfold Builtin.Range.rangeSize
    rw [if_pos (by decide)]
    split <;> omega
  · rintro i v m₁ nx h tk I oI hi ⟨tv, rfl⟩ hoff ⟨l, vs, nn, oT, cv, u1, u2, hcell, ⟨hla, hlb⟩, hvs, rfl⟩ F₁ N₁
    rw [map3_in (by decide) (by decide)] at F₁
    subst em
    have hI1 := hoff _ (.head _)
    have hI2 := hoff _ (.tail _ (.head _))
    have hI3 := hoff _ (.tail _ (.tail _ (.head _)))
    dsimp only at hI1 hI2 hI3
    have hJ1 := Ne.symm hI1
    have hJ2 := Ne.symm hI2
    have hJ3 := Ne.symm hI3
    clear lN lF lF2 hR hl2 hlf hoff
    revert F₁ N₁
    iterate 1 (rename Fr _ _ _ _ => z; clear z)
    iterate 1 (rename News _ _ _ _ => z; clear z)
    intro F₁ N₁
    (repeat' (first | (k_unfold; (try dsimp only)) | ((fail_if_success (with_reducible show KswEnd _ _ _ _ _ _ _ _ _ _ _ _)); (fail_if_success (with_reducible show InvEndN _ _ _ _ _ _ _)); (fail_if_success (with_reducible show wpAny _ _ (exec (Stmt.While _ _ _ _) _) _ _ _)); (fail_if_success (with_reducible show wpAny _ _ (exec (Stmt.For _ _ _ _ _) _) _ _ _)); (fail_if_success (with_reducible show wpAny _ _ (exec (Stmt.Assign _ (PySem.Expr.ListComp _ _ _ _) _) _) _ _ _)); (fail_if_success (with_reducible show wpAny _ _ (eval (PySem.Expr.ListComp _ _ _ _) _) _ _ _)); (first | walk1 | (dsimp only; walk1))) | (leave1; walk_say "STEP leave1"; try dsimp only)))
    rename KBw.bInts _ = List.take _ _ => hcut
    have hcut2 := hcut.trans (cut3 ks i)
    clear hcut
    have hc1 : 1 ≤ ((ks.drop (3 * i)).take 3).length := by rw [List.length_take, List.length_drop]; omega
    have hc3 : ((ks.drop (3 * i)).take 3).length ≤ 3 := by rw [List.length_take, List.length_drop]; omega
    have hcin : ∀ k ∈ (ks.drop (3 * i)).take 3, 0 ≤ k ∧ k < 256 := fun k hk => hin k (List.mem_of_mem_drop (List.mem_of_mem_take hk))
    have hnext := bits_succ ks i
    generalize (ks.drop (3 * i)).take 3 = cs3 at hcut2 hc1 hc3 hcin hnext
    rename Fr _ _ _ _ => fL
    rename News _ _ _ _ => nL
    refine list_bytes_F (by rfl) fL nL hcut2 (by omega) ?_
    intro h2 tk2 ws wc xw hxw fW nW hws
    have hw1 := hxw _ (.head _)
    have hw2 := hxw _ (.tail _ (.head _))
    have hw3 := hxw _ (.tail _ (.tail _ (.head _)))
    have hw4 := hxw _ (.tail _ (.tail _ (.tail _ (.head _))))
    dsimp only at hw1 hw2 hw3 hw4
    clear hxw fL nL hcut2
    (repeat' (first | (k_unfold; (try dsimp only)) | ((fail_if_success (with_reducible show KswEnd _ _ _ _ _ _ _ _ _ _ _ _)); (fail_if_success (with_reducible show InvEndN _ _ _ _ _ _ _)); (fail_if_success (with_reducible show wpAny _ _ (exec (Stmt.While _ _ _ _) _) _ _ _)); (fail_if_success (with_reducible show wpAny _ _ (exec (Stmt.For _ _ _ _ _) _) _ _ _)); (fail_if_success (with_reducible show wpAny _ _ (exec (Stmt.Assign _ (PySem.Expr.ListComp _ _ _ _) _) _) _ _ _)); (fail_if_success (with_reducible show wpAny _ _ (eval (PySem.Expr.ListComp _ _ _ _) _) _ _ _)); (first | walk1 | (dsimp only; walk1))) | (leave1; walk_say "STEP leave1"; try dsimp only)))
    k_dflt refine compE (by k_asm) (by with_unfolding_all rfl) (by decide) (by rfl) (by decide) (by rfl) (by rfl) (by decide) ?_
    (repeat' (first | (k_unfold; (try dsimp only)) | ((fail_if_success (with_reducible show KswEnd _ _ _ _ _ _ _ _ _ _ _ _)); (fail_if_success (with_reducible show InvEndN _ _ _ _ _ _ _)); (fail_if_success (with_reducible show wpAny _ _ (exec (Stmt.While _ _ _ _) _) _ _ _)); (fail_if_success (with_reducible show wpAny _ _ (exec (Stmt.For _ _ _ _ _) _) _ _ _)); (fail_if_success (with_reducible show wpAny _ _ (exec (Stmt.Assign _ (PySem.Expr.ListComp _ _ _ _) _) _) _ _ _)); (fail_if_success (with_reducible show wpAny _ _ (eval (PySem.Expr.ListComp _ _ _ _) _) _ _ _)); (first | walk1 | (dsimp only; walk1))) | (leave1; walk_say "STEP leave1"; try dsimp only)))
    rename Fr _ _ _ _ => fL
    rename News _ _ _ _ => nL
    have hwl : ws.length = cs3.length := (IntsAre.length hws)
    refine enum_over_F (by rfl) fL nL (by omega) (fun i => cs3.getD i 0 * 2 ^ (16 - 8 * (i : Int)).toNat) ?turn ?fin
    case turn =>
      intro j tj vj e oI C oC D m₂ h tk ys E' hj hv hC hx1 hx2 F₂ N₂
      obtain ⟨k, tk', hk', rfl⟩ := ints_at hws hv
      obtain ⟨hk0, hk1⟩ := hcin k (List.mem_of_getElem? hk')
      have hj3 : j < 3 := by omega
      have hgd : cs3.getD j 0 = k := by rw [List.getD_eq_getElem?_getD, hk']; rfl
      clear fL nL
      (repeat' (first | (k_unfold; (try dsimp only)) | ((fail_if_success (with_reducible show KswEnd _ _ _ _ _ _ _ _ _ _ _ _)); (fail_if_success (with_reducible show InvEndN _ _ _ _ _ _ _)); (fail_if_success (with_reducible show wpAny _ _ (exec (Stmt.While _ _ _ _) _) _ _ _)); (fail_if_success (with_reducible show wpAny _ _ (exec (Stmt.For _ _ _ _ _) _) _ _ _)); (fail_if_success (with_reducible show wpAny _ _ (exec (Stmt.Assign _ (PySem.Expr.ListComp _ _ _ _) _) _) _ _ _)); (fail_if_success (with_reducible show wpAny _ _ (eval (PySem.Expr.ListComp _ _ _ _) _) _ _ _)); (first | walk1 | (dsimp only; walk1))) | (leave1; walk_say "STEP leave1"; try dsimp only)))
      rw [hgd]
      exact ⟨_, _, rfl, rfl⟩
    case fin =>
      intro D ys h3 tk3 hys fD nD o1
      rw [hwl] at hys
      clear fL nL
      (repeat' (first | (k_unfold; (try dsimp only)) | ((fail_if_success (with_reducible show KswEnd _ _ _ _ _ _ _ _ _ _ _ _)); (fail_if_success (with_reducible show InvEndN _ _ _ _ _ _ _)); (fail_if_success (with_reducible show wpAny _ _ (exec (Stmt.While _ _ _ _) _) _ _ _)); (fail_if_success (with_reducible show wpAny _ _ (exec (Stmt.For _ _ _ _ _) _) _ _ _)); (fail_if_success (with_reducible show wpAny _ _ (exec (Stmt.Assign _ (PySem.Expr.ListComp _ _ _ _) _) _) _ _ _)); (fail_if_success (with_reducible show wpAny _ _ (eval (PySem.Expr.ListComp _ _ _ _) _) _ _ _)); (first | walk1 | (dsimp only; walk1))) | (leave1; walk_say "STEP leave1"; try dsimp only)))
      rename Fr _ _ _ _ => fS
      rename News _ _ _ _ => nS
      clear fD nD
      with_unfolding_all refine stCN (own := [_, _, _]) (rest := [_]) fS (fun p hp => nS p (.tail _ hp)) rfl hcell ?h1 ?h2 ?_
      case h1 =>
        intro p hp
        simp only [List.mem_cons, List.not_mem_nil, or_false] at hp
        rcases hp with rfl | rfl | rfl
        · exact Nat.ne_of_gt hw3
        · exact hJ2
        · exact Nat.ne_of_gt hla
      case h2 =>
        intro p hp
        rw [List.mem_singleton.mp hp]
        exact Nat.ne_of_lt (Nat.lt_succ_self _)
      clear fS nS o1
      intro h4 o4 f4 n4 hd4
      change _ = Data.cell (some (.int (btotal cs3) _)) at hd4
      have hbc := bchunk_eq cs3
      generalize btotal cs3 = tot at hd4 hbc
      (repeat' (first | (k_unfold; (try dsimp only)) | ((fail_if_success (with_reducible show KswEnd _ _ _ _ _ _ _ _ _ _ _ _)); (fail_if_success (with_reducible show InvEndN _ _ _ _ _ _ _)); (fail_if_success (with_reducible show wpAny _ _ (exec (Stmt.While _ _ _ _) _) _ _ _)); (fail_if_success (with_reducible show wpAny _ _ (exec (Stmt.For _ _ _ _ _) _) _ _ _)); (fail_if_success (with_reducible show wpAny _ _ (exec (Stmt.Assign _ (PySem.Expr.ListComp _ _ _ _) _) _) _ _ _)); (fail_if_success (with_reducible show wpAny _ _ (eval (PySem.Expr.ListComp _ _ _ _) _) _ _ _)); (first | walk1 | (dsimp only; walk1))) | (leave1; walk_say "STEP leave1"; try dsimp only)))
      ((k_dflt refine comp1 (by k_asm) (by with_unfolding_all rfl) (by decide) (by rfl) (by decide) (by rfl) ?_))
      (repeat' (first | (k_unfold; (try dsimp only)) | ((fail_if_success (with_reducible show KswEnd _ _ _ _ _ _ _ _ _ _ _ _)); (fail_if_success (with_reducible show InvEndN _ _ _ _ _ _ _)); (fail_if_success (with_reducible show wpAny _ _ (exec (Stmt.While _ _ _ _) _) _ _ _)); (fail_if_success (with_reducible show wpAny _ _ (exec (Stmt.For _ _ _ _ _) _) _ _ _)); (fail_if_success (with_reducible show wpAny _ _ (exec (Stmt.Assign _ (PySem.Expr.ListComp _ _ _ _) _) _) _ _ _)); (fail_if_success (with_reducible show wpAny _ _ (eval (PySem.Expr.ListComp _ _ _ _) _) _ _ _)); (first | walk1 | (dsimp only; walk1))) | (leave1; walk_say "STEP leave1"; try dsimp only)))
      rename IsRange _ _ _ _ _ _ _ _ => hR
      k_dflt refine ⟨_, _, [(_, _), (_, _), (_, _), (_, _), (_, _)], src_range (n := cs3.length + 1) (by rfl) hR ?s1 ?s2, by assumption, by assumption, ?s3, fun g => rest_each (fun j y => IsI (bitAt tot j) y) ?_ ?_⟩
      case s3 => rw [PySem.sizeLine_eq]; omega
      case s1 => exact small_1L (by omega)
      case s2 => exact size_1L
      clear fW nW
      · rintro j v I' oI' C oC D' m₂ ys' h tk E' hj ⟨tv', rfl⟩ hC hx F₂ N₂ off ne
        have hj4 : j < 4 := by omega
        have e0 : 0 + (j : Int) * 1 = (j : Int) := by omega
        rw [e0] at hx
        obtain ⟨hq0, hq1⟩ := and63 (tot.fdiv (2 ^ (18 - 6 * (j : Int)).toNat))
        (repeat' (first | (k_unfold; (try dsimp only)) | ((fail_if_success (with_reducible show KswEnd _ _ _ _ _ _ _ _ _ _ _ _)); (fail_if_success (with_reducible show InvEndN _ _ _ _ _ _ _)); (fail_if_success (with_reducible show wpAny _ _ (exec (Stmt.While _ _ _ _) _) _ _ _)); (fail_if_success (with_reducible show wpAny _ _ (exec (Stmt.For _ _ _ _ _) _) _ _ _)); (fail_if_success (with_reducible show wpAny _ _ (exec (Stmt.Assign _ (PySem.Expr.ListComp _ _ _ _) _) _) _ _ _)); (fail_if_success (with_reducible show wpAny _ _ (eval (PySem.Expr.ListComp _ _ _ _) _) _ _ _)); (first | walk1 | (dsimp only; walk1))) | (leave1; walk_say "STEP leave1"; try dsimp only)))
        exact ⟨_, _, _, rfl, by assumption, by assumption, off, trivial, rfl, _, congrArg (fun k => Value.int k _) (sig_item hq0 hq1)⟩
      · intro ys' hl hy
        unfold LCg.FinE
        intro D' h tk F' N' o1
        have hst : IntsAre ys' ((List.range (cs3.length + 1)).map (bitAt tot)) := ints_of_each (by rw [hl]; simp) fun i y h => (by
          have h' := hy i y h
          have hi : i < cs3.length + 1 := by rw [← hl]; exact (List.getElem?_eq_some_iff.mp h).1
          rw [List.getD_eq_getElem?_getD, List.getElem?_map, List.getElem?_range hi]
          exact h')
        refine add_lists_FI F' N' ⟨_, (N' _ (.tail _ (.tail _ (.tail _ (.head _))))).1, rfl, _, rfl⟩ ⟨_, (N' _ (.head _)).1, rfl, _, rfl⟩ hvs hst ?hz ?_
        case hz => rw [bits_len, List.length_map, List.length_range]; omega
        intro h5 x5 hx5 f5 n5 hi5
        have hx51 := hx5 _ (.tail _ (.tail _ (.tail _ (.tail _ (.head _)))))
        have hx52 := hx5 _ (.tail _ (.tail _ (.tail _ (.tail _ (.tail _ (.head _))))))
        have hx53 := hx5 _ (.tail _ (.tail _ (.head _)))
        dsimp only at hx51 hx52 hx53
        replace n5 : News _ _ _ [(x5, _), (xw, _), (I, oI), (_, o4), (_, _)] := fun p hp => n5 p (pick5 hp)
        clear hx5 F' N' o1 hst hy hl
        (repeat' (first | (k_unfold; (try dsimp only)) | ((fail_if_success (with_reducible show KswEnd _ _ _ _ _ _ _ _ _ _ _ _)); (fail_if_success (with_reducible show InvEndN _ _ _ _ _ _ _)); (fail_if_success (with_reducible show wpAny _ _ (exec (Stmt.While _ _ _ _) _) _ _ _)); (fail_if_success (with_reducible show wpAny _ _ (exec (Stmt.For _ _ _ _ _) _) _ _ _)); (fail_if_success (with_reducible show wpAny _ _ (exec (Stmt.Assign _ (PySem.Expr.ListComp _ _ _ _) _) _) _ _ _)); (fail_if_success (with_reducible show wpAny _ _ (eval (PySem.Expr.ListComp _ _ _ _) _) _ _ _)); (first | walk1 | (dsimp only; walk1))) | (leave1; walk_say "STEP leave1"; try dsimp only)))
        rename Fr _ _ _ _ => f6
        rename News _ _ _ _ => n6
        rename IntsAre (List.flatten _) _ => hrep
        refine add_lists_FI f6 n6 ⟨_, (n6 _ (.tail _ (.tail _ (.head _)))).1, rfl, _, rfl⟩ ⟨_, (n6 _ (.head _)).1, rfl, _, rfl⟩ hi5 hrep ?hz ?_
        case hz => rw [List.length_append, bits_len, List.length_map, List.length_range, rep61, List.length_replicate]; omega
        intro h7 x7 hx7 f7 n7 hi7
        have hx71 := hx7 _ (.tail _ (.tail _ (.tail _ (.tail _ (.tail _ (.head _))))))
        have hx72 := hx7 _ (.tail _ (.tail _ (.tail _ (.tail _ (.tail _ (.tail _ (.head _)))))))
        have hx73 := hx7 _ (.tail _ (.tail _ (.tail _ (.tail _ (.head _)))))
        dsimp only at hx71 hx72 hx73
        rw [rep61, List.append_assoc (List.flatten _) _ _, ← hbc, ← hnext] at hi7
        clear hx7 f6 n6
        (repeat' (first | (k_unfold; (try dsimp only)) | ((fail_if_success (with_reducible show KswEnd _ _ _ _ _ _ _ _ _ _ _ _)); (fail_if_success (with_reducible show InvEndN _ _ _ _ _ _ _)); (fail_if_success (with_reducible show wpAny _ _ (exec (Stmt.While _ _ _ _) _) _ _ _)); (fail_if_success (with_reducible show wpAny _ _ (exec (Stmt.For _ _ _ _ _) _) _ _ _)); (fail_if_success (with_reducible show wpAny _ _ (exec (Stmt.Assign _ (PySem.Expr.ListComp _ _ _ _) _) _) _ _ _)); (fail_if_success (with_reducible show wpAny _ _ (eval (PySem.Expr.ListComp _ _ _ _) _) _ _ _)); (first | walk1 | (dsimp only; walk1))) | (leave1; walk_say "STEP leave1"; try dsimp only)))
        rename Fr _ _ _ _ => fE
        rename News _ _ _ _ => nE
        refine TurnV.mk fE nE (.mk x7 _ _ o4 _ _ _ hd4 ⟨hx71, hx72⟩ hi7 map3_out3) (lm_three (.head _) (.tail _ (.tail _ (.tail _ (.tail _ (.tail _ (.tail _ (.head _))))))) (.tail _ (.tail _ (.tail _ (.tail _ (.tail _ (.tail _ (.tail _ (.head _))))))))) (.tail _ (.tail _ (.tail _ (.tail _ (.tail _ (.head _)))))) (lm_ne3 (Nat.ne_of_gt hx73) hI2 hI3)
  rintro m₁ nx h tk ⟨l, vs, nn, oT, cv, u1, u2, _, _, hvs, rfl⟩ F₁ N₁
  subst em
  clear lN lF lF2 hR hl2 hlf
  change IntsAre vs (bits ks) at hvs
  have hbn := bits_in ks
  have hlz : (bits ks).length ≤ 1000 := by unfold bits; rw [bits_len]; omega
  (repeat' (first | (k_unfold; (try dsimp only)) | ((fail_if_success (with_reducible show KswEnd _ _ _ _ _ _ _ _ _ _ _ _)); (fail_if_success (with_reducible show InvEndN _ _ _ _ _ _ _)); (fail_if_success (with_reducible show wpAny _ _ (exec (Stmt.While _ _ _ _) _) _ _ _)); (fail_if_success (with_reducible show wpAny _ _ (exec (Stmt.For _ _ _ _ _) _) _ _ _)); (fail_if_success (with_reducible show wpAny _ _ (exec (Stmt.Assign _ (PySem.Expr.ListComp _ _ _ _) _) _) _ _ _)); (fail_if_success (with_reducible show wpAny _ _ (eval (PySem.Expr.ListComp _ _ _ _) _) _ _ _)); (first | walk1 | (dsimp only; walk1))) | (leave1; walk_say "STEP leave1"; try dsimp only)))
  exact ret_im hret (by assumption) ⟨_, _, rfl, KBa.ints_make hbn⟩ (by assumption) (by assumption)
section
variable {prog : Program} {w : World} {A₀ A : Around} {s : Shared} {base h₀ : Heap} {outer : List Env} {L : Addr} {m : Str → Option Value} {env : Env} {K : Frag} {p : Program} {loose : List Str} {mean : ExcName → Option Value} {mg mb : Str → Option Value}
  {Q E : Value → Shared → Prop} {name qual : Str} {params : Arguments} {body : List Stmt} {scope : Scope} {dV kV doc pm cdv ct oc : Value} {an od : Option Addr} {osl : Array (Option Value)} {f : Addr} {args : List Value} {binds : List (Str × Value)} {x : Addr} {px : Obj}
theorem enterCM (B : Below A₀ base outer h₀) (F : Fr h₀ L s.heap m) (X₀ : K.In h₀) (T : Top p loose mean mg mb h₀) (Nx : News h₀ L s.heap [(x, px)]) (hA : A.frames = some (env :: outer)) (hf : env.frame = some L) (hke : env.scope.kind = .function)
    (ho : K.lookup f = some ⟨oc, od, .func (fnOf name qual params body scope dV kV doc pm an cdv ct), osl⟩) (hcd : codeIn K cdv qual = true) (hroom : A.depth < recursionLimit)
    (hbind : BindsTo s (fnOf name qual params body scope dV kV doc pm an cdv ct) ⟨args, []⟩ binds) (hkind : (binds.all fun y => scope.names.lookup y.1 == some .local || scope.names.lookup y.1 == some .cell) = true)
    (hnd : ((cellsFrom 0 scope.names []).map (·.1)).Nodup)
    (h : ∀ g L' h₁ tk cells, KeptBut x s.heap g → Fr h₀ L g m → Fr g L' h₁ (bindL (envOfC qual scope L' f cdv).kindOf binds fun _ => none) → News g L' h₁ ((x, px) :: cells) → x < L' →
      CellsAre (bindC (envOfC qual scope L' f cdv).kindOf binds fun _ => none) (cellsFrom (L' + 1) scope.names []) cells → Below A base (env :: outer) g → K.In g → Top p loose mean mg mb g →
      wpAny (model prog w) (A.deeper (envOfC qual scope L' f cdv)) (execs body (envOfC qual scope L' f cdv))
        (fun fl s' => LeaveK h₀ L m g (fun r s' => match r with | .ok (.ret v) => Q v s' | .ok _ => False | .error e => E e s') (match fl with | .ret v => v | _ => .none) s')
        (fun e s' => wpAny (model prog w) (A.deeper (envOfC qual scope L' f cdv)) (leaving (envOfC qual scope L' f cdv) e) (fun _ s'' => E e s'') (fun e' s'' => E e' s'') s')
        { s with heap := h₁, toks := tk })
    (hco : scope.isCoroutine = false) (hgen : scope.isGenerator = false) (hk : scope.kind = .function) : wpAny (model prog w) A (call (.ref f) args) Q E s := by
  refine wpAny_call ?_
  obtain ⟨FG, BG, st, lv⟩ := groundX (R := fun r s' => match r with | .ok (.ret v) => Q v s' | .ok _ => False | .error e => E e s') (news := [(x, px)]) B F Nx hA hf hke
  have XK : K.In s.heap := X₀.keeps F.keep
  have hx := Nx _ (.head _)
  refine codeAny_call_function hroom (XK _ _ ho) rfl hco hgen rfl (codeRec_of XK hcd) (hbind _ _ _ _ ?_)
  refine wpAny_newFunctionEnv_cells hk (kindsX hkind _) fun env' he s' y => ?_
  subst he
  refine ⟨(T.nolimit.keeps F.keep).keeps y.toInCall.keep, codeAny_func ?_⟩
  obtain ⟨h₁, tk, rfl, _⟩ := y.done
  have hk₁ := y.toInCall.keep
  obtain ⟨cells, NC, Y⟩ := Cl.news (h₀ := s.heap) (Nat.le_refl _) fun n c hm => ⟨y.cell n c (lookup_of_mem_nodup (cellsFrom_names scope.names 0 (s.heap.objs.size + 1) [] [] rfl ▸ hnd) hm), y.above n c hm⟩
  have hxlt : x < s.heap.objs.size := Heap.lt_size hx.1
  refine wpAny_mono (h _ s.heap.objs.size h₁ tk cells (fun b o hn e => hideAll_get _ e (by simpa using hn)) FG ⟨y.toInCall.ns, fun b o e => hk₁ b o (of_hideAll _ e), Nat.le_of_eq (hideAll_size _ _)⟩ (fun p hp => ?_) hxlt Y BG (X₀.keeps st) (T.keeps st)) (fun fl s' hl => lv _ _ hl) fun _ _ z => z
  rcases List.mem_cons.mp hp with rfl | hp
  · exact ⟨hk₁ _ _ hx.1, Nat.ne_of_lt hxlt, hideAll_none _ (by simp)⟩
  · refine ⟨(NC p hp).1, (NC p hp).2.1, ?_⟩
    cases q : (hideAll s.heap _).get? p.1 with
    | none => rfl
    | some o => have := of_hideAll _ q; rw [(NC p hp).2.2] at this; cases this
end
/-- a statement by what holds behind it -/
def JoinS (g : Heap) (L : Addr) (R : (Str → Option Value) → List (Addr × Obj) → Prop) (s : Shared) (f : Flow) (s' : Shared) : Prop := f = .next ∧ ∃ h' tk' m' nx, s' = { s with heap := h', toks := tk' } ∧ Fr g L h' m' ∧ News g L h' nx ∧ R m' nx
theorem joinS {prog : Program} {w : World} {A : Around} {E : Value → Shared → Prop} {Q : Flow → Shared → Prop} {s : Shared} {g : Heap} {L : Addr} {tree : Sem Flow} (R : (Str → Option Value) → List (Addr × Obj) → Prop)
    (first : wpAny (model prog w) A tree (JoinS g L R s) E s)
    (rest : ∀ h' tk' m' nx, R m' nx → Fr g L h' m' → News g L h' nx → Q .next { s with heap := h', toks := tk' }) : wpAny (model prog w) A tree Q E s :=
  wpAny_mono first (fun f s' h => by
    obtain ⟨rfl, h', tk', m', nx, rfl, F, N, r⟩ := h
    exact rest h' tk' m' nx r F N) fun _ _ h => h
theorem JoinS.mk {g : Heap} {L : Addr} {R : (Str → Option Value) → List (Addr × Obj) → Prop} {s : Shared} {h' : Heap} {tk' : Nat} {m' : Str → Option Value} {nl : List (Addr × Obj)} (nx : List (Addr × Obj)) (F : Fr g L h' m') (N : News g L h' nl) (hk : ∀ p ∈ nx, p ∈ nl) (r : R m' nx) : JoinS g L R s .next { s with heap := h', toks := tk' } :=
  ⟨rfl, h', tk', m', nx, rfl, F, fun p hp => N p (hk p hp), r⟩
theorem pickA {α : Type} {l a b c d e f x p : α} (h : p ∈ [x, a, b, c, d, e, f]) : p ∈ [l, a, b, c, d, e, x, f] := by
  simp only [List.mem_cons, List.not_mem_nil, or_false] at h ⊢
  rcases h with h | h | h | h | h | h | h <;> simp [h]
theorem pickB {α : Type} {l a b c e x p : α} (h : p ∈ [x, a, b, c, e]) : p ∈ [l, a, b, c, x, e] := by
  simp only [List.mem_cons, List.not_mem_nil, or_false] at h ⊢
  rcases h with h | h | h | h | h <;> simp [h]
theorem pickC {α : Type} {a b c e x p : α} (h : p ∈ [a, b, c, x, e]) : p ∈ [x, a, b, c, e] := by
  simp only [List.mem_cons, List.not_mem_nil, or_false] at h ⊢
  rcases h with h | h | h | h | h <;> simp [h]
theorem lm_ne4 {a b c d : Addr × Obj} {x : Addr} (h1 : a.1 ≠ x) (h2 : b.1 ≠ x) (h3 : c.1 ≠ x) (h4 : d.1 ≠ x) : ∀ p ∈ [a, b, c, d], p.1 ≠ x := fun p hp => by
  simp only [List.mem_cons, List.not_mem_nil, or_false] at hp
  rcases hp with rfl | rfl | rfl | rfl <;> assumption
/-- the codes of a drawn text -/
def WordsOk (c : Str) (xs : List Nat) : Prop := xs.length ≤ 6 ∧ ∀ k ∈ xs, k ∈ [97, 32, 66, 63, 95, 61] ∨ (k = 233 ∧ c ≠ Str.ofString "us-ascii")
def ways4 : List Str := [Str.ofString "Q", Str.ofString "b", Str.ofString "q", Str.ofString "B"]
theorem str_cat (a b : List Nat) : ((⟨a.toArray⟩ : Str) ++ ⟨b.toArray⟩) = ⟨(a ++ b).toArray⟩ := by
  refine Str.ext' (Array.toList_inj.mp ?_)
  simp [Str.cps_append]
def names5 : List (Str × Str) := [(Str.ofString "utf-8", Str.ofString "utf-8"), (Str.ofString "UTF8", Str.ofString "utf-8"), (Str.ofString "latin1", Str.ofString "iso-8859-1"), (Str.ofString "US-ascii*en", Str.ofString "us-ascii"), (Str.ofString "Utf-8*x-y", Str.ofString "utf-8")]
theorem lm_ne6 {a b c d e f : Addr × Obj} {x : Addr} (h1 : a.1 ≠ x) (h2 : b.1 ≠ x) (h3 : c.1 ≠ x) (h4 : d.1 ≠ x) (h5 : e.1 ≠ x) (h6 : f.1 ≠ x) : ∀ p ∈ [a, b, c, d, e, f], p.1 ≠ x := fun p hp => by
  simp only [List.mem_cons, List.not_mem_nil, or_false] at hp
  rcases hp with rfl | rfl | rfl | rfl | rfl | rfl <;> assumption
theorem names_cs {nm c : Str} (h : (nm, c) ∈ names5) : c = Str.ofString "utf-8" ∨ c = Str.ofString "us-ascii" ∨ c = Str.ofString "iso-8859-1" := by
  have : ∀ p ∈ names5, p.2 = Str.ofString "utf-8" ∨ p.2 = Str.ofString "us-ascii" ∨ p.2 = Str.ofString "iso-8859-1" := by decide
  exact this _ h
theorem names_fit {nm c : Str} (h : (nm, c) ∈ names5) : Str.length nm ≤ 11 ∧ ∀ k ∈ nm.cps.toList, k < 128 := by
  have : ∀ p ∈ names5, Str.length p.1 ≤ 11 ∧ ∀ k ∈ p.1.cps.toList, k < 128 := by decide
  exact this _ h
theorem ways_fit {w : Str} (h : w ∈ ways4) : Str.length w ≤ 1 ∧ ∀ k ∈ w.cps.toList, k < 128 := by
  have : ∀ p ∈ ways4, Str.length p ≤ 1 ∧ ∀ k ∈ p.cps.toList, k < 128 := by decide
  exact this _ h
theorem words_sign {c : Str} {xs : List Nat} (h3 : c = Str.ofString "utf-8" ∨ c = Str.ofString "us-ascii" ∨ c = Str.ofString "iso-8859-1") (h : WordsOk c xs) : ∀ y ∈ xs.map Int.ofNat, SignOk c y := by
  intro y hy
  obtain ⟨k, hk, rfl⟩ := List.mem_map.mp hy
  have hk128 : k ∈ [97, 32, 66, 63, 95, 61] → k < 128 := fun hm => (by decide : ∀ k ∈ [97, 32, 66, 63, 95, 61], k < 128) k hm
  have hlt : k < 256 ∧ (c = Str.ofString "us-ascii" → k < 128) := by
    rcases h.2 k hk with hm | ⟨e, hne⟩
    · exact ⟨Nat.lt_trans (hk128 hm) (by decide), fun _ => hk128 hm⟩
    · exact ⟨by omega, fun q => absurd q hne⟩
  have h0 : (0 : Int) ≤ Int.ofNat k := Int.natCast_nonneg k
  have h1 : Int.ofNat k < 256 := by have := hlt.1; show (k : Int) < 256; omega
  rcases h3 with e | e | e
  · exact .utf e h0 h1
  · exact .ascii e h0 (by have := hlt.2 e; show (k : Int) < 128; omega)
  · exact .latin e h0 h1
/-- the codes of a word's frame -/
def frameN (nm way : Str) : List Nat := [61, 63] ++ nm.cps.toList ++ [63] ++ way.cps.toList ++ [63]
theorem frame_codes (nm way : Str) : (Str.ofString "=?" ++ nm ++ Str.ofString "?" ++ way ++ Str.ofString "?").cps.toList = frameN nm way := by
  have h1 : (Str.ofString "=?").cps.toList = [61, 63] := by decide
  have h2 : (Str.ofString "?").cps.toList = [63] := by decide
  simp only [Str.cps_append, Array.toList_append, h1, h2]
  rfl
theorem frame_in {nm way : Str} (h : ∀ k ∈ nm.cps.toList, k < 128) (g : ∀ k ∈ way.cps.toList, k < 128) : ∀ k ∈ (frameN nm way).map Int.ofNat, 0 ≤ k ∧ k < 256 := by
  intro k hk
  obtain ⟨j, hj, rfl⟩ := List.mem_map.mp hk
  have : j < 128 := by
    unfold frameN at hj
    simp only [List.mem_append, List.mem_cons, List.not_mem_nil, or_false] at hj
    rcases hj with ((((hj | hj) | hj) | hj) | hj) | hj <;> first | exact h _ hj | exact g _ hj | (rw [hj]; decide)
  exact ⟨Int.natCast_nonneg j, by show (j : Int) < 256; omega⟩
/-- what stands between a word's frame and its end -/
noncomputable def bodyN (way : Str) (ks : List Int) : List Int := if (Builtin.Str.occurrences (Str.ofString "Qq") way 0 (Str.ofString "Qq").length 1).isEmpty = true then bits ks else marked ks
noncomputable def wordN (nm way c : Str) (xs : List Nat) : List Int := (frameN nm way).map Int.ofNat ++ bodyN way (encT c (xs.map Int.ofNat)) ++ [63, 61]
def spotsN (nm way : Str) : List Int := [0, 1, 2, ((frameN nm way).length : Int) - 3, ((frameN nm way).length : Int) - 2, ((frameN nm way).length : Int) - 1]
/-- behind the name's draw -/
inductive LwName (x Lc D : Addr) (oP : Obj) (m₀ : Str → Option Value) : (Str → Option Value) → List (Addr × Obj) → Prop
  | mk (nm c : Str) (tn tc : Tok) (s' g' : Int) (px : Obj) : (nm, c) ∈ names5 → PenO D s' g' px → 0 ≤ s' → s' ≤ 1 → 0 ≤ g' → LwName x Lc D oP m₀ (fun y => if y = Str.ofString "charset" then some (.str c tc) else if y = Str.ofString "name" then some (.str nm tn) else m₀ y) [(x, px), (Lc, oP)]
/-- behind the signs' draws -/
inductive LwSigns (x Lc D : Addr) (oP : Obj) (i : Nat) (ys : List Value) : List (Addr × Obj) → Prop
  | mk (xs : List Nat) (s' g' : Int) (px : Obj) : xs.length = i → (∀ k ∈ xs, k ∈ [97, 32, 66, 63, 95, 61]) → StrsAre ys (xs.map sgn) → PenO D s' g' px → 0 ≤ s' → s' ≤ 2 + (i : Int) → 0 ≤ g' → LwSigns x Lc D oP i ys [(x, px), (Lc, oP)]
/-- behind the text's making -/
inductive LwText (P : List Nat → Prop) (x Lc D : Addr) (oP : Obj) (top : Int) (m₁ : Str → Option Value) : (Str → Option Value) → List (Addr × Obj) → Prop
  | mk (xs : List Nat) (tw : Tok) (s' g' : Int) (px : Obj) : P xs → PenO D s' g' px → 0 ≤ s' → s' ≤ top → 0 ≤ g' → LwText P x Lc D oP top m₁ (fun y => if y = Str.ofString "words" then some (.str ⟨xs.toArray⟩ tw) else m₁ y) [(x, px), (Lc, oP)]
/-- behind the way's draw -/
inductive LwWay (x Lc D : Addr) (oP : Obj) (m₁ : Str → Option Value) : (Str → Option Value) → List (Addr × Obj) → Prop
  | mk (way : Str) (ty : Tok) (s' g' : Int) (px : Obj) : way ∈ ways4 → PenO D s' g' px → 0 ≤ s' → s' ≤ 9 → 0 ≤ g' → LwWay x Lc D oP m₁ (fun y => if y = Str.ofString "way" then some (.str way ty) else m₁ y) [(x, px), (Lc, oP)]
/-- what a word is made of, and what is handed back of it -/
inductive LawWordR (D : Addr) : Value → List (Addr × Obj) → Obj → Prop
  | mk (nm c : Str) (xs : List Nat) (way : Str) (T F : Addr) (wb : Array UInt8) (tw tx : Tok) (fs : List Value) (nf : Nat) (s' g' : Int) (px : Obj) : (nm, c) ∈ names5 ∧ WordsOk c xs ∧ way ∈ ways4 → IntsAre fs (spotsN nm way) → KBw.bInts wb = wordN nm way c xs → F ≠ T → 0 ≤ s' → s' ≤ 9 → 0 ≤ g' → PenO D s' g' px →
      LawWordR D (.ref T) [(T, { cls := .type "tuple", data := .seq #[.bytes wb tw, .str ⟨xs.toArray⟩ tx, .ref F] }), (F, W.listOf fs.toArray nf)] px
set_option maxHeartbeats 1000000 in
theorem law_word_ok (x D : Addr) (hxD : D ≠ x) (vs : List Value) (ns : List Int) (hvs : IntsAre vs ns) (hn : ns.length ≤ 40) (t u : Tok) (n : Nat) :
    PM 20 275 [.ref x] x (W.listOf #[.ref D, .int 0 t, .int 0 u] n) (fun h => h.IsList D vs.toArray) (LawWordR D) := by
  unfold PM
  k_fill
  intro w mean mg mb dp un gd cn cs a ccd cl outer A₀ base h₀ L m s Q E B F X T hcs hd hu hP N hret
  k_dflt (refine' enterCM ?k1 ?k2 ?k3 ?k5 ?kN ?kA ?kF ?kK ?k6 ?k7 ?k8 ?k9 ?kB ?kD ?_ ?c2 ?c3 ?c4; (case kA => exact rfl); (case kF => exact rfl); (case kK => first | assumption | exact rfl); (case k1 => k_asm); (case k2 => k_asm); (case k3 => k_asm); (case k5 => k_asm); (case kN => k_asm); (case k6 => k_is); (case k7 => k_is); (case k8 => (first | exact room_1 hd rfl | exact room_0 hd | ktr_room)); (case k9 => exact BindsTo.of_eq rfl); (case kB => exact rfl); (case kD => decide +kernel); (case c2 => exact rfl); (case c3 => exact rfl); (case c4 => exact rfl); k_whole)
  intro G L' hW tkW cells' hgW FGW F' N' hxl' Y' B' X' T'
  k_cells Y'
  (try dsimp only)
  (try k_lift B')
  have hl : Heap.IsList _ D vs.toArray := hP.at fun o e => (by assumption : KeptBut x s.heap _) D o hxD e
  clear hP
  have hxl2 : x < L' + 1 := Nat.lt_succ_of_lt hxl'
  have hxn1 : x ≠ L' + 1 := Nat.ne_of_lt hxl2
  have hxn2 := Ne.symm hxn1
  (try (show wpAny _ _ _ _ _ _)); (try k_fold)
  rename Obj => oP
  rename _ = Data.cell _ => hcell
  replace hcell : oP.data = .cell (some (.ref x)) := hcell
  obtain ⟨m₀, F₀⟩ : ∃ m₀, Fr G L' _ m₀ := ⟨_, F'⟩
  clear F'
  walk1
  refine joinS (L := L') (g := G) (LwName x (L' + 1) D oP m₀) ?first ?rest
  case first =>
    (repeat' (first | (k_unfold; (try dsimp only)) | ((fail_if_success (with_reducible show KswEnd _ _ _ _ _ _ _ _ _ _ _ _)); (fail_if_success (with_reducible show InvEndN _ _ _ _ _ _ _)); (fail_if_success (with_reducible show wpAny _ _ (exec (Stmt.While _ _ _ _) _) _ _ _)); (fail_if_success (with_reducible show wpAny _ _ (exec (Stmt.For _ _ _ _ _) _) _ _ _)); (fail_if_success (with_reducible show wpAny _ _ (exec (Stmt.Assign _ (PySem.Expr.ListComp _ _ _ _) _) _) _ _ _)); (fail_if_success (with_reducible show wpAny _ _ (eval (PySem.Expr.ListComp _ _ _ _) _) _ _ _)); (first | (k_here; (with_reducible show wpAny _ _ (call (Value.builtin "str.join") [Value.str _ _, Value.ref _]) _ _ _); k_dflt (refine' join_signs_L ?zh54658jl ?zh54658ji ?zh54658jz ?_; (case zh54658jl => is_list); (case zh54658ji => assumption); (case zh54658jz => first | omega | (simp only [List.length_map]; omega)); k_whole); intro _ _) | walk1 | (dsimp only; walk1))) | (leave1; walk_say "STEP leave1"; try dsimp only)))
    rename Fr _ _ _ _ => fE
    rename News _ _ _ _ => nE
    have nP : News _ _ _ ((x, _) :: [_, _, _, _, _, _]) := fun p hp => nE p (pickA hp)
    have hlY : Heap.IsList _ _ (List.toArray [.ref _, .ref _, .ref _, .ref _, .ref _]) := ⟨_, (nE _ (.head _)).1, rfl, _, rfl⟩
    rename _ < _ ∧ _ < _ ∧ _ < _ ∧ _ < _ ∧ _ < _ ∧ _ < _ ∧ _ < _ => hlt
    rename _ < _ ∧ _ < _ ∧ _ < _ ∧ _ < _ ∧ _ < _ ∧ _ < _ => hl5
    rename _ < _ ∧ _ < _ ∧ _ < _ ∧ _ < _ ∧ _ < _ => hl4
    rename _ < _ ∧ _ < _ ∧ _ < _ ∧ _ < _ => hl3
    rename _ < _ ∧ _ < _ ∧ _ < _ => hl2
    rename _ < _ ∧ _ < _ => hl1
    clear nE
    k_dflt (refine' PM.use (law_pick_ok x D _ hxD ?hxY vs ns hvs hn _ ?i0 ?i1 0 0 ?h0 ?h1 ?hg _ _ _) ?k1 ?k2 ?k3 nP ?koff ?k5 ?kK ?kd ?ku ⟨fE.lst hl, hlY⟩ ?_)
    case hxY => exact Nat.ne_of_gt hlt.2.2.2.2.2.1
    case i0 => exact Nat.le_of_ble_eq_true rfl
    case i1 => exact Nat.le_of_ble_eq_true rfl
    case h0 => decide
    case h1 => decide
    case hg => decide
    (case k1 => k_asm); (case k2 => k_asm); (case k3 => k_asm); (case k5 => k_asm); (case kK => first | exact rfl | assumption); (case kd => (first | exact room_1 hd rfl | exact room_0 hd | ktr_room)); (case ku => (first | exact unit_3 hu rfl | ktr_units))
    case koff => exact lm_ne6 (Nat.ne_of_gt hl5.2.2.2.2.1) (Nat.ne_of_gt hl4.2.2.2.1) (Nat.ne_of_gt hl3.2.2.1) (Nat.ne_of_gt hl2.2.1) (Nat.ne_of_gt hl1.1) hxn2
    clear hl1 hl2 hl3 hl4 hl5 hlt nP fE
    rintro v own px' h2 tk2 ⟨d, s', g', hdl, hdx, hs0, hs1, hg0, hpx⟩ hK2 F2 N2 hU1 hU2
    clear hU1 hU2 hK2
    dsimp only
    have hd5 : d = 0 ∨ d = 1 ∨ d = 2 ∨ d = 3 ∨ d = 4 := lt5 d hdl
    have hT : ∃ T nm c tn tc, v = .ref T ∧ (nm, c) ∈ names5 ∧ News G L' h2 [(x, px'), (T, { cls := .type "tuple", data := .seq #[.str nm tn, .str c tc] }), (L' + 1, oP)] := by
      rcases hd5 with rfl | rfl | rfl | rfl | rfl <;> cases hdx
      · exact ⟨_, _, _, _, _, rfl, (.head _), fun p hp => N2 p (lm_three (.head _) (.tail _ (.tail _ (.tail _ (.tail _ (.tail _ (.head _)))))) (.tail _ (.tail _ (.tail _ (.tail _ (.tail _ (.tail _ (.head _))))))) p hp)⟩
      · exact ⟨_, _, _, _, _, rfl, (.tail _ (.head _)), fun p hp => N2 p (lm_three (.head _) (.tail _ (.tail _ (.tail _ (.tail _ (.head _))))) (.tail _ (.tail _ (.tail _ (.tail _ (.tail _ (.tail _ (.head _))))))) p hp)⟩
      · exact ⟨_, _, _, _, _, rfl, (.tail _ (.tail _ (.head _))), fun p hp => N2 p (lm_three (.head _) (.tail _ (.tail _ (.tail _ (.head _)))) (.tail _ (.tail _ (.tail _ (.tail _ (.tail _ (.tail _ (.head _))))))) p hp)⟩
      · exact ⟨_, _, _, _, _, rfl, (.tail _ (.tail _ (.tail _ (.head _)))), fun p hp => N2 p (lm_three (.head _) (.tail _ (.tail _ (.head _))) (.tail _ (.tail _ (.tail _ (.tail _ (.tail _ (.tail _ (.head _))))))) p hp)⟩
      · exact ⟨_, _, _, _, _, rfl, (.tail _ (.tail _ (.tail _ (.tail _ (.head _))))), fun p hp => N2 p (lm_three (.head _) (.tail _ (.head _)) (.tail _ (.tail _ (.tail _ (.tail _ (.tail _ (.tail _ (.head _))))))) p hp)⟩
    obtain ⟨T1, nm, c, tn, tc, rfl, hnc, N3⟩ := hT
    clear N2 hd5
    (repeat' (first | (k_unfold; (try dsimp only)) | ((fail_if_success (with_reducible show KswEnd _ _ _ _ _ _ _ _ _ _ _ _)); (fail_if_success (with_reducible show InvEndN _ _ _ _ _ _ _)); (fail_if_success (with_reducible show wpAny _ _ (exec (Stmt.While _ _ _ _) _) _ _ _)); (fail_if_success (with_reducible show wpAny _ _ (exec (Stmt.For _ _ _ _ _) _) _ _ _)); (fail_if_success (with_reducible show wpAny _ _ (exec (Stmt.Assign _ (PySem.Expr.ListComp _ _ _ _) _) _) _ _ _)); (fail_if_success (with_reducible show wpAny _ _ (eval (PySem.Expr.ListComp _ _ _ _) _) _ _ _)); (first | (k_here; (with_reducible show wpAny _ _ (call (Value.builtin "str.join") [Value.str _ _, Value.ref _]) _ _ _); k_dflt (refine' join_signs_L ?zh54658jl ?zh54658ji ?zh54658jz ?_; (case zh54658jl => is_list); (case zh54658ji => assumption); (case zh54658jz => first | omega | (simp only [List.length_map]; omega)); k_whole); intro _ _) | walk1 | (dsimp only; walk1))) | (leave1; walk_say "STEP leave1"; try dsimp only)))
    exact JoinS.mk [_, _] (by assumption) (by assumption) (lm_two (.head _) (.tail _ (.tail _ (.head _)))) (.mk nm c _ _ s' g' px' hnc hpx hs0 hs1 hg0)
  case rest =>
    rintro h1 tk1 m1 nx1 ⟨nm, c, tn, tc, s1, g1, px1, hnc, hpx1, hs10, hs11, hg10⟩ F1 N1
    clear F₀ N'
    dsimp only
    walk1
    refine joinS (L := L') (g := G) (LwText (fun xs => xs.length ≤ 5 ∧ ∀ k ∈ xs, k ∈ [97, 32, 66, 63, 95, 61]) x (L' + 1) D oP 7 (fun y => if y = Str.ofString "charset" then some (.str c tc) else if y = Str.ofString "name" then some (.str nm tn) else m₀ y)) ?first ?rest
    case first =>
      obtain ⟨t1, u1, n1, rfl⟩ := hpx1
      (repeat' (first | (k_unfold; (try dsimp only)) | ((fail_if_success (with_reducible show KswEnd _ _ _ _ _ _ _ _ _ _ _ _)); (fail_if_success (with_reducible show InvEndN _ _ _ _ _ _ _)); (fail_if_success (with_reducible show wpAny _ _ (exec (Stmt.While _ _ _ _) _) _ _ _)); (fail_if_success (with_reducible show wpAny _ _ (exec (Stmt.For _ _ _ _ _) _) _ _ _)); (fail_if_success (with_reducible show wpAny _ _ (exec (Stmt.Assign _ (PySem.Expr.ListComp _ _ _ _) _) _) _ _ _)); (fail_if_success (with_reducible show wpAny _ _ (eval (PySem.Expr.ListComp _ _ _ _) _) _ _ _)); (first | (k_here; (with_reducible show wpAny _ _ (call (Value.builtin "str.join") [Value.str _ _, Value.ref _]) _ _ _); k_dflt (refine' join_signs_L ?zh54658jl ?zh54658ji ?zh54658jz ?_; (case zh54658jl => is_list); (case zh54658ji => assumption); (case zh54658jz => first | omega | (simp only [List.length_map]; omega)); k_whole); intro _ _) | walk1 | (dsimp only; walk1))) | (leave1; walk_say "STEP leave1"; try dsimp only)))
      ((k_dflt refine comp1 (by k_asm) (by with_unfolding_all rfl) (by decide) (by rfl) (by decide) (by rfl) ?_))
      (repeat' (first | (k_unfold; (try dsimp only)) | ((fail_if_success (with_reducible show KswEnd _ _ _ _ _ _ _ _ _ _ _ _)); (fail_if_success (with_reducible show InvEndN _ _ _ _ _ _ _)); (fail_if_success (with_reducible show wpAny _ _ (exec (Stmt.While _ _ _ _) _) _ _ _)); (fail_if_success (with_reducible show wpAny _ _ (exec (Stmt.For _ _ _ _ _) _) _ _ _)); (fail_if_success (with_reducible show wpAny _ _ (exec (Stmt.Assign _ (PySem.Expr.ListComp _ _ _ _) _) _) _ _ _)); (fail_if_success (with_reducible show wpAny _ _ (eval (PySem.Expr.ListComp _ _ _ _) _) _ _ _)); (first | (k_here; (with_reducible show wpAny _ _ (call (Value.builtin "str.join") [Value.str _ _, Value.ref _]) _ _ _); k_dflt (refine' join_signs_L ?zh54658jl ?zh54658ji ?zh54658jz ?_; (case zh54658jl => is_list); (case zh54658ji => assumption); (case zh54658jz => first | omega | (simp only [List.length_map]; omega)); k_whole); intro _ _) | walk1 | (dsimp only; walk1))) | (leave1; walk_say "STEP leave1"; try dsimp only)))
      k_dflt (refine' PM.use (law_draw_ok x D hxD vs ns hvs hn s1 g1 6 hs10 ?h1 hg10 ?p1 ?p2 t1 u1 n1 _) ?k1 ?k2 ?k3 N1 ?koff ?k5 ?kK ?kd ?ku (F1.lst hl) ?_)
      case h1 => omega
      case p1 => decide
      case p2 => decide
      case koff => exact fun p hp => by rw [List.mem_singleton.mp hp]; exact hxn2
      (case k1 => k_asm); (case k2 => k_asm); (case k3 => k_asm); (case k5 => k_asm); (case kK => first | exact rfl | assumption); (case kd => (first | exact room_1 hd rfl | exact room_0 hd | ktr_room)); (case ku => (first | exact unit_3 hu rfl | ktr_units))
      rintro v' own' px' h' tk' ⟨d, tv, s2, g2, hdr, hs20, hs21, hg2, hpx2⟩ hK' F2 N2 hU1 hU2
      clear hU1 hU2 hK' F1 N1
      obtain ⟨hd0, hd1⟩ := hdr
      dsimp only
      simp only [List.nil_append] at N2
      obtain ⟨dn, rfl⟩ : ∃ n : Nat, d = (n : Int) := ⟨d.toNat, by omega⟩
      (repeat' (first | (k_unfold; (try dsimp only)) | ((fail_if_success (with_reducible show KswEnd _ _ _ _ _ _ _ _ _ _ _ _)); (fail_if_success (with_reducible show InvEndN _ _ _ _ _ _ _)); (fail_if_success (with_reducible show wpAny _ _ (exec (Stmt.While _ _ _ _) _) _ _ _)); (fail_if_success (with_reducible show wpAny _ _ (exec (Stmt.For _ _ _ _ _) _) _ _ _)); (fail_if_success (with_reducible show wpAny _ _ (exec (Stmt.Assign _ (PySem.Expr.ListComp _ _ _ _) _) _) _ _ _)); (fail_if_success (with_reducible show wpAny _ _ (eval (PySem.Expr.ListComp _ _ _ _) _) _ _ _)); (first | (k_here; (with_reducible show wpAny _ _ (call (Value.builtin "str.join") [Value.str _ _, Value.ref _]) _ _ _); k_dflt (refine' join_signs_L ?zh54658jl ?zh54658ji ?zh54658jz ?_; (case zh54658jl => is_list); (case zh54658ji => assumption); (case zh54658jz => first | omega | (simp only [List.length_map]; omega)); k_whole); intro _ _) | walk1 | (dsimp only; walk1))) | (leave1; walk_say "STEP leave1"; try dsimp only)))
      rename IsRange _ _ _ _ _ _ _ _ => hR
      refine ⟨_, _, [(x, px'), (L' + 1, oP)], src_range (n := dn) (by rfl) hR (small_1 (by omega)) size_1, by assumption, by assumption, ?s3, fun g => rest_grow (LwSigns x (L' + 1) D oP) (.mk [] s2 g2 px' rfl (fun _ h => nomatch h) .nil hpx2 (by omega) (by omega) hg2) ?_ ?_⟩
      case s3 => rw [PySem.sizeLine_eq]; omega
      · rintro i v I oI C oC Dc m₂ ys nw h tk E' hi ⟨tv, rfl⟩ ⟨xs, s3, g3, px3, hxl, hxm, hxs, ⟨t3, u3, n3, rfl⟩, hs30, hs31, hg3⟩ hC hx F3 N3 off ne
        clear hR hpx2
        (repeat' (first | (k_unfold; (try dsimp only)) | ((fail_if_success (with_reducible show KswEnd _ _ _ _ _ _ _ _ _ _ _ _)); (fail_if_success (with_reducible show InvEndN _ _ _ _ _ _ _)); (fail_if_success (with_reducible show wpAny _ _ (exec (Stmt.While _ _ _ _) _) _ _ _)); (fail_if_success (with_reducible show wpAny _ _ (exec (Stmt.For _ _ _ _ _) _) _ _ _)); (fail_if_success (with_reducible show wpAny _ _ (exec (Stmt.Assign _ (PySem.Expr.ListComp _ _ _ _) _) _) _ _ _)); (fail_if_success (with_reducible show wpAny _ _ (eval (PySem.Expr.ListComp _ _ _ _) _) _ _ _)); (first | (k_here; (with_reducible show wpAny _ _ (call (Value.builtin "str.join") [Value.str _ _, Value.ref _]) _ _ _); k_dflt (refine' join_signs_L ?zh54658jl ?zh54658ji ?zh54658jz ?_; (case zh54658jl => is_list); (case zh54658ji => assumption); (case zh54658jz => first | omega | (simp only [List.length_map]; omega)); k_whole); intro _ _) | walk1 | (dsimp only; walk1))) | (leave1; walk_say "STEP leave1"; try dsimp only)))
        rename Fr _ _ _ _ => fE
        rename News _ _ _ _ => nE
        rename _ < _ ∧ _ < _ ∧ _ < _ ∧ _ < _ ∧ _ < _ => hlt
        have nP : News _ _ _ ((x, _) :: [_, _, _, _]) := fun p hp => nE p (pickB hp)
        have hlY : Heap.IsList _ _ (List.toArray [.str _ _, .str _ _, .str _ _, .str _ _, .str _ _, .str _ _]) := ⟨_, (nE _ (.head _)).1, rfl, _, rfl⟩
        clear nE
        k_dflt (refine' PM.use (law_pick_ok x D _ hxD ?hxY vs ns hvs hn _ ?i0 ?i1 s3 g3 hs30 ?h1 hg3 _ _ _) ?k1 ?k2 ?k3 nP ?koff ?k5 ?kK ?kd ?ku ⟨fE.lst hl, hlY⟩ ?_)
        case hxY => exact Nat.ne_of_gt hlt.2.2.2.1
        case i0 => exact Nat.le_of_ble_eq_true rfl
        case i1 => exact Nat.le_of_ble_eq_true rfl
        case h1 => omega
        case koff => exact lm_ne4 (Ne.symm off.1.1) (Ne.symm off.1.2.1) (Ne.symm off.1.2.2) hxn2
        (case k1 => k_asm); (case k2 => k_asm); (case k3 => k_asm); (case k5 => k_asm); (case kK => first | exact rfl | assumption); (case kd => (first | exact room_1 hd rfl | exact room_0 hd | ktr_room)); (case ku => (first | exact unit_3 hu rfl | ktr_units))
        clear hlt nP hlY fE
        rintro v own px4 h2 tk2 ⟨d, s', g', hdl, hdx, hs0, hs1, hg0, hpx⟩ hK2 F2 N2 hU1 hU2
        clear hU1 hU2 hK2
        have hv : ∃ k t, v = .str (sgn k) t ∧ k ∈ [97, 32, 66, 63, 95, 61] := by
          have hd6 : d = 0 ∨ d = 1 ∨ d = 2 ∨ d = 3 ∨ d = 4 ∨ d = 5 := lt6 d hdl
          rcases hd6 with rfl | rfl | rfl | rfl | rfl | rfl <;> cases hdx
          · exact ⟨97, _, rfl, by decide⟩
          · exact ⟨32, _, rfl, by decide⟩
          · exact ⟨66, _, rfl, by decide⟩
          · exact ⟨63, _, rfl, by decide⟩
          · exact ⟨95, _, rfl, by decide⟩
          · exact ⟨61, _, rfl, by decide⟩
        obtain ⟨kc, tc', rfl, hkc⟩ := hv
        exact ⟨h2, tk2, [(x, px4), (L' + 1, oP)], rfl, F2, fun p hp => N2 p (pickC hp), off, trivial, .mk (xs ++ [kc]) s' g' px4 (by simp [hxl]) (fun k hk => (List.mem_append.mp hk).elim (hxm k) fun h => (List.mem_singleton.mp h) ▸ hkc) (by rw [List.map_append]; exact strs_app hxs (.cons _ _ .nil)) hpx (by omega) (by omega) hg0⟩
      · rintro ys nw ⟨xs, s3, g3, px3, hxl, hxm, hxs, hpx3, hs30, hs31, hg3⟩
        unfold LCg.FinE
        intro Dw h2 tk2 F2 N2 o2
        have hxz : xs.length ≤ 1000 := by omega
        (repeat' (first | (k_unfold; (try dsimp only)) | ((fail_if_success (with_reducible show KswEnd _ _ _ _ _ _ _ _ _ _ _ _)); (fail_if_success (with_reducible show InvEndN _ _ _ _ _ _ _)); (fail_if_success (with_reducible show wpAny _ _ (exec (Stmt.While _ _ _ _) _) _ _ _)); (fail_if_success (with_reducible show wpAny _ _ (exec (Stmt.For _ _ _ _ _) _) _ _ _)); (fail_if_success (with_reducible show wpAny _ _ (exec (Stmt.Assign _ (PySem.Expr.ListComp _ _ _ _) _) _) _ _ _)); (fail_if_success (with_reducible show wpAny _ _ (eval (PySem.Expr.ListComp _ _ _ _) _) _ _ _)); (first | (k_here; (with_reducible show wpAny _ _ (call (Value.builtin "str.join") [Value.str _ _, Value.ref _]) _ _ _); k_dflt (refine' join_signs_L ?zh54658jl ?zh54658ji ?zh54658jz ?_; (case zh54658jl => is_list); (case zh54658ji => assumption); (case zh54658jz => first | omega | (simp only [List.length_map]; omega)); k_whole); intro _ _) | walk1 | (dsimp only; walk1))) | (leave1; walk_say "STEP leave1"; try dsimp only)))
        exact JoinS.mk [_, _] (by assumption) (by assumption) (lm_two (.tail _ (.head _)) (.tail _ (.tail _ (.head _)))) (.mk xs _ s3 g3 px3 ⟨by omega, hxm⟩ hpx3 (by omega) (by omega) hg3)
    case rest =>
      rintro h2 tk2 m2 nx2 ⟨xs, tw, s2, g2, px2, ⟨hxl, hxm⟩, hpx2, hs20, hs21, hg20⟩ F2 N2
      clear F1 N1 hpx1 hs10 hs11 hg10
      dsimp only
      walk1
      refine joinS (L := L') (g := G) (LwText (WordsOk c) x (L' + 1) D oP 8 (fun y => if y = Str.ofString "charset" then some (.str c tc) else if y = Str.ofString "name" then some (.str nm tn) else m₀ y)) ?first ?rest
      case first =>
        obtain ⟨t2, u2, n2, rfl⟩ := hpx2
        have hwl : Str.length ⟨xs.toArray⟩ ≤ 5 := by show xs.toArray.size ≤ 5; rw [List.size_toArray]; exact hxl
        (repeat' (first | (k_unfold; (try dsimp only)) | ((fail_if_success (with_reducible show KswEnd _ _ _ _ _ _ _ _ _ _ _ _)); (fail_if_success (with_reducible show InvEndN _ _ _ _ _ _ _)); (fail_if_success (with_reducible show wpAny _ _ (exec (Stmt.While _ _ _ _) _) _ _ _)); (fail_if_success (with_reducible show wpAny _ _ (exec (Stmt.For _ _ _ _ _) _) _ _ _)); (fail_if_success (with_reducible show wpAny _ _ (exec (Stmt.Assign _ (PySem.Expr.ListComp _ _ _ _) _) _) _ _ _)); (fail_if_success (with_reducible show wpAny _ _ (eval (PySem.Expr.ListComp _ _ _ _) _) _ _ _)); (first | (k_here; (with_reducible show wpAny _ _ (call (Value.builtin "str.join") [Value.str _ _, Value.ref _]) _ _ _); k_dflt (refine' join_signs_L ?zh54658jl ?zh54658ji ?zh54658jz ?_; (case zh54658jl => is_list); (case zh54658ji => assumption); (case zh54658jz => first | omega | (simp only [List.length_map]; omega)); k_whole); intro _ _) | walk1 | (dsimp only; walk1))) | (leave1; walk_say "STEP leave1"; try dsimp only)))
        · rename (_ != _) = true => hne
          rename Fr _ _ _ _ => fE
          rename News _ _ _ _ => nE
          rename _ < _ ∧ _ < _ => hlt
          have nP : News _ _ _ ((x, _) :: [_]) := fun p hp => nE p (.tail _ hp)
          have hlY : Heap.IsList _ _ (List.toArray [.str _ _, .str _ _]) := ⟨_, (nE _ (.head _)).1, rfl, _, rfl⟩
          clear nE
          k_dflt (refine' PM.use (law_pick_ok x D _ hxD ?hxY vs ns hvs hn _ ?i0 ?i1 s2 g2 hs20 ?h1 hg20 _ _ _) ?k1 ?k2 ?k3 nP ?koff ?k5 ?kK ?kd ?ku ⟨fE.lst hl, hlY⟩ ?_)
          case hxY => exact Nat.ne_of_gt hlt.1
          case i0 => exact Nat.le_of_ble_eq_true rfl
          case i1 => exact Nat.le_of_ble_eq_true rfl
          case h1 => omega
          case koff => exact fun p hp => by rw [List.mem_singleton.mp hp]; exact hxn2
          (case k1 => k_asm); (case k2 => k_asm); (case k3 => k_asm); (case k5 => k_asm); (case kK => first | exact rfl | assumption); (case kd => (first | exact room_1 hd rfl | exact room_0 hd | ktr_room)); (case ku => (first | exact unit_3 hu rfl | ktr_units))
          clear hlt nP hlY fE
          rintro v own px4 h3 tk3 ⟨d, s', g', hdl, hdx, hs0, hs1, hg0, hpx⟩ hK2 F3 N3 hU1 hU2
          clear hU1 hU2 hK2
          have hv : ∃ (zs : List Nat) (t : Tok), v = .str ⟨zs.toArray⟩ t ∧ zs.length ≤ 1 ∧ ∀ k ∈ zs, k = 233 := by
            have hd2 : d = 0 ∨ d = 1 := lt2 d hdl
            rcases hd2 with rfl | rfl <;> cases hdx
            · exact ⟨[], _, rfl, by decide, fun _ h => nomatch h⟩
            · exact ⟨[233], _, rfl, by decide, fun k h => List.mem_singleton.mp h⟩
          obtain ⟨zs, tz, rfl, hzl, hzm⟩ := hv
          have hzl2 : Str.length ⟨zs.toArray⟩ ≤ 1 := by show zs.toArray.size ≤ 1; rw [List.size_toArray]; exact hzl
          dsimp only
          simp only [List.nil_append] at N3
          (repeat' (first | (k_unfold; (try dsimp only)) | ((fail_if_success (with_reducible show KswEnd _ _ _ _ _ _ _ _ _ _ _ _)); (fail_if_success (with_reducible show InvEndN _ _ _ _ _ _ _)); (fail_if_success (with_reducible show wpAny _ _ (exec (Stmt.While _ _ _ _) _) _ _ _)); (fail_if_success (with_reducible show wpAny _ _ (exec (Stmt.For _ _ _ _ _) _) _ _ _)); (fail_if_success (with_reducible show wpAny _ _ (exec (Stmt.Assign _ (PySem.Expr.ListComp _ _ _ _) _) _) _ _ _)); (fail_if_success (with_reducible show wpAny _ _ (eval (PySem.Expr.ListComp _ _ _ _) _) _ _ _)); (first | (k_here; (with_reducible show wpAny _ _ (call (Value.builtin "str.join") [Value.str _ _, Value.ref _]) _ _ _); k_dflt (refine' join_signs_L ?zh54658jl ?zh54658ji ?zh54658jz ?_; (case zh54658jl => is_list); (case zh54658ji => assumption); (case zh54658jz => first | omega | (simp only [List.length_map]; omega)); k_whole); intro _ _) | walk1 | (dsimp only; walk1))) | (leave1; walk_say "STEP leave1"; try dsimp only)))
          rename Fr _ _ _ _ => fE
          rw [map_twice, str_cat] at fE
          refine JoinS.mk [_, _] fE (by assumption) (fun p hp => hp) (.mk (xs ++ zs) _ s' g' px4 ⟨by rw [List.length_append]; omega, fun k hk => (List.mem_append.mp hk).elim (fun h => .inl (hxm k h)) fun h => .inr ⟨hzm k h, fun e => ?_⟩⟩ hpx (by omega) (by omega) hg0)
          rw [e] at hne
          cases hne
        · exact JoinS.mk [_, _] (by assumption) (by assumption) (fun p hp => hp) (.mk xs tw s2 g2 _ ⟨by omega, fun k hk => .inl (hxm k hk)⟩ ⟨_, _, _, rfl⟩ (by omega) (by omega) hg20)
      case rest =>
        rintro h3 tk3 m3 nx3 ⟨xs3, tw3, s3, g3, px3, hxs3, hpx3, hs30, hs31, hg30⟩ F3 N3
        clear F2 N2 hpx2 hs20 hs21 hg20 hxl hxm xs tw
        dsimp only
        walk1
        refine joinS (L := L') (g := G) (LwWay x (L' + 1) D oP (fun y => if y = Str.ofString "words" then some (.str ⟨xs3.toArray⟩ tw3) else if y = Str.ofString "charset" then some (.str c tc) else if y = Str.ofString "name" then some (.str nm tn) else m₀ y)) ?first ?rest
        case first =>
          obtain ⟨t3, u3, n3, rfl⟩ := hpx3
          (repeat' (first | (k_unfold; (try dsimp only)) | ((fail_if_success (with_reducible show KswEnd _ _ _ _ _ _ _ _ _ _ _ _)); (fail_if_success (with_reducible show InvEndN _ _ _ _ _ _ _)); (fail_if_success (with_reducible show wpAny _ _ (exec (Stmt.While _ _ _ _) _) _ _ _)); (fail_if_success (with_reducible show wpAny _ _ (exec (Stmt.For _ _ _ _ _) _) _ _ _)); (fail_if_success (with_reducible show wpAny _ _ (exec (Stmt.Assign _ (PySem.Expr.ListComp _ _ _ _) _) _) _ _ _)); (fail_if_success (with_reducible show wpAny _ _ (eval (PySem.Expr.ListComp _ _ _ _) _) _ _ _)); (first | (k_here; (with_reducible show wpAny _ _ (call (Value.builtin "str.join") [Value.str _ _, Value.ref _]) _ _ _); k_dflt (refine' join_signs_L ?zh54658jl ?zh54658ji ?zh54658jz ?_; (case zh54658jl => is_list); (case zh54658ji => assumption); (case zh54658jz => first | omega | (simp only [List.length_map]; omega)); k_whole); intro _ _) | walk1 | (dsimp only; walk1))) | (leave1; walk_say "STEP leave1"; try dsimp only)))
          rename Fr _ _ _ _ => fE
          rename News _ _ _ _ => nE
          rename _ < _ ∧ _ < _ => hlt
          have nP : News _ _ _ ((x, _) :: [_]) := fun p hp => nE p (.tail _ hp)
          have hlY : Heap.IsList _ _ (List.toArray [.str _ _, .str _ _, .str _ _, .str _ _]) := ⟨_, (nE _ (.head _)).1, rfl, _, rfl⟩
          clear nE
          k_dflt (refine' PM.use (law_pick_ok x D _ hxD ?hxY vs ns hvs hn _ ?i0 ?i1 s3 g3 hs30 ?h1 hg30 _ _ _) ?k1 ?k2 ?k3 nP ?koff ?k5 ?kK ?kd ?ku ⟨fE.lst hl, hlY⟩ ?_)
          case hxY => exact Nat.ne_of_gt hlt.1
          case i0 => exact Nat.le_of_ble_eq_true rfl
          case i1 => exact Nat.le_of_ble_eq_true rfl
          case h1 => omega
          case koff => exact fun p hp => by rw [List.mem_singleton.mp hp]; exact hxn2
          (case k1 => k_asm); (case k2 => k_asm); (case k3 => k_asm); (case k5 => k_asm); (case kK => first | exact rfl | assumption); (case kd => (first | exact room_1 hd rfl | exact room_0 hd | ktr_room)); (case ku => (first | exact unit_3 hu rfl | ktr_units))
          clear hlt nP hlY fE
          rintro v own px4 h4 tk4 ⟨d, s', g', hdl, hdx, hs0, hs1, hg0, hpx⟩ hK2 F4 N4 hU1 hU2
          clear hU1 hU2 hK2
          have hv : ∃ (way : Str) (t : Tok), v = .str way t ∧ way ∈ ways4 := by
            have hd2 : d = 0 ∨ d = 1 ∨ d = 2 ∨ d = 3 := lt4 d hdl
            rcases hd2 with rfl | rfl | rfl | rfl <;> cases hdx
            · exact ⟨_, _, rfl, .head _⟩
            · exact ⟨_, _, rfl, .tail _ (.head _)⟩
            · exact ⟨_, _, rfl, .tail _ (.tail _ (.head _))⟩
            · exact ⟨_, _, rfl, .tail _ (.tail _ (.tail _ (.head _)))⟩
          obtain ⟨way, ty, rfl, hway⟩ := hv
          dsimp only
          simp only [List.nil_append] at N4
          (repeat' (first | (k_unfold; (try dsimp only)) | ((fail_if_success (with_reducible show KswEnd _ _ _ _ _ _ _ _ _ _ _ _)); (fail_if_success (with_reducible show InvEndN _ _ _ _ _ _ _)); (fail_if_success (with_reducible show wpAny _ _ (exec (Stmt.While _ _ _ _) _) _ _ _)); (fail_if_success (with_reducible show wpAny _ _ (exec (Stmt.For _ _ _ _ _) _) _ _ _)); (fail_if_success (with_reducible show wpAny _ _ (exec (Stmt.Assign _ (PySem.Expr.ListComp _ _ _ _) _) _) _ _ _)); (fail_if_success (with_reducible show wpAny _ _ (eval (PySem.Expr.ListComp _ _ _ _) _) _ _ _)); (first | (k_here; (with_reducible show wpAny _ _ (call (Value.builtin "str.join") [Value.str _ _, Value.ref _]) _ _ _); k_dflt (refine' join_signs_L ?zh54658jl ?zh54658ji ?zh54658jz ?_; (case zh54658jl => is_list); (case zh54658ji => assumption); (case zh54658jz => first | omega | (simp only [List.length_map]; omega)); k_whole); intro _ _) | walk1 | (dsimp only; walk1))) | (leave1; walk_say "STEP leave1"; try dsimp only)))
          exact JoinS.mk [_, _] (by assumption) (by assumption) (fun p hp => hp) (.mk way _ s' g' px4 hway hpx (by omega) (by omega) hg0)
        case rest =>
          rintro h4 tk4 m4 nx4 ⟨way, ty, s4, g4, px4, hway, hpx4, hs40, hs41, hg40⟩ F4 N4
          clear F3 N3 hpx3 hs30 hs31 hg30
          dsimp only
          have hc3 := names_cs hnc
          have hsg := words_sign hc3 hxs3
          have hxl6 : (xs3.map Int.ofNat).length ≤ 6 := by rw [List.length_map]; exact hxs3.1
          (repeat' (first | (k_unfold; (try dsimp only)) | ((fail_if_success (with_reducible show KswEnd _ _ _ _ _ _ _ _ _ _ _ _)); (fail_if_success (with_reducible show InvEndN _ _ _ _ _ _ _)); (fail_if_success (with_reducible show wpAny _ _ (exec (Stmt.While _ _ _ _) _) _ _ _)); (fail_if_success (with_reducible show wpAny _ _ (exec (Stmt.For _ _ _ _ _) _) _ _ _)); (fail_if_success (with_reducible show wpAny _ _ (exec (Stmt.Assign _ (PySem.Expr.ListComp _ _ _ _) _) _) _ _ _)); (fail_if_success (with_reducible show wpAny _ _ (eval (PySem.Expr.ListComp _ _ _ _) _) _ _ _)); (first | (k_here; (with_reducible show wpAny _ _ (call (Value.builtin "str.join") [Value.str _ _, Value.ref _]) _ _ _); k_dflt (refine' join_signs_L ?zh54658jl ?zh54658ji ?zh54658jz ?_; (case zh54658jl => is_list); (case zh54658ji => assumption); (case zh54658jz => first | omega | (simp only [List.length_map]; omega)); k_whole); intro _ _) | walk1 | (dsimp only; walk1))) | (leave1; walk_say "STEP leave1"; try dsimp only)))
          k_dflt (refine' PC.use (octets_in_ok c hc3 ⟨xs3.toArray⟩ (xs3.map Int.ofNat) rfl (by omega) hsg _ _) ?k1 ?k2 ?k3 ?k4 ?k5 ?kK ?kd ?ku ?_)
          (( (case k1 => k_asm); (case k2 => k_asm); (case k3 => k_asm); (case k4 => k_asm); (case k5 => k_asm); (case kK => first | exact rfl | assumption); (case kd => (first | exact room_1 hd rfl | exact room_0 hd | ktr_room)); (case ku => (first | exact unit_3 hu rfl | ktr_units))))
          rintro v' own' h' tk' ⟨rfl, br, tr, rfl, hbr⟩ hK' F' N' hU'
          clear hK' hU' F4 N4
          simp only [List.nil_append] at N'
          obtain ⟨hnl, hnb⟩ := names_fit hnc
          obtain ⟨hwl, hwb⟩ := ways_fit hway
          have hrl := encT_len c (xs3.map Int.ofNat)
          dsimp only
          (repeat' (first | (k_unfold; (try dsimp only)) | ((fail_if_success (with_reducible show KswEnd _ _ _ _ _ _ _ _ _ _ _ _)); (fail_if_success (with_reducible show InvEndN _ _ _ _ _ _ _)); (fail_if_success (with_reducible show wpAny _ _ (exec (Stmt.While _ _ _ _) _) _ _ _)); (fail_if_success (with_reducible show wpAny _ _ (exec (Stmt.For _ _ _ _ _) _) _ _ _)); (fail_if_success (with_reducible show wpAny _ _ (exec (Stmt.Assign _ (PySem.Expr.ListComp _ _ _ _) _) _) _ _ _)); (fail_if_success (with_reducible show wpAny _ _ (eval (PySem.Expr.ListComp _ _ _ _) _) _ _ _)); (first | (k_here; (with_reducible show wpAny _ _ (call (Value.builtin "str.join") [Value.str _ _, Value.ref _]) _ _ _); k_dflt (refine' join_signs_L ?zh54658jl ?zh54658ji ?zh54658jz ?_; (case zh54658jl => is_list); (case zh54658ji => assumption); (case zh54658jz => first | omega | (simp only [List.length_map]; omega)); k_whole); intro _ _) | walk1 | (dsimp only; walk1))) | (leave1; walk_say "STEP leave1"; try dsimp only)))
          iterate 4 (rename _ ≤ _ ∧ _ ≤ _ => z; clear z)
          rename Fr _ _ _ _ => fE
          rename News _ _ _ _ => nE
          have hfr := frame_codes nm way
          have hfb : ∀ k ∈ (frameN nm way).map Int.ofNat, 0 ≤ k ∧ k < 256 := frame_in hnb hwb
          have hfl : (frameN nm way).length ≤ 16 := by unfold frameN; simp only [List.length_append, List.length_cons, List.length_nil, Array.length_toList]; have h1 : nm.cps.size ≤ 11 := hnl; have h2 : way.cps.size ≤ 1 := hwl; omega
          generalize Str.ofString "=?" ++ nm ++ Str.ofString "?" ++ way ++ Str.ofString "?" = fr at *
          have hfz : Str.length fr = (frameN nm way).length := by rw [← hfr, Array.length_toList]; rfl
          have hfz2 : fr.cps.size = (frameN nm way).length := hfz
          clear hnl hnb hwl hwb
          ((k_dflt refine comp1 (by k_asm) (by with_unfolding_all rfl) (by decide) (by rfl) (by decide) (by rfl) ?_))
          (repeat' (first | (k_unfold; (try dsimp only)) | ((fail_if_success (with_reducible show KswEnd _ _ _ _ _ _ _ _ _ _ _ _)); (fail_if_success (with_reducible show InvEndN _ _ _ _ _ _ _)); (fail_if_success (with_reducible show wpAny _ _ (exec (Stmt.While _ _ _ _) _) _ _ _)); (fail_if_success (with_reducible show wpAny _ _ (exec (Stmt.For _ _ _ _ _) _) _ _ _)); (fail_if_success (with_reducible show wpAny _ _ (exec (Stmt.Assign _ (PySem.Expr.ListComp _ _ _ _) _) _) _ _ _)); (fail_if_success (with_reducible show wpAny _ _ (eval (PySem.Expr.ListComp _ _ _ _) _) _ _ _)); (first | (k_here; (with_reducible show wpAny _ _ (call (Value.builtin "str.join") [Value.str _ _, Value.ref _]) _ _ _); k_dflt (refine' join_signs_L ?zh54658jl ?zh54658ji ?zh54658jz ?_; (case zh54658jl => is_list); (case zh54658ji => assumption); (case zh54658jz => first | omega | (simp only [List.length_map]; omega)); k_whole); intro _ _) | walk1 | (dsimp only; walk1))) | (leave1; walk_say "STEP leave1"; try dsimp only)))
          refine ⟨_, _, [(x, px4), (L' + 1, oP)], src_str (by rfl), by assumption, by assumption, ?s3, fun g => rest_each (fun i y => IsI (((frameN nm way).map Int.ofNat).getD i 0) y) ?_ ?_⟩
          case s3 => rw [PySem.sizeLine_eq]; omega
          · rintro i v I oI C oC Dc m₂ ys h tk E' hi ⟨cd, u, hcd, rfl⟩ hC hx F5 N5 off ne
            have hcl : fr.cps.toList[i]? = some cd := by rw [Array.getElem?_toList]; exact hcd
            rw [hfr] at hcl
            have hgd : ((frameN nm way).map Int.ofNat).getD i 0 = ((cd : Nat) : Int) := by
              rw [List.getD_eq_getElem?_getD, List.getElem?_map, hcl]; rfl
            (repeat' (first | (k_unfold; (try dsimp only)) | ((fail_if_success (with_reducible show KswEnd _ _ _ _ _ _ _ _ _ _ _ _)); (fail_if_success (with_reducible show InvEndN _ _ _ _ _ _ _)); (fail_if_success (with_reducible show wpAny _ _ (exec (Stmt.While _ _ _ _) _) _ _ _)); (fail_if_success (with_reducible show wpAny _ _ (exec (Stmt.For _ _ _ _ _) _) _ _ _)); (fail_if_success (with_reducible show wpAny _ _ (exec (Stmt.Assign _ (PySem.Expr.ListComp _ _ _ _) _) _) _ _ _)); (fail_if_success (with_reducible show wpAny _ _ (eval (PySem.Expr.ListComp _ _ _ _) _) _ _ _)); (first | (k_here; (with_reducible show wpAny _ _ (call (Value.builtin "str.join") [Value.str _ _, Value.ref _]) _ _ _); k_dflt (refine' join_signs_L ?zh54658jl ?zh54658ji ?zh54658jz ?_; (case zh54658jl => is_list); (case zh54658ji => assumption); (case zh54658jz => first | omega | (simp only [List.length_map]; omega)); k_whole); intro _ _) | walk1 | (dsimp only; walk1))) | (leave1; walk_say "STEP leave1"; try dsimp only)))
            rw [hgd]
            exact ⟨_, _, _, rfl, by assumption, by assumption, off, trivial, rfl, _, rfl⟩
          · intro ys hyl hy
            unfold LCg.FinE
            intro Dw h5 tk5 F5 N5 o5
            have hst : IntsAre ys ((frameN nm way).map Int.ofNat) := ints_of_each (by rw [hyl, List.length_map, hfz2]) hy
            have hlz : ((frameN nm way).map Int.ofNat).length ≤ 1000 := by rw [List.length_map]; omega
            (repeat' (first | (k_unfold; (try dsimp only)) | ((fail_if_success (with_reducible show KswEnd _ _ _ _ _ _ _ _ _ _ _ _)); (fail_if_success (with_reducible show InvEndN _ _ _ _ _ _ _)); (fail_if_success (with_reducible show wpAny _ _ (exec (Stmt.While _ _ _ _) _) _ _ _)); (fail_if_success (with_reducible show wpAny _ _ (exec (Stmt.For _ _ _ _ _) _) _ _ _)); (fail_if_success (with_reducible show wpAny _ _ (exec (Stmt.Assign _ (PySem.Expr.ListComp _ _ _ _) _) _) _ _ _)); (fail_if_success (with_reducible show wpAny _ _ (eval (PySem.Expr.ListComp _ _ _ _) _) _ _ _)); (first | (k_here; (with_reducible show wpAny _ _ (call (Value.builtin "str.join") [Value.str _ _, Value.ref _]) _ _ _); k_dflt (refine' join_signs_L ?zh54658jl ?zh54658ji ?zh54658jz ?_; (case zh54658jl => is_list); (case zh54658ji => assumption); (case zh54658jz => first | omega | (simp only [List.length_map]; omega)); k_whole); intro _ _) | walk1 | (dsimp only; walk1))) | (leave1; walk_say "STEP leave1"; try dsimp only)))
            · rename _ = true => hQ
              rename Fr _ _ _ _ => fE
              rename News _ _ _ _ => nE
              replace nE : News _ _ _ [_, _] := fun p hp => nE p (.tail _ hp)
              k_dflt (refine' PC.use (law_bits_ok br _ hbr (by omega) _) ?k1 ?k2 ?k3 nE ?k5 ?kK ?kd ?ku ?_)
              (case k1 => k_asm); (case k2 => k_asm); (case k3 => k_asm); (case k5 => k_asm); (case kK => first | exact rfl | assumption); (case kd => (first | exact room_1 hd rfl | exact room_0 hd | ktr_room)); (case ku => (first | exact unit_3 hu rfl | ktr_units))
              clear fE nE
              rintro v' own' h6 tk6 ⟨rfl, bb, tb, rfl, hbb⟩ hK' F6 N6 hU'
              clear hK' hU'
              simp only [List.nil_append] at N6
              dsimp only
              have hbz : (bits (encT c (xs3.map Int.ofNat))).length ≤ 100 := by unfold bits; rw [bits_len]; omega
              refine KBa.add_K (KBa.ints_make hfb) hbb (by rw [List.length_map]; omega) ?_
              intro t8 k8 hb8
              generalize byteArr ((frameN nm way).map Int.ofNat) ++ bb = b8 at hb8
              have hfz3 : Str.length fr ≤ 1000 := by omega
              (repeat' (first | (k_unfold; (try dsimp only)) | ((fail_if_success (with_reducible show KswEnd _ _ _ _ _ _ _ _ _ _ _ _)); (fail_if_success (with_reducible show InvEndN _ _ _ _ _ _ _)); (fail_if_success (with_reducible show wpAny _ _ (exec (Stmt.While _ _ _ _) _) _ _ _)); (fail_if_success (with_reducible show wpAny _ _ (exec (Stmt.For _ _ _ _ _) _) _ _ _)); (fail_if_success (with_reducible show wpAny _ _ (exec (Stmt.Assign _ (PySem.Expr.ListComp _ _ _ _) _) _) _ _ _)); (fail_if_success (with_reducible show wpAny _ _ (eval (PySem.Expr.ListComp _ _ _ _) _) _ _ _)); (first | (k_here; (with_reducible show wpAny _ _ (call (Value.builtin "str.join") [Value.str _ _, Value.ref _]) _ _ _); k_dflt (refine' join_signs_L ?zh54658jl ?zh54658ji ?zh54658jz ?_; (case zh54658jl => is_list); (case zh54658ji => assumption); (case zh54658jz => first | omega | (simp only [List.length_map]; omega)); k_whole); intro _ _) | walk1 | (dsimp only; walk1))) | (leave1; walk_say "STEP leave1"; try dsimp only)))
              rename _ < _ ∧ _ < _ ∧ _ < _ => hlt
              rename _ < _ ∧ _ < _ => hlt2
              have hl0 := Nat.ne_of_gt hlt2.1
              refine ret_mut [_, _] hret hgW (.mk nm c xs3 way _ _ _ _ _ _ _ s4 g4 px4 ⟨hnc, hxs3, hway⟩ ?zi ?zw (Nat.ne_of_lt hlt.1) hs40 hs41 hg40 hpx4) (by assumption) (by assumption) (by assumption) (by assumption) (.tail _ (.tail _ (.head _))) (lm_two (.head _) (.tail _ (.head _))) (fun p hp => (List.mem_cons.mp hp).elim (fun e => e ▸ Nat.ne_of_gt hlt.2.1) fun hp => (List.mem_singleton.mp hp) ▸ hl0)
              case zi =>
                unfold spotsN
                rw [← hfz]
                exact .cons _ _ (.cons _ _ (.cons _ _ (.cons _ _ (.cons _ _ (.cons _ _ .nil)))))
              case zw =>
                unfold wordN bodyN
                rw [if_pos hQ]
                exact KBw.ints_app hb8 rfl
            · rename _ = false => hQ
              rename Fr _ _ _ _ => fE
              rename News _ _ _ _ => nE
              replace nE : News _ _ _ [_, _] := fun p hp => nE p (.tail _ hp)
              k_dflt (refine' PC.use (law_marked_ok br _ hbr (by omega) _) ?k1 ?k2 ?k3 nE ?k5 ?kK ?kd ?ku ?_)
              (case k1 => k_asm); (case k2 => k_asm); (case k3 => k_asm); (case k5 => k_asm); (case kK => first | exact rfl | assumption); (case kd => (first | exact room_1 hd rfl | exact room_0 hd | ktr_room)); (case ku => (first | exact unit_3 hu rfl | ktr_units))
              clear fE nE
              rintro v' own' h6 tk6 ⟨rfl, bb, tb, rfl, hbb⟩ hK' F6 N6 hU'
              clear hK' hU'
              simp only [List.nil_append] at N6
              dsimp only
              have hbz : (marked (encT c (xs3.map Int.ofNat))).length ≤ 100 := by have := marked_len (encT c (xs3.map Int.ofNat)); omega
              refine KBa.add_K (KBa.ints_make hfb) hbb (by rw [List.length_map]; omega) ?_
              intro t8 k8 hb8
              generalize byteArr ((frameN nm way).map Int.ofNat) ++ bb = b8 at hb8
              have hfz3 : Str.length fr ≤ 1000 := by omega
              (repeat' (first | (k_unfold; (try dsimp only)) | ((fail_if_success (with_reducible show KswEnd _ _ _ _ _ _ _ _ _ _ _ _)); (fail_if_success (with_reducible show InvEndN _ _ _ _ _ _ _)); (fail_if_success (with_reducible show wpAny _ _ (exec (Stmt.While _ _ _ _) _) _ _ _)); (fail_if_success (with_reducible show wpAny _ _ (exec (Stmt.For _ _ _ _ _) _) _ _ _)); (fail_if_success (with_reducible show wpAny _ _ (exec (Stmt.Assign _ (PySem.Expr.ListComp _ _ _ _) _) _) _ _ _)); (fail_if_success (with_reducible show wpAny _ _ (eval (PySem.Expr.ListComp _ _ _ _) _) _ _ _)); (first | (k_here; (with_reducible show wpAny _ _ (call (Value.builtin "str.join") [Value.str _ _, Value.ref _]) _ _ _); k_dflt (refine' join_signs_L ?zh54658jl ?zh54658ji ?zh54658jz ?_; (case zh54658jl => is_list); (case zh54658ji => assumption); (case zh54658jz => first | omega | (simp only [List.length_map]; omega)); k_whole); intro _ _) | walk1 | (dsimp only; walk1))) | (leave1; walk_say "STEP leave1"; try dsimp only)))
              rename _ < _ ∧ _ < _ ∧ _ < _ => hlt
              rename _ < _ ∧ _ < _ => hlt2
              have hl0 := Nat.ne_of_gt hlt2.1
              refine ret_mut [_, _] hret hgW (.mk nm c xs3 way _ _ _ _ _ _ _ s4 g4 px4 ⟨hnc, hxs3, hway⟩ ?zi ?zw (Nat.ne_of_lt hlt.1) hs40 hs41 hg40 hpx4) (by assumption) (by assumption) (by assumption) (by assumption) (.tail _ (.tail _ (.head _))) (lm_two (.head _) (.tail _ (.head _))) (fun p hp => (List.mem_cons.mp hp).elim (fun e => e ▸ Nat.ne_of_gt hlt.2.1) fun hp => (List.mem_singleton.mp hp) ▸ hl0)
              case zi =>
                unfold spotsN
                rw [← hfz]
                exact .cons _ _ (.cons _ _ (.cons _ _ (.cons _ _ (.cons _ _ (.cons _ _ .nil)))))
              case zw =>
                unfold wordN bodyN
                rw [if_neg (by rw [hQ]; exact Bool.false_ne_true)]
                exact KBw.ints_app hb8 rfl
theorem EqAt_bytes {A : Around} {s : Shared} (a b : Array UInt8) (t u : Tok) : SeqAt.EqAt A s (.bytes a t) (.bytes b u) (a.toList == b.toList) := fun prog w E Q h => by
  unfold eqBool
  refine wpAny_holding ?_
  refine wpAny_ite_split (fun hab => ?_) (fun _ => ?_)
  · have e : a = b := by have := eq_of_beq hab; injection this
    subst e
    exact wpAny_bind (wpAny_rule (wpAny_pure (by simpa using h)))
  · exact wpAny_bind (richCompare_gives (typeIs_bytes s a t) (typeIs_bytes s b u) FB.slot_bytes_eq FB.entry_bytes_eq (FB.args_bytes_eq_2 _ _) (gives_bytes_eq a b t u) (fun e => nomatch e) (wpAny_truthy_bool h))
def spotsAll (nm way : Str) (W : List Int) : List Int := (List.replicate (Int.toNat 6) [-1]).flatten ++ spotsN nm way ++ [(W.length : Int) - 2, (W.length : Int) - 1]
theorem frameN_len {nm c way : Str} (h : (nm, c) ∈ names5) (g : way ∈ ways4) : (frameN nm way).length ≤ 16 := by
  obtain ⟨h1, _⟩ := names_fit h
  obtain ⟨h2, _⟩ := ways_fit g
  unfold frameN; simp only [List.length_append, List.length_cons, List.length_nil, Array.length_toList]; have h1 : nm.cps.size ≤ 11 := h1; have h2 : way.cps.size ≤ 1 := h2; omega
theorem wordN_len {nm c way : Str} {xs : List Nat} (h : (nm, c) ∈ names5 ∧ WordsOk c xs ∧ way ∈ ways4) : (wordN nm way c xs).length ≤ 200 := by
  have h1 := frameN_len h.1 h.2.2
  have h2 := encT_len c (xs.map Int.ofNat)
  have h3 := marked_len (encT c (xs.map Int.ofNat))
  have h4 := bits_len (encT c (xs.map Int.ofNat)) (((encT c (xs.map Int.ofNat)).length + 2) / 3)
  have h5 := h.2.1.1
  rw [List.length_map] at h2
  unfold wordN bodyN
  rw [List.length_append, List.length_append, List.length_map]
  split
  · unfold bits; rw [h4]; simp only [List.length_cons, List.length_nil]; omega
  · simp only [List.length_cons, List.length_nil]; omega
theorem spotsAll_len (nm way : Str) (W : List Int) : (spotsAll nm way W).length = 14 := rfl
theorem frameN_pos (nm way : Str) : 4 ≤ (frameN nm way).length := by
  unfold frameN; simp only [List.length_append, List.length_cons, List.length_nil]; omega
theorem wordN_ge (nm way c : Str) (xs : List Nat) : (frameN nm way).length + 2 ≤ (wordN nm way c xs).length := by
  unfold wordN; simp only [List.length_append, List.length_map, List.length_cons, List.length_nil]; omega
theorem spot_range {nm c way : Str} {xs : List Nat} (_h : (nm, c) ∈ names5 ∧ WordsOk c xs ∧ way ∈ ways4) {sp : Int} (hs : sp ∈ spotsAll nm way (wordN nm way c xs)) : -1 ≤ sp ∧ sp < (wordN nm way c xs).length := by
  have h1 := frameN_pos nm way
  have h2 := wordN_ge nm way c xs
  generalize (wordN nm way c xs) = W at *
  rcases List.mem_append.mp hs with hs | hs
  · rcases List.mem_append.mp hs with hs | hs
    · have := (by decide : ∀ x ∈ (List.replicate (Int.toNat 6) [(-1 : Int)]).flatten, x = -1) sp hs
      clear hs; omega
    · unfold spotsN at hs
      generalize (frameN nm way).length = f at *
      simp only [List.mem_cons, List.not_mem_nil, or_false] at hs
      rcases hs with rfl | rfl | rfl | rfl | rfl | rfl <;> omega
  · generalize (frameN nm way).length = f at *
    simp only [List.mem_cons, List.not_mem_nil, or_false] at hs
    rcases hs with rfl | rfl <;> omega
def bentN (W : List Int) (sp : Int) : List Int := if sp < 0 then W else W.take sp.toNat ++ [33] ++ W.drop (sp.toNat + 1)
theorem bent_else {W : List Int} {sp : Int} (h : ¬ sp < 0) (h2 : sp < (W.length : Int)) : List.take (clipAt W.length sp) W ++ List.map (fun c : UInt8 => ((c.toNat : Nat) : Int)) [33] ++ List.take (W.length - clipAt W.length (sp + 1)) (List.drop (clipAt W.length (sp + 1)) W) = bentN W sp := by
  obtain ⟨n, rfl⟩ : ∃ n : Nat, sp = (n : Int) := ⟨sp.toNat, by omega⟩
  have h3 : n < W.length := by omega
  unfold bentN
  rw [if_neg h, show ((n : Int) + 1) = ((n + 1 : Nat) : Int) from rfl, clipAt_nat, clipAt_nat, Int.toNat_natCast, Nat.min_eq_left (Nat.le_of_lt h3), Nat.min_eq_left (by omega : n + 1 ≤ W.length), List.take_of_length_le (l := List.drop (n + 1) W) (by rw [List.length_drop]; exact Nat.le_refl _)]
  rfl
theorem bentN_len {W : List Int} {sp : Int} (h2 : sp < (W.length : Int)) : (bentN W sp).length = W.length := by
  unfold bentN
  split
  · rfl
  · simp only [List.length_append, List.length_take, List.length_drop, List.length_cons, List.length_nil]; omega
def aheadsB : List (List Int) := [[], [32], [120, 32], [40], [120], [9], [41], [233, 10], [61], [63]]
def behindsB : List (List Int) := [[], [32], [41], [120], [13, 10], [40], [9, 120], [61], [41, 120], [233]]
theorem aheads_fit {l : List Int} (h : l ∈ aheadsB) : l.length ≤ 2 ∧ ∀ k ∈ l, 0 ≤ k ∧ k < 256 := (by decide : ∀ l ∈ aheadsB, l.length ≤ 2 ∧ ∀ k ∈ l, 0 ≤ k ∧ k < 256) l h
theorem behinds_fit {l : List Int} (h : l ∈ behindsB) : l.length ≤ 2 ∧ ∀ k ∈ l, 0 ≤ k ∧ k < 256 := (by decide : ∀ l ∈ behindsB, l.length ≤ 2 ∧ ∀ k ∈ l, 0 ≤ k ∧ k < 256) l h
theorem bytes_test (a b : Array UInt8) : (a.toList == b.toList) = (KBw.bInts a == KBw.bInts b) := by
  rw [Bool.eq_iff_iff, beq_iff_eq, beq_iff_eq]
  exact ⟨fun h => by rw [Array.toList_inj.mp h], fun h => by rw [bInts_inj h]⟩
/-- is a bytes among a tuple's -/
theorem in_tuple_bytes {prog : Program} {w : World} {A : Around} {E : Value → Shared → Prop} {s : Shared} {t : Addr} {b : Array UInt8} {ks : List Int} {u : Tok} {Q : Value → Shared → Prop} (bs : List (Array UInt8 × Tok)) (ht : s.heap.IsTuple t (bs.map fun p => Value.bytes p.1 p.2).toArray) (hb : KBw.bInts b = ks) {r : Bool} (hr : (bs.map fun p => KBw.bInts p.1).any (· == ks) = r)
    (h : Q (.bool r) s) : wpAny (model prog w) A (compareOp .In (.bytes b u) (.ref t)) Q E s := by
  subst hb hr
  refine SeqAt.in_tupleAt (fun y => match y with | .bytes c _ => c.toList == b.toList | _ => false) ht (fun y hy => ?_) ?_
  · rw [List.mem_toArray] at hy
    obtain ⟨p, _, rfl⟩ := List.mem_map.mp hy
    exact EqAt_bytes _ _ _ _
  · have e : (bs.map fun p => Value.bytes p.1 p.2).toArray.any (fun y => match y with | .bytes c _ => c.toList == b.toList | _ => false) = (bs.map fun p => KBw.bInts p.1).any (· == KBw.bInts b) := by
      rw [List.any_toArray, List.any_map, List.any_map]
      exact congrArg (fun f => bs.any f) (funext fun p => bytes_test _ _)
    rw [e]
    exact h
/-- is what stands ahead and behind white or a bracket, as the law says it -/
def apA (A : List Int) : Bool := ([[], [32], [40], [9], [10]] : List (List Int)).any (· == List.take (A.length - clipAt A.length (-1)) (List.drop (clipAt A.length (-1)) A))
def apC (C : List Int) : Bool := ([[], [32], [41], [13], [9]] : List (List Int)).any (· == List.take (clipAt C.length 1) C)
def apartB (A C : List Int) : Bool := apA A && apC C
/-- the plain law: where the law's octets hold a word, and which -/
def PlainLaw : Prop := ∀ (nm c way : Str) (xs : List Nat) (A C : List Int) (sp : Int), ((nm, c) ∈ names5 ∧ WordsOk c xs ∧ way ∈ ways4) → A ∈ aheadsB → C ∈ behindsB → sp ∈ spotsAll nm way (wordN nm way c xs) →
  ((decide (sp < 0) && apartB A C) = true → WordIs (A ++ bentN (wordN nm way c xs) sp ++ C) A.length (some (xs.map Int.ofNat, ((A.length + (wordN nm way c xs).length : Nat) : Int)))) ∧
  ∀ i, i < (A ++ bentN (wordN nm way c xs) sp ++ C).length → ¬ ((decide (sp < 0) && apartB A C) = true ∧ i = A.length) → WordIs (A ++ bentN (wordN nm way c xs) sp ++ C) i none
theorem small_1k {n : Nat} (h : n ≤ 1000) : Builtin.Range.small 0 (n : Int) 1 = true := by
  have : ∀ n ≤ 1000, Builtin.Range.small 0 ((n : Nat) : Int) 1 = true := by decide +kernel
  exact this n h
theorem ne_tup2 {prog : Program} {w : World} {A : Around} {E : Value → Shared → Prop} {s : Shared} {a b : Addr} {x : Str} {k : Int} {t u t' u' : Tok} {Q : Value → Shared → Prop} (ha : s.heap.get? a = some { cls := .type "tuple", data := .seq #[.str x t, .int k u] }) (hb : s.heap.get? b = some { cls := .type "tuple", data := .seq #[.str x t', .int k u'] }) (hx : PyData.strOk x = true) (hu : A.units + 64 < cLine)
    (h : Q (.bool false) s) : wpAny (model prog w) A (compareOp .NotEq (.ref a) (.ref b)) Q E s := by
  have hs : SeqAt.shaped (.tuple [.str x, .int k]) = true := by simp [SeqAt.shaped, PyData.canLay0, PyData.canLayAll0, PyData.depth, PyData.depthAll, hx]
  refine ne_dataH (da := .tuple [.str x, .int k]) (db := .tuple [.str x, .int k]) (reads_tuple_at ha rfl rfl (.cons (.str _ _) (.cons (.int _ _) .nil))) (reads_tuple_at hb rfl rfl (.cons (.str _ _) (.cons (.int _ _) .nil))) hs hs hu ?_
  have : PyData.eqv (.tuple [.str x, .int k]) (.tuple [.str x, .int k]) = true := by simp [PyData.eqv, PyData.eqvAll]
  rw [this]
  exact h
theorem words_ok {c : Str} {xs : List Nat} (h : WordsOk c xs) : PyData.strOk ⟨xs.toArray⟩ = true := by
  unfold PyData.strOk
  rw [Array.all_eq_true_iff_forall_mem]
  intro k hk
  have := h.2 k (by simpa using hk)
  refine decide_eq_true ?_
  rcases this with h | ⟨h, _⟩
  · exact Nat.lt_trans ((by decide : ∀ k ∈ [97, 32, 66, 63, 95, 61], k < 128) k h) (by decide)
  · rw [h]; decide
theorem nat_ints (xs : List Nat) : (xs.map Int.ofNat).map Int.toNat = xs := by
  rw [List.map_map]
  exact (List.map_congr_left fun k _ => rfl).trans (List.map_id _)
theorem eqTup {A : Around} {s : Shared} {a b : Addr} {k : Bool} {y1 y2 : Value} (hne : a ≠ b) (ha : s.heap.get? a = some { cls := .type "tuple", data := .seq #[.bool k, y1] }) (hb : s.heap.get? b = some { cls := .type "tuple", data := .seq #[.bool k, y2] }) (hy : SeqAt.EqAt A.in1 s y1 y2 true) (hu : A.units < cLine) : SeqAt.EqAt A s (.ref a) (.ref b) true := by
  refine SeqAt.EqAt.of_refs hne ?_
  have h := SeqAt.RcAt.tuples (A := A) (e := fun _ => true) (⟨_, ha, rfl, _, rfl⟩ : s.heap.IsTuple a #[.bool k, y1]) (⟨_, hb, rfl, _, rfl⟩ : s.heap.IsTuple b #[.bool k, y2]) hu (fun j h1 h2 => by
    match j, h1, h2 with
    | 0, _, _ => exact SeqAt.EqAt.same _
    | 1, _, _ => exact hy
    | n + 2, h1, _ => exact absurd h1 (by simp))
  exact h
theorem EqAt_bytes_same {A : Around} {s : Shared} {a b : Array UInt8} {t u : Tok} (h : KBw.bInts a = KBw.bInts b) : SeqAt.EqAt A s (.bytes a t) (.bytes b u) true := by
  have := EqAt_bytes (A := A) (s := s) a b t u
  rwa [bytes_test, beq_iff_eq.mpr h] at this
theorem EqAt_str_same {A : Around} {s : Shared} {x : Str} {t u : Tok} : SeqAt.EqAt A s (.str x t) (.str x u) true := fun prog w E Q hq => eqBool_str (by rw [beq_self_eq_true]; exact hq)
theorem map6 {a b c d e f : Str} {v1 v2 v3 v4 v5 v6 : Option Value} {M : Str → Option Value} (h1 : M a = v1) (h2 : M b = v2) (h3 : M c = v3) (h4 : M d = v4) (h5 : M e = v5) (h6 : M f = v6) :
    M = fun z => if z = a then v1 else if z = b then v2 else if z = c then v3 else if z = d then v4 else if z = e then v5 else if z = f then v6 else M z := by
  funext z
  (repeat' split) <;> first | (subst z; assumption) | rfl
theorem bent_at {nm way c : Str} {xs : List Nat} {A C W : List Int} {sp : Int} (h : wordN nm way c xs = W) : sp < 0 → (A ++ bentN W sp ++ C).getD A.length 0 = 61 := by
  intro hs
  unfold bentN
  rw [if_pos hs, ← h, List.append_assoc, List.getD_eq_getElem?_getD, List.getElem?_append_right (Nat.le_refl _), Nat.sub_self]
  rfl
theorem joinSF {prog : Program} {w : World} {A : Around} {E : Value → Shared → Prop} {Q : Flow → Shared → Prop} {s : Shared} {g : Heap} {L : Addr} {tree : Sem Flow} {m₀ : Str → Option Value} (_F : Fr g L s.heap m₀) (R : (Str → Option Value) → List (Addr × Obj) → Prop)
    (first : wpAny (model prog w) A tree (JoinS g L R s) E s)
    (rest : ∀ h' tk' m' nx, R m' nx → Fr g L h' m' → News g L h' nx → Q .next { s with heap := h', toks := tk' }) : wpAny (model prog w) A tree Q E s := joinS R first rest
theorem fr_script {g h : Heap} {L : Addr} {a : Str} {v : Value} (F : Fr g L h fun x => List.lookup x [(a, v)].reverse) : Fr g L h (fun y => if y = a then some v else (fun _ => none) y) := by
  have e : (fun x => List.lookup x [(a, v)].reverse) = fun y => if y = a then some v else (fun _ => none) y := by
    funext y
    show (match y == a with | true => some v | false => none) = _
    by_cases h : y = a
    · rw [if_pos h, h, beq_self_eq_true]
    · rw [if_neg h, beq_eq_false_iff_ne.mpr h]
  rw [e] at F
  exact F
theorem law_at {K : Frag} {a : Addr} {oc oc' dV kV doc pm cdv ct dV' kV' doc' pm' cdv' ct' : Value} {od an od' an' : Option Addr} {name qual name' qual' : Str} {params params' : Arguments} {body body' : List Stmt} {scope scope' : Scope} {osl osl' : Array (Option Value)} {P : Prop}
    (ho : K.lookup a = some ⟨oc, od, .func (fnOf name qual params body scope dV kV doc pm an cdv ct), osl⟩) (hX : K.lookup a = some ⟨oc', od', .func (fnOf name' qual' params' body' scope' dV' kV' doc' pm' an' cdv' ct'), osl'⟩) (k : qual = qual' ∧ body = body' ∧ scope = scope' → P) : P := by
  have h2 := ho.symm.trans hX
  unfold fnOf at h2
  cases h2
  exact k ⟨rfl, rfl, rfl⟩
inductive LbPen (l : List Int) : (Str → Option Value) → List (Addr × Obj) → Prop
  | mk (xp D : Addr) (vs : List Value) (n : Nat) (t u : Tok) (m₀ : Str → Option Value) : IntsAre vs l → D ≠ xp → LbPen l (fun y => if y = Str.ofString "pen" then some (.ref xp) else m₀ y) [(xp, W.listOf #[.ref D, .int 0 t, .int 0 u] n), (D, LCg.lst vs)]
inductive LbWord (D xp : Addr) (o : Addr × Obj) (m₀ : Str → Option Value) : (Str → Option Value) → List (Addr × Obj) → Prop
  | mk (nm c : Str) (xs : List Nat) (way : Str) (wb : Array UInt8) (tw tx : Tok) (F : Addr) (fs : List Value) (nf : Nat) (s' g' : Int) (px : Obj) : (nm, c) ∈ names5 ∧ WordsOk c xs ∧ way ∈ ways4 → IntsAre fs (spotsN nm way) → KBw.bInts wb = wordN nm way c xs → PenO D s' g' px → 0 ≤ s' → s' ≤ 9 → 0 ≤ g' → F ≠ xp →
      LbWord D xp o m₀ (fun y => if y = Str.ofString "frame" then some (.ref F) else if y = Str.ofString "words" then some (.str ⟨xs.toArray⟩ tx) else if y = Str.ofString "word" then some (.bytes wb tw) else m₀ y) [(xp, px), o, (F, W.listOf fs.toArray nf)]
inductive LbSpot (S : List Int) (D : Addr) (M : Int → Tok → Str → Option Value) (N : Obj → List (Addr × Obj)) : (Str → Option Value) → List (Addr × Obj) → Prop
  | mk (sp : Int) (tsp : Tok) (s' g' : Int) (px : Obj) : sp ∈ S → PenO D s' g' px → 0 ≤ s' → s' ≤ 10 → 0 ≤ g' → LbSpot S D M N (M sp tsp) (N px)
inductive LbAhead (S : List (List Int)) (D : Addr) (M : Array UInt8 → Tok → Str → Option Value) (N : Obj → List (Addr × Obj)) : (Str → Option Value) → List (Addr × Obj) → Prop
  | mk (b : Array UInt8) (t : Tok) (s' g' : Int) (px : Obj) : KBw.bInts b ∈ S → PenO D s' g' px → 0 ≤ s' → s' ≤ 11 → 0 ≤ g' → LbAhead S D M N (M b t) (N px)
inductive LbB1 (l : List Int) (nx : List (Addr × Obj)) (M : Array UInt8 → Tok → Str → Option Value) : (Str → Option Value) → List (Addr × Obj) → Prop
  | mk (b : Array UInt8) (t : Tok) : KBw.bInts b = l → LbB1 l nx M (M b t) nx
inductive LbB2 (S : List (List Int)) (M : Array UInt8 → Tok → Str → Option Value) : (Str → Option Value) → List (Addr × Obj) → Prop
  | mk (b : Array UInt8) (t : Tok) : KBw.bInts b ∈ S → LbB2 S M (M b t) []
set_option maxHeartbeats 1000000 in
theorem law_body (hPL : PlainLaw) (w : World) (mean : ExcName → Option Value) (mg mb : Str → Option Value) (d u : Nat) (gd : Option (List Code)) (outer : List Env) (base g : Heap) (L : Addr) (m : Str → Option Value) (s : Shared) (f x : Addr) (cd2 : Value) (vs : List Value) (ns : List Int)
    {oc dV kV doc pm cdv ct : Value} {od an : Option Addr} {name qual : Str} {params : Arguments} {body : List Stmt} {scope : Scope} {osl : Array (Option Value)} (Q : Flow → Shared → Prop) (E : Value → Shared → Prop)
    (ho : (fragK w.params).lookup 282 = some ⟨oc, od, .func (fnOf name qual params body scope dV kV doc pm an cdv ct), osl⟩)
    (B : Below ⟨none, d, some outer, gd, u⟩ base outer g) (X : (fragK w.params).In g) (T : Top viewQ loose mean mg mb g) (hl : g.IsList x vs.toArray) (hvs : IntsAre vs ns) (hn : ns.length ≤ 63)
    (hd : d + 41 < recursionLimit) (hu : u + 8 * 41 < cLine) (F : Fr g L s.heap (fun y => if y = Str.ofString "script" then some (.ref x) else m y)) (N : News g L s.heap []) (hret : ∀ h' tk' m', Fr g L h' m' → Q (.ret (.bool true)) { s with heap := h', toks := tk' }) :
    wpAny (model PySem.Challenge.rw_nz0298_01.row.prog w) (Around.deeper ⟨none, d, some outer, gd, u⟩ (envOf qual scope L f cd2)) (execs body (envOf qual scope L f cd2)) Q
      (fun e s' => wpAny (model PySem.Challenge.rw_nz0298_01.row.prog w) (Around.deeper ⟨none, d, some outer, gd, u⟩ (envOf qual scope L f cd2)) (leaving (envOf qual scope L f cd2) e) (fun _ s'' => E e s'') (fun e' s'' => E e' s'') s') s := by
  revert ho
  k_fill
  intro ho
  k_dflt (refine' law_at ho ?hX ?main; (case hX => k_is))
  rintro ⟨rfl, rfl, rfl⟩
  walk1
  rename Fr _ _ _ _ => fE
  refine joinSF fE (LbPen (ns.take 40)) ?first ?rest
  case first =>
    (repeat' (first | (k_unfold; (try dsimp only)) | ((fail_if_success (with_reducible show KswEnd _ _ _ _ _ _ _ _ _ _ _ _)); (fail_if_success (with_reducible show InvEndN _ _ _ _ _ _ _)); (fail_if_success (with_reducible show wpAny _ _ (exec (Stmt.While _ _ _ _) _) _ _ _)); (fail_if_success (with_reducible show wpAny _ _ (exec (Stmt.For _ _ _ _ _) _) _ _ _)); (fail_if_success (with_reducible show wpAny _ _ (exec (Stmt.Assign _ (PySem.Expr.ListComp _ _ _ _) _) _) _ _ _)); (fail_if_success (with_reducible show wpAny _ _ (eval (PySem.Expr.ListComp _ _ _ _) _) _ _ _)); (first | (k_here; (with_reducible show wpAny _ _ (call (Value.ref 232) [Value.bytes _ _, Value.int _ _] _) _ _ _); k_dflt (refine' PC.use (word_at_ok _ _ (by assumption) (by assumption) _ (by assumption) _ _ _ (by assumption)) ?zh35632k1 ?zh35632k2 ?zh35632k3 ?zh35632k4 ?zh35632k5 ?zh35632kK ?zh35632kd ?zh35632ku ?_); (( (case zh35632k1 => k_asm); (case zh35632k2 => k_asm); (case zh35632k3 => k_asm); (case zh35632k4 => k_asm); (case zh35632k5 => k_asm); (case zh35632kK => first | exact rfl | assumption); (case zh35632kd => (first | exact room_1 hd rfl | exact room_0 hd | ktr_room)); (case zh35632ku => (first | exact unit_3 hu rfl | ktr_units)))); intro vzz ownzz hzz tkzz hRzz hKzz Fzz Nzz hUzz; clear hKzz; (first | (obtain ⟨hVzz, hOzz⟩ := (hRzz : _ = Value.none ∧ _ = []); subst hOzz hVzz; clear hUzz; (try simp only [List.nil_append] at Nzz)) | (obtain ⟨xzz, t1zz, t2zz, hVzz, hOzz⟩ := hRzz; subst hVzz hOzz; (try (have n1zz := hUzz _ (.head _) _ (.head _); have m1zz := Ne.symm n1zz; dsimp only at n1zz m1zz)); (try (have n2zz := hUzz _ (.head _) _ (.tail _ (.head _)); have m2zz := Ne.symm n2zz; dsimp only at n2zz m2zz)); (try (have n3zz := hUzz _ (.head _) _ (.tail _ (.tail _ (.head _))); have m3zz := Ne.symm n3zz; dsimp only at n3zz m3zz)); clear hUzz; (try simp only [List.singleton_append] at Nzz))); (try dsimp only)) | walk1 | (dsimp only; walk1))) | (leave1; walk_say "STEP leave1"; try dsimp only)))
    rename Fr _ _ _ _ => fP
    k_dflt (refine' PCp.use (law_pen_ok x vs ns hvs hn) ?k1 ?k2 ?k3 ?k4 ?k5 ?kK ?kd ?ku (fP.lst hl) ?_)
    (( (case k1 => k_asm); (case k2 => k_asm); (case k3 => k_asm); (case k4 => k_asm); (case k5 => k_asm); (case kK => first | exact rfl | assumption); (case kd => (first | exact room_1 hd rfl | exact room_0 hd | ktr_room)); (case ku => (first | exact unit_3 hu rfl | ktr_units))))
    rintro v' own' h' tk' ⟨xp, D, vs', n, t, u, rfl, rfl, hvs', hne⟩ hK' F' N' hU'
    clear hK' hU'
    (try dsimp only)
    (repeat' (first | (k_unfold; (try dsimp only)) | ((fail_if_success (with_reducible show KswEnd _ _ _ _ _ _ _ _ _ _ _ _)); (fail_if_success (with_reducible show InvEndN _ _ _ _ _ _ _)); (fail_if_success (with_reducible show wpAny _ _ (exec (Stmt.While _ _ _ _) _) _ _ _)); (fail_if_success (with_reducible show wpAny _ _ (exec (Stmt.For _ _ _ _ _) _) _ _ _)); (fail_if_success (with_reducible show wpAny _ _ (exec (Stmt.Assign _ (PySem.Expr.ListComp _ _ _ _) _) _) _ _ _)); (fail_if_success (with_reducible show wpAny _ _ (eval (PySem.Expr.ListComp _ _ _ _) _) _ _ _)); (first | (k_here; (with_reducible show wpAny _ _ (call (Value.ref 232) [Value.bytes _ _, Value.int _ _] _) _ _ _); k_dflt (refine' PC.use (word_at_ok _ _ (by assumption) (by assumption) _ (by assumption) _ _ _ (by assumption)) ?zh35632k1 ?zh35632k2 ?zh35632k3 ?zh35632k4 ?zh35632k5 ?zh35632kK ?zh35632kd ?zh35632ku ?_); (( (case zh35632k1 => k_asm); (case zh35632k2 => k_asm); (case zh35632k3 => k_asm); (case zh35632k4 => k_asm); (case zh35632k5 => k_asm); (case zh35632kK => first | exact rfl | assumption); (case zh35632kd => (first | exact room_1 hd rfl | exact room_0 hd | ktr_room)); (case zh35632ku => (first | exact unit_3 hu rfl | ktr_units)))); intro vzz ownzz hzz tkzz hRzz hKzz Fzz Nzz hUzz; clear hKzz; (first | (obtain ⟨hVzz, hOzz⟩ := (hRzz : _ = Value.none ∧ _ = []); subst hOzz hVzz; clear hUzz; (try simp only [List.nil_append] at Nzz)) | (obtain ⟨xzz, t1zz, t2zz, hVzz, hOzz⟩ := hRzz; subst hVzz hOzz; (try (have n1zz := hUzz _ (.head _) _ (.head _); have m1zz := Ne.symm n1zz; dsimp only at n1zz m1zz)); (try (have n2zz := hUzz _ (.head _) _ (.tail _ (.head _)); have m2zz := Ne.symm n2zz; dsimp only at n2zz m2zz)); (try (have n3zz := hUzz _ (.head _) _ (.tail _ (.tail _ (.head _))); have m3zz := Ne.symm n3zz; dsimp only at n3zz m3zz)); clear hUzz; (try simp only [List.singleton_append] at Nzz))); (try dsimp only)) | walk1 | (dsimp only; walk1))) | (leave1; walk_say "STEP leave1"; try dsimp only)))
    exact JoinS.mk [_, _] (by assumption) (by assumption) (lm_two (.head _) (.tail _ (.head _))) (LbPen.mk xp D vs' n t u _ hvs' hne)
  case rest =>
    rintro h1 tk1 m1 nx1 ⟨xp, D, vs', n1, t1, u1, m₀, hvs', hDx⟩ F1 N1
    clear fE
    have hn40 : (ns.take 40).length ≤ 40 := by rw [List.length_take]; omega
    generalize ns.take 40 = ns' at hvs' hn40
    clear hl hvs hn
    dsimp only
    walk1
    refine joinSF F1 (LbWord D xp (D, LCg.lst vs') fun y => if y = Str.ofString "pen" then some (.ref xp) else m₀ y) ?first ?rest
    case first =>
      (repeat' (first | (k_unfold; (try dsimp only)) | ((fail_if_success (with_reducible show KswEnd _ _ _ _ _ _ _ _ _ _ _ _)); (fail_if_success (with_reducible show InvEndN _ _ _ _ _ _ _)); (fail_if_success (with_reducible show wpAny _ _ (exec (Stmt.While _ _ _ _) _) _ _ _)); (fail_if_success (with_reducible show wpAny _ _ (exec (Stmt.For _ _ _ _ _) _) _ _ _)); (fail_if_success (with_reducible show wpAny _ _ (exec (Stmt.Assign _ (PySem.Expr.ListComp _ _ _ _) _) _) _ _ _)); (fail_if_success (with_reducible show wpAny _ _ (eval (PySem.Expr.ListComp _ _ _ _) _) _ _ _)); (first | (k_here; (with_reducible show wpAny _ _ (call (Value.ref 232) [Value.bytes _ _, Value.int _ _] _) _ _ _); k_dflt (refine' PC.use (word_at_ok _ _ (by assumption) (by assumption) _ (by assumption) _ _ _ (by assumption)) ?zh35632k1 ?zh35632k2 ?zh35632k3 ?zh35632k4 ?zh35632k5 ?zh35632kK ?zh35632kd ?zh35632ku ?_); (( (case zh35632k1 => k_asm); (case zh35632k2 => k_asm); (case zh35632k3 => k_asm); (case zh35632k4 => k_asm); (case zh35632k5 => k_asm); (case zh35632kK => first | exact rfl | assumption); (case zh35632kd => (first | exact room_1 hd rfl | exact room_0 hd | ktr_room)); (case zh35632ku => (first | exact unit_3 hu rfl | ktr_units)))); intro vzz ownzz hzz tkzz hRzz hKzz Fzz Nzz hUzz; clear hKzz; (first | (obtain ⟨hVzz, hOzz⟩ := (hRzz : _ = Value.none ∧ _ = []); subst hOzz hVzz; clear hUzz; (try simp only [List.nil_append] at Nzz)) | (obtain ⟨xzz, t1zz, t2zz, hVzz, hOzz⟩ := hRzz; subst hVzz hOzz; (try (have n1zz := hUzz _ (.head _) _ (.head _); have m1zz := Ne.symm n1zz; dsimp only at n1zz m1zz)); (try (have n2zz := hUzz _ (.head _) _ (.tail _ (.head _)); have m2zz := Ne.symm n2zz; dsimp only at n2zz m2zz)); (try (have n3zz := hUzz _ (.head _) _ (.tail _ (.tail _ (.head _))); have m3zz := Ne.symm n3zz; dsimp only at n3zz m3zz)); clear hUzz; (try simp only [List.singleton_append] at Nzz))); (try dsimp only)) | walk1 | (dsimp only; walk1))) | (leave1; walk_say "STEP leave1"; try dsimp only)))
      have hlD : Heap.IsList _ D vs'.toArray := ⟨_, (N1 _ (.tail _ (.head _))).1, rfl, _, rfl⟩
      k_dflt (refine' PM.use (law_word_ok xp D hDx vs' ns' hvs' hn40 t1 u1 n1) ?k1 ?k2 ?k3 N1 ?koff ?k5 ?kK ?kd ?ku hlD ?_)
      case koff => exact fun p hp => by rw [List.mem_singleton.mp hp]; exact hDx
      (case k1 => k_asm); (case k2 => k_asm); (case k3 => k_asm); (case k5 => k_asm); (case kK => first | exact rfl | assumption); (case kd => (first | exact room_1 hd rfl | exact room_0 hd | ktr_room)); (case ku => (first | exact unit_3 hu rfl | ktr_units))
      rintro _ _ px h2 tk2 ⟨nm, c, xs, way, T1, F, wb, tw, tx, fs, nf, s', g', _, hpar, hfs, hwb, hFT, hs'0, hs'1, hg', hpx⟩ hK2 F2 N2 hU1 hU2
      have hFx := hU2 _ (.tail _ (.head _))
      clear hU1 hU2 hK2 F1 N1
      dsimp only
      simp only [List.cons_append, List.nil_append] at N2
      (repeat' (first | (k_unfold; (try dsimp only)) | ((fail_if_success (with_reducible show KswEnd _ _ _ _ _ _ _ _ _ _ _ _)); (fail_if_success (with_reducible show InvEndN _ _ _ _ _ _ _)); (fail_if_success (with_reducible show wpAny _ _ (exec (Stmt.While _ _ _ _) _) _ _ _)); (fail_if_success (with_reducible show wpAny _ _ (exec (Stmt.For _ _ _ _ _) _) _ _ _)); (fail_if_success (with_reducible show wpAny _ _ (exec (Stmt.Assign _ (PySem.Expr.ListComp _ _ _ _) _) _) _ _ _)); (fail_if_success (with_reducible show wpAny _ _ (eval (PySem.Expr.ListComp _ _ _ _) _) _ _ _)); (first | (k_here; (with_reducible show wpAny _ _ (call (Value.ref 232) [Value.bytes _ _, Value.int _ _] _) _ _ _); k_dflt (refine' PC.use (word_at_ok _ _ (by assumption) (by assumption) _ (by assumption) _ _ _ (by assumption)) ?zh35632k1 ?zh35632k2 ?zh35632k3 ?zh35632k4 ?zh35632k5 ?zh35632kK ?zh35632kd ?zh35632ku ?_); (( (case zh35632k1 => k_asm); (case zh35632k2 => k_asm); (case zh35632k3 => k_asm); (case zh35632k4 => k_asm); (case zh35632k5 => k_asm); (case zh35632kK => first | exact rfl | assumption); (case zh35632kd => (first | exact room_1 hd rfl | exact room_0 hd | ktr_room)); (case zh35632ku => (first | exact unit_3 hu rfl | ktr_units)))); intro vzz ownzz hzz tkzz hRzz hKzz Fzz Nzz hUzz; clear hKzz; (first | (obtain ⟨hVzz, hOzz⟩ := (hRzz : _ = Value.none ∧ _ = []); subst hOzz hVzz; clear hUzz; (try simp only [List.nil_append] at Nzz)) | (obtain ⟨xzz, t1zz, t2zz, hVzz, hOzz⟩ := hRzz; subst hVzz hOzz; (try (have n1zz := hUzz _ (.head _) _ (.head _); have m1zz := Ne.symm n1zz; dsimp only at n1zz m1zz)); (try (have n2zz := hUzz _ (.head _) _ (.tail _ (.head _)); have m2zz := Ne.symm n2zz; dsimp only at n2zz m2zz)); (try (have n3zz := hUzz _ (.head _) _ (.tail _ (.tail _ (.head _))); have m3zz := Ne.symm n3zz; dsimp only at n3zz m3zz)); clear hUzz; (try simp only [List.singleton_append] at Nzz))); (try dsimp only)) | walk1 | (dsimp only; walk1))) | (leave1; walk_say "STEP leave1"; try dsimp only)))
      exact JoinS.mk [_, _, _] (by assumption) (by assumption) (lm_three (.head _) (.tail _ (.tail _ (.tail _ (.head _)))) (.tail _ (.tail _ (.head _)))) (LbWord.mk nm c xs way wb _ _ F fs nf s' g' px hpar hfs hwb hpx hs'0 hs'1 hg' hFx)
    case rest =>
      rintro h2 tk2 m2 nx2 ⟨nm, c, xs, way, wb, tw, tx, F, fs, nf, s2, g2, px2, hpar, hfs, hwb, hpx2, hs20, hs21, hg2, hFx⟩ F2 N2
      clear F1 N1
      have hfl : fs.length = 6 := (IntsAre.length hfs)
      have hWl := wordN_len hpar
      dsimp only
      walk1
      refine joinSF F2 (LbSpot (spotsAll nm way (wordN nm way c xs)) D (fun sp tsp y => if y = Str.ofString "spot" then some (.int sp tsp) else if y = Str.ofString "frame" then some (.ref F) else if y = Str.ofString "words" then some (.str ⟨xs.toArray⟩ tx) else if y = Str.ofString "word" then some (.bytes wb tw) else if y = Str.ofString "pen" then some (.ref xp) else m₀ y) fun px => [(xp, px), (D, LCg.lst vs')]) ?first ?rest
      case first =>
        generalize wordN nm way c xs = W at hwb hWl
        obtain ⟨t2, u2, n2, rfl⟩ := hpx2
        (repeat' (first | (k_unfold; (try dsimp only)) | ((fail_if_success (with_reducible show KswEnd _ _ _ _ _ _ _ _ _ _ _ _)); (fail_if_success (with_reducible show InvEndN _ _ _ _ _ _ _)); (fail_if_success (with_reducible show wpAny _ _ (exec (Stmt.While _ _ _ _) _) _ _ _)); (fail_if_success (with_reducible show wpAny _ _ (exec (Stmt.For _ _ _ _ _) _) _ _ _)); (fail_if_success (with_reducible show wpAny _ _ (exec (Stmt.Assign _ (PySem.Expr.ListComp _ _ _ _) _) _) _ _ _)); (fail_if_success (with_reducible show wpAny _ _ (eval (PySem.Expr.ListComp _ _ _ _) _) _ _ _)); (first | (k_here; (with_reducible show wpAny _ _ (call (Value.ref 232) [Value.bytes _ _, Value.int _ _] _) _ _ _); k_dflt (refine' PC.use (word_at_ok _ _ (by assumption) (by assumption) _ (by assumption) _ _ _ (by assumption)) ?zh35632k1 ?zh35632k2 ?zh35632k3 ?zh35632k4 ?zh35632k5 ?zh35632kK ?zh35632kd ?zh35632ku ?_); (( (case zh35632k1 => k_asm); (case zh35632k2 => k_asm); (case zh35632k3 => k_asm); (case zh35632k4 => k_asm); (case zh35632k5 => k_asm); (case zh35632kK => first | exact rfl | assumption); (case zh35632kd => (first | exact room_1 hd rfl | exact room_0 hd | ktr_room)); (case zh35632ku => (first | exact unit_3 hu rfl | ktr_units)))); intro vzz ownzz hzz tkzz hRzz hKzz Fzz Nzz hUzz; clear hKzz; (first | (obtain ⟨hVzz, hOzz⟩ := (hRzz : _ = Value.none ∧ _ = []); subst hOzz hVzz; clear hUzz; (try simp only [List.nil_append] at Nzz)) | (obtain ⟨xzz, t1zz, t2zz, hVzz, hOzz⟩ := hRzz; subst hVzz hOzz; (try (have n1zz := hUzz _ (.head _) _ (.head _); have m1zz := Ne.symm n1zz; dsimp only at n1zz m1zz)); (try (have n2zz := hUzz _ (.head _) _ (.tail _ (.head _)); have m2zz := Ne.symm n2zz; dsimp only at n2zz m2zz)); (try (have n3zz := hUzz _ (.head _) _ (.tail _ (.tail _ (.head _))); have m3zz := Ne.symm n3zz; dsimp only at n3zz m3zz)); clear hUzz; (try simp only [List.singleton_append] at Nzz))); (try dsimp only)) | walk1 | (dsimp only; walk1))) | (leave1; walk_say "STEP leave1"; try dsimp only)))
        rename IntsAre _ _ => hits
        change IntsAre _ (spotsAll nm way W) at hits
        have hil : _ = 14 := (IntsAre.length hits).trans (spotsAll_len nm way W)
        rename _ < _ ∧ _ < _ ∧ _ < _ ∧ _ < _ ∧ _ < _ ∧ _ < _ ∧ _ < _ => hlt
        rename Fr _ _ _ _ => fE
        rename News _ _ _ _ => nE
        have hlY : Heap.IsList _ _ (List.toArray _) := ⟨_, (nE _ (.head _)).1, rfl, _, rfl⟩
        have hlD : Heap.IsList _ D vs'.toArray := ⟨_, (nE _ (.tail _ (.tail _ (.tail _ (.tail _ (.tail _ (.tail _ (.head _)))))))).1, rfl, _, rfl⟩
        have nP : News _ _ _ ((xp, _) :: [_]) := fun p hp => nE p (lm_two (.tail _ (.tail _ (.tail _ (.tail _ (.tail _ (.head _)))))) (.tail _ (.tail _ (.tail _ (.tail _ (.tail _ (.tail _ (.head _))))))) p hp)
        clear nE
        k_dflt (refine' PM.use (law_pick_ok xp D _ hDx (Nat.ne_of_gt hlt.2.2.2.2.1) vs' ns' hvs' hn40 _ ?i0 ?i1 s2 g2 hs20 ?h1 hg2 t2 u2 n2) ?k1 ?k2 ?k3 nP ?koff ?k5 ?kK ?kd ?ku ⟨hlD, hlY⟩ ?_)
        case i0 => omega
        case i1 => omega
        case h1 => omega
        case koff => exact fun p hp => by rw [List.mem_singleton.mp hp]; exact hDx
        (case k1 => k_asm); (case k2 => k_asm); (case k3 => k_asm); (case k5 => k_asm); (case kK => first | exact rfl | assumption); (case kd => (first | exact room_1 hd rfl | exact room_0 hd | ktr_room)); (case ku => (first | exact unit_3 hu rfl | ktr_units))
        rintro v own px h3 tk3 ⟨d, s', g', hdl, hdx, hs0, hs1, hg0, hpx⟩ hK2 F3 N3 hU1 hU2
        clear hU1 hU2 hK2 hlt nP hlY hlD fE
        obtain ⟨sp, tsp, hsp, rfl⟩ := ints_at hits hdx
        dsimp only
        simp only [List.nil_append] at N3
        (repeat' (first | (k_unfold; (try dsimp only)) | ((fail_if_success (with_reducible show KswEnd _ _ _ _ _ _ _ _ _ _ _ _)); (fail_if_success (with_reducible show InvEndN _ _ _ _ _ _ _)); (fail_if_success (with_reducible show wpAny _ _ (exec (Stmt.While _ _ _ _) _) _ _ _)); (fail_if_success (with_reducible show wpAny _ _ (exec (Stmt.For _ _ _ _ _) _) _ _ _)); (fail_if_success (with_reducible show wpAny _ _ (exec (Stmt.Assign _ (PySem.Expr.ListComp _ _ _ _) _) _) _ _ _)); (fail_if_success (with_reducible show wpAny _ _ (eval (PySem.Expr.ListComp _ _ _ _) _) _ _ _)); (first | (k_here; (with_reducible show wpAny _ _ (call (Value.ref 232) [Value.bytes _ _, Value.int _ _] _) _ _ _); k_dflt (refine' PC.use (word_at_ok _ _ (by assumption) (by assumption) _ (by assumption) _ _ _ (by assumption)) ?zh35632k1 ?zh35632k2 ?zh35632k3 ?zh35632k4 ?zh35632k5 ?zh35632kK ?zh35632kd ?zh35632ku ?_); (( (case zh35632k1 => k_asm); (case zh35632k2 => k_asm); (case zh35632k3 => k_asm); (case zh35632k4 => k_asm); (case zh35632k5 => k_asm); (case zh35632kK => first | exact rfl | assumption); (case zh35632kd => (first | exact room_1 hd rfl | exact room_0 hd | ktr_room)); (case zh35632ku => (first | exact unit_3 hu rfl | ktr_units)))); intro vzz ownzz hzz tkzz hRzz hKzz Fzz Nzz hUzz; clear hKzz; (first | (obtain ⟨hVzz, hOzz⟩ := (hRzz : _ = Value.none ∧ _ = []); subst hOzz hVzz; clear hUzz; (try simp only [List.nil_append] at Nzz)) | (obtain ⟨xzz, t1zz, t2zz, hVzz, hOzz⟩ := hRzz; subst hVzz hOzz; (try (have n1zz := hUzz _ (.head _) _ (.head _); have m1zz := Ne.symm n1zz; dsimp only at n1zz m1zz)); (try (have n2zz := hUzz _ (.head _) _ (.tail _ (.head _)); have m2zz := Ne.symm n2zz; dsimp only at n2zz m2zz)); (try (have n3zz := hUzz _ (.head _) _ (.tail _ (.tail _ (.head _))); have m3zz := Ne.symm n3zz; dsimp only at n3zz m3zz)); clear hUzz; (try simp only [List.singleton_append] at Nzz))); (try dsimp only)) | walk1 | (dsimp only; walk1))) | (leave1; walk_say "STEP leave1"; try dsimp only)))
        exact JoinS.mk [_, _] (by assumption) (by assumption) (fun p hp => hp) (LbSpot.mk sp _ s' g' px (List.mem_of_getElem? hsp) hpx (Int.le_trans hs20 hs0) (Int.le_trans hs1 (Int.add_le_add_right hs21 1)) hg0)
      case rest =>
        rintro h3 tk3 m3 nx3 ⟨sp, tsp, s3, g3, px3, hsp, hpx3, hs30, hs31, hg3⟩ F3 N3
        clear F2 N2 hpx2 hs20 hs21 hg2
        have hspr := spot_range hpar hsp
        dsimp only
        walk1
        refine joinSF F3 (LbB1 (bentN (wordN nm way c xs) sp) [(xp, px3), (D, LCg.lst vs')] fun bb tb y => if y = Str.ofString "bent" then some (.bytes bb tb) else if y = Str.ofString "spot" then some (.int sp tsp) else if y = Str.ofString "frame" then some (.ref F) else if y = Str.ofString "words" then some (.str ⟨xs.toArray⟩ tx) else if y = Str.ofString "word" then some (.bytes wb tw) else if y = Str.ofString "pen" then some (.ref xp) else m₀ y) ?first ?rest
        case first =>
          generalize wordN nm way c xs = W at hwb hWl hspr
          obtain ⟨hsp1, hsp2⟩ := hspr
          (repeat' (first | (k_unfold; (try dsimp only)) | ((fail_if_success (with_reducible show KswEnd _ _ _ _ _ _ _ _ _ _ _ _)); (fail_if_success (with_reducible show InvEndN _ _ _ _ _ _ _)); (fail_if_success (with_reducible show wpAny _ _ (exec (Stmt.While _ _ _ _) _) _ _ _)); (fail_if_success (with_reducible show wpAny _ _ (exec (Stmt.For _ _ _ _ _) _) _ _ _)); (fail_if_success (with_reducible show wpAny _ _ (exec (Stmt.Assign _ (PySem.Expr.ListComp _ _ _ _) _) _) _ _ _)); (fail_if_success (with_reducible show wpAny _ _ (eval (PySem.Expr.ListComp _ _ _ _) _) _ _ _)); (first | (k_here; (with_reducible show wpAny _ _ (call (Value.ref 232) [Value.bytes _ _, Value.int _ _] _) _ _ _); k_dflt (refine' PC.use (word_at_ok _ _ (by assumption) (by assumption) _ (by assumption) _ _ _ (by assumption)) ?zh35632k1 ?zh35632k2 ?zh35632k3 ?zh35632k4 ?zh35632k5 ?zh35632kK ?zh35632kd ?zh35632ku ?_); (( (case zh35632k1 => k_asm); (case zh35632k2 => k_asm); (case zh35632k3 => k_asm); (case zh35632k4 => k_asm); (case zh35632k5 => k_asm); (case zh35632kK => first | exact rfl | assumption); (case zh35632kd => (first | exact room_1 hd rfl | exact room_0 hd | ktr_room)); (case zh35632ku => (first | exact unit_3 hu rfl | ktr_units)))); intro vzz ownzz hzz tkzz hRzz hKzz Fzz Nzz hUzz; clear hKzz; (first | (obtain ⟨hVzz, hOzz⟩ := (hRzz : _ = Value.none ∧ _ = []); subst hOzz hVzz; clear hUzz; (try simp only [List.nil_append] at Nzz)) | (obtain ⟨xzz, t1zz, t2zz, hVzz, hOzz⟩ := hRzz; subst hVzz hOzz; (try (have n1zz := hUzz _ (.head _) _ (.head _); have m1zz := Ne.symm n1zz; dsimp only at n1zz m1zz)); (try (have n2zz := hUzz _ (.head _) _ (.tail _ (.head _)); have m2zz := Ne.symm n2zz; dsimp only at n2zz m2zz)); (try (have n3zz := hUzz _ (.head _) _ (.tail _ (.tail _ (.head _))); have m3zz := Ne.symm n3zz; dsimp only at n3zz m3zz)); clear hUzz; (try simp only [List.singleton_append] at Nzz))); (try dsimp only)) | walk1 | (dsimp only; walk1))) | (leave1; walk_say "STEP leave1"; try dsimp only)))
          · rename sp < 0 => hneg
            exact JoinS.mk [_, _] (by assumption) (by assumption) (fun p hp => hp) (LbB1.mk wb tw (hwb.trans (if_pos hneg).symm))
          · rename ¬ sp < 0 => hneg
            rename KBw.bInts (KBy.picked _ _ _ ++ _ ++ _) = _ => hcut
            exact JoinS.mk [_, _] (by assumption) (by assumption) (fun p hp => hp) (LbB1.mk _ _ (hcut.trans (bent_else hneg hsp2)))
        case rest =>
          rintro h4 tk4 m4 nx4 ⟨bb, tb, hbb⟩ F4 N4
          clear F3 N3
          have hBl := bentN_len (W := wordN nm way c xs) (sp := sp) hspr.2
          dsimp only
          walk1
          refine joinSF F4 (LbAhead aheadsB D (fun ab ta y => if y = Str.ofString "ahead" then some (.bytes ab ta) else if y = Str.ofString "bent" then some (.bytes bb tb) else if y = Str.ofString "spot" then some (.int sp tsp) else if y = Str.ofString "frame" then some (.ref F) else if y = Str.ofString "words" then some (.str ⟨xs.toArray⟩ tx) else if y = Str.ofString "word" then some (.bytes wb tw) else if y = Str.ofString "pen" then some (.ref xp) else m₀ y) fun px => [(xp, px), (D, LCg.lst vs')]) ?first ?rest
          case first =>
            obtain ⟨t3, u3, n3, rfl⟩ := hpx3
            (repeat' (first | (k_unfold; (try dsimp only)) | ((fail_if_success (with_reducible show KswEnd _ _ _ _ _ _ _ _ _ _ _ _)); (fail_if_success (with_reducible show InvEndN _ _ _ _ _ _ _)); (fail_if_success (with_reducible show wpAny _ _ (exec (Stmt.While _ _ _ _) _) _ _ _)); (fail_if_success (with_reducible show wpAny _ _ (exec (Stmt.For _ _ _ _ _) _) _ _ _)); (fail_if_success (with_reducible show wpAny _ _ (exec (Stmt.Assign _ (PySem.Expr.ListComp _ _ _ _) _) _) _ _ _)); (fail_if_success (with_reducible show wpAny _ _ (eval (PySem.Expr.ListComp _ _ _ _) _) _ _ _)); (first | (k_here; (with_reducible show wpAny _ _ (call (Value.ref 232) [Value.bytes _ _, Value.int _ _] _) _ _ _); k_dflt (refine' PC.use (word_at_ok _ _ (by assumption) (by assumption) _ (by assumption) _ _ _ (by assumption)) ?zh35632k1 ?zh35632k2 ?zh35632k3 ?zh35632k4 ?zh35632k5 ?zh35632kK ?zh35632kd ?zh35632ku ?_); (( (case zh35632k1 => k_asm); (case zh35632k2 => k_asm); (case zh35632k3 => k_asm); (case zh35632k4 => k_asm); (case zh35632k5 => k_asm); (case zh35632kK => first | exact rfl | assumption); (case zh35632kd => (first | exact room_1 hd rfl | exact room_0 hd | ktr_room)); (case zh35632ku => (first | exact unit_3 hu rfl | ktr_units)))); intro vzz ownzz hzz tkzz hRzz hKzz Fzz Nzz hUzz; clear hKzz; (first | (obtain ⟨hVzz, hOzz⟩ := (hRzz : _ = Value.none ∧ _ = []); subst hOzz hVzz; clear hUzz; (try simp only [List.nil_append] at Nzz)) | (obtain ⟨xzz, t1zz, t2zz, hVzz, hOzz⟩ := hRzz; subst hVzz hOzz; (try (have n1zz := hUzz _ (.head _) _ (.head _); have m1zz := Ne.symm n1zz; dsimp only at n1zz m1zz)); (try (have n2zz := hUzz _ (.head _) _ (.tail _ (.head _)); have m2zz := Ne.symm n2zz; dsimp only at n2zz m2zz)); (try (have n3zz := hUzz _ (.head _) _ (.tail _ (.tail _ (.head _))); have m3zz := Ne.symm n3zz; dsimp only at n3zz m3zz)); clear hUzz; (try simp only [List.singleton_append] at Nzz))); (try dsimp only)) | walk1 | (dsimp only; walk1))) | (leave1; walk_say "STEP leave1"; try dsimp only)))
            rename _ < _ ∧ _ < _ => hlt
            rename Fr _ _ _ _ => fE
            rename News _ _ _ _ => nE
            have hlY : Heap.IsList _ _ (List.toArray [.bytes _ _, .bytes _ _, .bytes _ _, .bytes _ _, .bytes _ _, .bytes _ _, .bytes _ _, .bytes _ _, .bytes _ _, .bytes _ _]) := ⟨_, (nE _ (.head _)).1, rfl, _, rfl⟩
            have hlD : Heap.IsList _ D vs'.toArray := ⟨_, (nE _ (.tail _ (.tail _ (.head _)))).1, rfl, _, rfl⟩
            have nP : News _ _ _ ((xp, _) :: [_]) := fun p hp => nE p (.tail _ hp)
            clear nE
            k_dflt (refine' PM.use (law_pick_ok xp D _ hDx (Nat.ne_of_gt hlt.1) vs' ns' hvs' hn40 _ ?i0 ?i1 s3 g3 hs30 ?h1 hg3 t3 u3 n3) ?k1 ?k2 ?k3 nP ?koff ?k5 ?kK ?kd ?ku ⟨hlD, hlY⟩ ?_)
            case i0 => exact Nat.le_of_ble_eq_true rfl
            case i1 => exact Nat.le_of_ble_eq_true rfl
            case h1 => omega
            case koff => exact fun p hp => by rw [List.mem_singleton.mp hp]; exact hDx
            (case k1 => k_asm); (case k2 => k_asm); (case k3 => k_asm); (case k5 => k_asm); (case kK => first | exact rfl | assumption); (case kd => (first | exact room_1 hd rfl | exact room_0 hd | ktr_room)); (case ku => (first | exact unit_3 hu rfl | ktr_units))
            rintro v own px h5 tk5 ⟨d, s', g', hdl, hdx, hs0, hs1, hg0, hpx⟩ hK2 F5 N5 hU1 hU2
            clear hU1 hU2 hK2 hlt nP hlY hlD fE
            have hv : ∃ (b : Array UInt8) (t : Tok), v = .bytes b t ∧ KBw.bInts b ∈ aheadsB := by
              have hd10 : d = 0 ∨ d = 1 ∨ d = 2 ∨ d = 3 ∨ d = 4 ∨ d = 5 ∨ d = 6 ∨ d = 7 ∨ d = 8 ∨ d = 9 := lt10 d hdl
              rcases hd10 with rfl | rfl | rfl | rfl | rfl | rfl | rfl | rfl | rfl | rfl <;> cases hdx
              · exact ⟨#[], _, rfl, by decide⟩
              · exact ⟨#[32], _, rfl, by decide⟩
              · exact ⟨#[120, 32], _, rfl, by decide⟩
              · exact ⟨#[40], _, rfl, by decide⟩
              · exact ⟨#[120], _, rfl, by decide⟩
              · exact ⟨#[9], _, rfl, by decide⟩
              · exact ⟨#[41], _, rfl, by decide⟩
              · exact ⟨#[233, 10], _, rfl, by decide⟩
              · exact ⟨#[61], _, rfl, by decide⟩
              · exact ⟨#[63], _, rfl, by decide⟩
            obtain ⟨b5, t5, rfl, hb5⟩ := hv
            dsimp only
            simp only [List.nil_append] at N5
            (repeat' (first | (k_unfold; (try dsimp only)) | ((fail_if_success (with_reducible show KswEnd _ _ _ _ _ _ _ _ _ _ _ _)); (fail_if_success (with_reducible show InvEndN _ _ _ _ _ _ _)); (fail_if_success (with_reducible show wpAny _ _ (exec (Stmt.While _ _ _ _) _) _ _ _)); (fail_if_success (with_reducible show wpAny _ _ (exec (Stmt.For _ _ _ _ _) _) _ _ _)); (fail_if_success (with_reducible show wpAny _ _ (exec (Stmt.Assign _ (PySem.Expr.ListComp _ _ _ _) _) _) _ _ _)); (fail_if_success (with_reducible show wpAny _ _ (eval (PySem.Expr.ListComp _ _ _ _) _) _ _ _)); (first | (k_here; (with_reducible show wpAny _ _ (call (Value.ref 232) [Value.bytes _ _, Value.int _ _] _) _ _ _); k_dflt (refine' PC.use (word_at_ok _ _ (by assumption) (by assumption) _ (by assumption) _ _ _ (by assumption)) ?zh35632k1 ?zh35632k2 ?zh35632k3 ?zh35632k4 ?zh35632k5 ?zh35632kK ?zh35632kd ?zh35632ku ?_); (( (case zh35632k1 => k_asm); (case zh35632k2 => k_asm); (case zh35632k3 => k_asm); (case zh35632k4 => k_asm); (case zh35632k5 => k_asm); (case zh35632kK => first | exact rfl | assumption); (case zh35632kd => (first | exact room_1 hd rfl | exact room_0 hd | ktr_room)); (case zh35632ku => (first | exact unit_3 hu rfl | ktr_units)))); intro vzz ownzz hzz tkzz hRzz hKzz Fzz Nzz hUzz; clear hKzz; (first | (obtain ⟨hVzz, hOzz⟩ := (hRzz : _ = Value.none ∧ _ = []); subst hOzz hVzz; clear hUzz; (try simp only [List.nil_append] at Nzz)) | (obtain ⟨xzz, t1zz, t2zz, hVzz, hOzz⟩ := hRzz; subst hVzz hOzz; (try (have n1zz := hUzz _ (.head _) _ (.head _); have m1zz := Ne.symm n1zz; dsimp only at n1zz m1zz)); (try (have n2zz := hUzz _ (.head _) _ (.tail _ (.head _)); have m2zz := Ne.symm n2zz; dsimp only at n2zz m2zz)); (try (have n3zz := hUzz _ (.head _) _ (.tail _ (.tail _ (.head _))); have m3zz := Ne.symm n3zz; dsimp only at n3zz m3zz)); clear hUzz; (try simp only [List.singleton_append] at Nzz))); (try dsimp only)) | walk1 | (dsimp only; walk1))) | (leave1; walk_say "STEP leave1"; try dsimp only)))
            exact JoinS.mk [_, _] (by assumption) (by assumption) (fun p hp => hp) (LbAhead.mk b5 _ s' g' px hb5 hpx (Int.le_trans hs30 hs0) (Int.le_trans hs1 (Int.add_le_add_right hs31 1)) hg0)
          case rest =>
            rintro h5 tk5 m5 nx5 ⟨ab, ta, s5, g5, px5, hab, hpx5, hs50, hs51, hg5⟩ F5 N5
            clear F4 N4 hpx3 hs30 hs31 hg3
            dsimp only
            walk1
            refine joinSF F5 (LbB2 behindsB fun cb tc y => if y = Str.ofString "behind" then some (.bytes cb tc) else if y = Str.ofString "ahead" then some (.bytes ab ta) else if y = Str.ofString "bent" then some (.bytes bb tb) else if y = Str.ofString "spot" then some (.int sp tsp) else if y = Str.ofString "frame" then some (.ref F) else if y = Str.ofString "words" then some (.str ⟨xs.toArray⟩ tx) else if y = Str.ofString "word" then some (.bytes wb tw) else if y = Str.ofString "pen" then some (.ref xp) else m₀ y) ?first ?rest
            case first =>
              obtain ⟨t5, u5, n5, rfl⟩ := hpx5
              (repeat' (first | (k_unfold; (try dsimp only)) | ((fail_if_success (with_reducible show KswEnd _ _ _ _ _ _ _ _ _ _ _ _)); (fail_if_success (with_reducible show InvEndN _ _ _ _ _ _ _)); (fail_if_success (with_reducible show wpAny _ _ (exec (Stmt.While _ _ _ _) _) _ _ _)); (fail_if_success (with_reducible show wpAny _ _ (exec (Stmt.For _ _ _ _ _) _) _ _ _)); (fail_if_success (with_reducible show wpAny _ _ (exec (Stmt.Assign _ (PySem.Expr.ListComp _ _ _ _) _) _) _ _ _)); (fail_if_success (with_reducible show wpAny _ _ (eval (PySem.Expr.ListComp _ _ _ _) _) _ _ _)); (first | (k_here; (with_reducible show wpAny _ _ (call (Value.ref 232) [Value.bytes _ _, Value.int _ _] _) _ _ _); k_dflt (refine' PC.use (word_at_ok _ _ (by assumption) (by assumption) _ (by assumption) _ _ _ (by assumption)) ?zh35632k1 ?zh35632k2 ?zh35632k3 ?zh35632k4 ?zh35632k5 ?zh35632kK ?zh35632kd ?zh35632ku ?_); (( (case zh35632k1 => k_asm); (case zh35632k2 => k_asm); (case zh35632k3 => k_asm); (case zh35632k4 => k_asm); (case zh35632k5 => k_asm); (case zh35632kK => first | exact rfl | assumption); (case zh35632kd => (first | exact room_1 hd rfl | exact room_0 hd | ktr_room)); (case zh35632ku => (first | exact unit_3 hu rfl | ktr_units)))); intro vzz ownzz hzz tkzz hRzz hKzz Fzz Nzz hUzz; clear hKzz; (first | (obtain ⟨hVzz, hOzz⟩ := (hRzz : _ = Value.none ∧ _ = []); subst hOzz hVzz; clear hUzz; (try simp only [List.nil_append] at Nzz)) | (obtain ⟨xzz, t1zz, t2zz, hVzz, hOzz⟩ := hRzz; subst hVzz hOzz; (try (have n1zz := hUzz _ (.head _) _ (.head _); have m1zz := Ne.symm n1zz; dsimp only at n1zz m1zz)); (try (have n2zz := hUzz _ (.head _) _ (.tail _ (.head _)); have m2zz := Ne.symm n2zz; dsimp only at n2zz m2zz)); (try (have n3zz := hUzz _ (.head _) _ (.tail _ (.tail _ (.head _))); have m3zz := Ne.symm n3zz; dsimp only at n3zz m3zz)); clear hUzz; (try simp only [List.singleton_append] at Nzz))); (try dsimp only)) | walk1 | (dsimp only; walk1))) | (leave1; walk_say "STEP leave1"; try dsimp only)))
              rename _ < _ ∧ _ < _ => hlt
              rename Fr _ _ _ _ => fE
              rename News _ _ _ _ => nE
              have hlY : Heap.IsList _ _ (List.toArray [.bytes _ _, .bytes _ _, .bytes _ _, .bytes _ _, .bytes _ _, .bytes _ _, .bytes _ _, .bytes _ _, .bytes _ _, .bytes _ _]) := ⟨_, (nE _ (.head _)).1, rfl, _, rfl⟩
              have hlD : Heap.IsList _ D vs'.toArray := ⟨_, (nE _ (.tail _ (.tail _ (.head _)))).1, rfl, _, rfl⟩
              have nP : News _ _ _ ((xp, _) :: [_]) := fun p hp => nE p (.tail _ hp)
              clear nE
              k_dflt (refine' PM.use (law_pick_ok xp D _ hDx (Nat.ne_of_gt hlt.1) vs' ns' hvs' hn40 _ ?i0 ?i1 s5 g5 hs50 ?h1 hg5 t5 u5 n5) ?k1 ?k2 ?k3 nP ?koff ?k5 ?kK ?kd ?ku ⟨hlD, hlY⟩ ?_)
              case i0 => exact Nat.le_of_ble_eq_true rfl
              case i1 => exact Nat.le_of_ble_eq_true rfl
              case h1 => omega
              case koff => exact fun p hp => by rw [List.mem_singleton.mp hp]; exact hDx
              (case k1 => k_asm); (case k2 => k_asm); (case k3 => k_asm); (case k5 => k_asm); (case kK => first | exact rfl | assumption); (case kd => (first | exact room_1 hd rfl | exact room_0 hd | ktr_room)); (case ku => (first | exact unit_3 hu rfl | ktr_units))
              rintro v own px h6 tk6 ⟨d, s', g', hdl, hdx, hs0, hs1, hg0, hpx⟩ hK2 F6 N6 hU1 hU2
              clear hU1 hU2 hK2 hlt nP hlY hlD fE
              have hv : ∃ (b : Array UInt8) (t : Tok), v = .bytes b t ∧ KBw.bInts b ∈ behindsB := by
                have hd10 : d = 0 ∨ d = 1 ∨ d = 2 ∨ d = 3 ∨ d = 4 ∨ d = 5 ∨ d = 6 ∨ d = 7 ∨ d = 8 ∨ d = 9 := lt10 d hdl
                rcases hd10 with rfl | rfl | rfl | rfl | rfl | rfl | rfl | rfl | rfl | rfl <;> cases hdx
                · exact ⟨#[], _, rfl, by decide⟩
                · exact ⟨#[32], _, rfl, by decide⟩
                · exact ⟨#[41], _, rfl, by decide⟩
                · exact ⟨#[120], _, rfl, by decide⟩
                · exact ⟨#[13, 10], _, rfl, by decide⟩
                · exact ⟨#[40], _, rfl, by decide⟩
                · exact ⟨#[9, 120], _, rfl, by decide⟩
                · exact ⟨#[61], _, rfl, by decide⟩
                · exact ⟨#[41, 120], _, rfl, by decide⟩
                · exact ⟨#[233], _, rfl, by decide⟩
              obtain ⟨b6, t6, rfl, hb6⟩ := hv
              dsimp only
              simp only [List.nil_append] at N6
              (repeat' (first | (k_unfold; (try dsimp only)) | ((fail_if_success (with_reducible show KswEnd _ _ _ _ _ _ _ _ _ _ _ _)); (fail_if_success (with_reducible show InvEndN _ _ _ _ _ _ _)); (fail_if_success (with_reducible show wpAny _ _ (exec (Stmt.While _ _ _ _) _) _ _ _)); (fail_if_success (with_reducible show wpAny _ _ (exec (Stmt.For _ _ _ _ _) _) _ _ _)); (fail_if_success (with_reducible show wpAny _ _ (exec (Stmt.Assign _ (PySem.Expr.ListComp _ _ _ _) _) _) _ _ _)); (fail_if_success (with_reducible show wpAny _ _ (eval (PySem.Expr.ListComp _ _ _ _) _) _ _ _)); (first | (k_here; (with_reducible show wpAny _ _ (call (Value.ref 232) [Value.bytes _ _, Value.int _ _] _) _ _ _); k_dflt (refine' PC.use (word_at_ok _ _ (by assumption) (by assumption) _ (by assumption) _ _ _ (by assumption)) ?zh35632k1 ?zh35632k2 ?zh35632k3 ?zh35632k4 ?zh35632k5 ?zh35632kK ?zh35632kd ?zh35632ku ?_); (( (case zh35632k1 => k_asm); (case zh35632k2 => k_asm); (case zh35632k3 => k_asm); (case zh35632k4 => k_asm); (case zh35632k5 => k_asm); (case zh35632kK => first | exact rfl | assumption); (case zh35632kd => (first | exact room_1 hd rfl | exact room_0 hd | ktr_room)); (case zh35632ku => (first | exact unit_3 hu rfl | ktr_units)))); intro vzz ownzz hzz tkzz hRzz hKzz Fzz Nzz hUzz; clear hKzz; (first | (obtain ⟨hVzz, hOzz⟩ := (hRzz : _ = Value.none ∧ _ = []); subst hOzz hVzz; clear hUzz; (try simp only [List.nil_append] at Nzz)) | (obtain ⟨xzz, t1zz, t2zz, hVzz, hOzz⟩ := hRzz; subst hVzz hOzz; (try (have n1zz := hUzz _ (.head _) _ (.head _); have m1zz := Ne.symm n1zz; dsimp only at n1zz m1zz)); (try (have n2zz := hUzz _ (.head _) _ (.tail _ (.head _)); have m2zz := Ne.symm n2zz; dsimp only at n2zz m2zz)); (try (have n3zz := hUzz _ (.head _) _ (.tail _ (.tail _ (.head _))); have m3zz := Ne.symm n3zz; dsimp only at n3zz m3zz)); clear hUzz; (try simp only [List.singleton_append] at Nzz))); (try dsimp only)) | walk1 | (dsimp only; walk1))) | (leave1; walk_say "STEP leave1"; try dsimp only)))
              exact JoinS.mk [] (by assumption) (by assumption) (fun _ h => nomatch h) (LbB2.mk b6 _ hb6)
            case rest =>
              rintro h6 tk6 m6 nx6 ⟨cb, tc, hcb⟩ F6 N6
              clear F5 N5 hpx5 hs50 hs51 hg5
              obtain ⟨hal, hai⟩ := aheads_fit hab
              obtain ⟨hcl, hci⟩ := behinds_fit hcb
              generalize hA : KBw.bInts ab = A0 at hab hal hai
              generalize hC : KBw.bInts cb = C0 at hcb hcl hci
              have hWpos := wordN_ge nm way c xs
              generalize hWe : wordN nm way c xs = W0 at hwb hWl hspr hbb hBl hWpos
              generalize hBe : bentN W0 sp = B0 at hbb hBl
              dsimp only
              walk1
              refine joinSF F6 (LbB1 (A0 ++ B0 ++ C0) [] fun db td y => if y = Str.ofString "data" then some (.bytes db td) else if y = Str.ofString "behind" then some (.bytes cb tc) else if y = Str.ofString "ahead" then some (.bytes ab ta) else if y = Str.ofString "bent" then some (.bytes bb tb) else if y = Str.ofString "spot" then some (.int sp tsp) else if y = Str.ofString "frame" then some (.ref F) else if y = Str.ofString "words" then some (.str ⟨xs.toArray⟩ tx) else if y = Str.ofString "word" then some (.bytes wb tw) else if y = Str.ofString "pen" then some (.ref xp) else m₀ y) ?first ?rest
              case first =>
                (repeat' (first | (k_unfold; (try dsimp only)) | ((fail_if_success (with_reducible show KswEnd _ _ _ _ _ _ _ _ _ _ _ _)); (fail_if_success (with_reducible show InvEndN _ _ _ _ _ _ _)); (fail_if_success (with_reducible show wpAny _ _ (exec (Stmt.While _ _ _ _) _) _ _ _)); (fail_if_success (with_reducible show wpAny _ _ (exec (Stmt.For _ _ _ _ _) _) _ _ _)); (fail_if_success (with_reducible show wpAny _ _ (exec (Stmt.Assign _ (PySem.Expr.ListComp _ _ _ _) _) _) _ _ _)); (fail_if_success (with_reducible show wpAny _ _ (eval (PySem.Expr.ListComp _ _ _ _) _) _ _ _)); (first | (k_here; (with_reducible show wpAny _ _ (call (Value.ref 232) [Value.bytes _ _, Value.int _ _] _) _ _ _); k_dflt (refine' PC.use (word_at_ok _ _ (by assumption) (by assumption) _ (by assumption) _ _ _ (by assumption)) ?zh35632k1 ?zh35632k2 ?zh35632k3 ?zh35632k4 ?zh35632k5 ?zh35632kK ?zh35632kd ?zh35632ku ?_); (( (case zh35632k1 => k_asm); (case zh35632k2 => k_asm); (case zh35632k3 => k_asm); (case zh35632k4 => k_asm); (case zh35632k5 => k_asm); (case zh35632kK => first | exact rfl | assumption); (case zh35632kd => (first | exact room_1 hd rfl | exact room_0 hd | ktr_room)); (case zh35632ku => (first | exact unit_3 hu rfl | ktr_units)))); intro vzz ownzz hzz tkzz hRzz hKzz Fzz Nzz hUzz; clear hKzz; (first | (obtain ⟨hVzz, hOzz⟩ := (hRzz : _ = Value.none ∧ _ = []); subst hOzz hVzz; clear hUzz; (try simp only [List.nil_append] at Nzz)) | (obtain ⟨xzz, t1zz, t2zz, hVzz, hOzz⟩ := hRzz; subst hVzz hOzz; (try (have n1zz := hUzz _ (.head _) _ (.head _); have m1zz := Ne.symm n1zz; dsimp only at n1zz m1zz)); (try (have n2zz := hUzz _ (.head _) _ (.tail _ (.head _)); have m2zz := Ne.symm n2zz; dsimp only at n2zz m2zz)); (try (have n3zz := hUzz _ (.head _) _ (.tail _ (.tail _ (.head _))); have m3zz := Ne.symm n3zz; dsimp only at n3zz m3zz)); clear hUzz; (try simp only [List.singleton_append] at Nzz))); (try dsimp only)) | walk1 | (dsimp only; walk1))) | (leave1; walk_say "STEP leave1"; try dsimp only)))
                rename KBw.bInts (_ ++ _ ++ _) = _ => hdt
                exact JoinS.mk [] (by assumption) (by assumption) (fun _ h => nomatch h) (LbB1.mk _ _ hdt)
              case rest =>
                rintro h7 tk7 m7 nx7 ⟨db, td, hdb⟩ F7 N7
                clear F6 N6
                dsimp only
                walk1
                refine joinSF F7 (fun m' nx => nx = [] ∧ m' = fun y => if y = Str.ofString "is_apart_here" then some (.bool (apartB A0 C0)) else if y = Str.ofString "data" then some (.bytes db td) else if y = Str.ofString "behind" then some (.bytes cb tc) else if y = Str.ofString "ahead" then some (.bytes ab ta) else if y = Str.ofString "bent" then some (.bytes bb tb) else if y = Str.ofString "spot" then some (.int sp tsp) else if y = Str.ofString "frame" then some (.ref F) else if y = Str.ofString "words" then some (.str ⟨xs.toArray⟩ tx) else if y = Str.ofString "word" then some (.bytes wb tw) else if y = Str.ofString "pen" then some (.ref xp) else m₀ y) ?first ?rest
                case first =>
                  (repeat' (first | (k_unfold; (try dsimp only)) | ((fail_if_success (with_reducible show KswEnd _ _ _ _ _ _ _ _ _ _ _ _)); (fail_if_success (with_reducible show InvEndN _ _ _ _ _ _ _)); (fail_if_success (with_reducible show wpAny _ _ (exec (Stmt.While _ _ _ _) _) _ _ _)); (fail_if_success (with_reducible show wpAny _ _ (exec (Stmt.For _ _ _ _ _) _) _ _ _)); (fail_if_success (with_reducible show wpAny _ _ (exec (Stmt.Assign _ (PySem.Expr.ListComp _ _ _ _) _) _) _ _ _)); (fail_if_success (with_reducible show wpAny _ _ (eval (PySem.Expr.ListComp _ _ _ _) _) _ _ _)); (first | (k_here; (with_reducible show wpAny _ _ (call (Value.ref 232) [Value.bytes _ _, Value.int _ _] _) _ _ _); k_dflt (refine' PC.use (word_at_ok _ _ (by assumption) (by assumption) _ (by assumption) _ _ _ (by assumption)) ?zh35632k1 ?zh35632k2 ?zh35632k3 ?zh35632k4 ?zh35632k5 ?zh35632kK ?zh35632kd ?zh35632ku ?_); (( (case zh35632k1 => k_asm); (case zh35632k2 => k_asm); (case zh35632k3 => k_asm); (case zh35632k4 => k_asm); (case zh35632k5 => k_asm); (case zh35632kK => first | exact rfl | assumption); (case zh35632kd => (first | exact room_1 hd rfl | exact room_0 hd | ktr_room)); (case zh35632ku => (first | exact unit_3 hu rfl | ktr_units)))); intro vzz ownzz hzz tkzz hRzz hKzz Fzz Nzz hUzz; clear hKzz; (first | (obtain ⟨hVzz, hOzz⟩ := (hRzz : _ = Value.none ∧ _ = []); subst hOzz hVzz; clear hUzz; (try simp only [List.nil_append] at Nzz)) | (obtain ⟨xzz, t1zz, t2zz, hVzz, hOzz⟩ := hRzz; subst hVzz hOzz; (try (have n1zz := hUzz _ (.head _) _ (.head _); have m1zz := Ne.symm n1zz; dsimp only at n1zz m1zz)); (try (have n2zz := hUzz _ (.head _) _ (.tail _ (.head _)); have m2zz := Ne.symm n2zz; dsimp only at n2zz m2zz)); (try (have n3zz := hUzz _ (.head _) _ (.tail _ (.tail _ (.head _))); have m3zz := Ne.symm n3zz; dsimp only at n3zz m3zz)); clear hUzz; (try simp only [List.singleton_append] at Nzz))); (try dsimp only)) | walk1 | (dsimp only; walk1))) | (leave1; walk_say "STEP leave1"; try dsimp only)))
                  rename KBw.bInts (KBy.picked _ _ _) = _ => hka
                  rename News _ _ _ _ => nE
                  cases hapA : apA A0
                  · refine in_tuple_bytes [(_, _), (_, _), (_, _), (_, _), (_, _)] ⟨_, (nE _ (.head _)).1, rfl, _, rfl⟩ hka (r := false) hapA ?_
                    (repeat' (first | (k_unfold; (try dsimp only)) | ((fail_if_success (with_reducible show KswEnd _ _ _ _ _ _ _ _ _ _ _ _)); (fail_if_success (with_reducible show InvEndN _ _ _ _ _ _ _)); (fail_if_success (with_reducible show wpAny _ _ (exec (Stmt.While _ _ _ _) _) _ _ _)); (fail_if_success (with_reducible show wpAny _ _ (exec (Stmt.For _ _ _ _ _) _) _ _ _)); (fail_if_success (with_reducible show wpAny _ _ (exec (Stmt.Assign _ (PySem.Expr.ListComp _ _ _ _) _) _) _ _ _)); (fail_if_success (with_reducible show wpAny _ _ (eval (PySem.Expr.ListComp _ _ _ _) _) _ _ _)); (first | (k_here; (with_reducible show wpAny _ _ (call (Value.ref 232) [Value.bytes _ _, Value.int _ _] _) _ _ _); k_dflt (refine' PC.use (word_at_ok _ _ (by assumption) (by assumption) _ (by assumption) _ _ _ (by assumption)) ?zh35632k1 ?zh35632k2 ?zh35632k3 ?zh35632k4 ?zh35632k5 ?zh35632kK ?zh35632kd ?zh35632ku ?_); (( (case zh35632k1 => k_asm); (case zh35632k2 => k_asm); (case zh35632k3 => k_asm); (case zh35632k4 => k_asm); (case zh35632k5 => k_asm); (case zh35632kK => first | exact rfl | assumption); (case zh35632kd => (first | exact room_1 hd rfl | exact room_0 hd | ktr_room)); (case zh35632ku => (first | exact unit_3 hu rfl | ktr_units)))); intro vzz ownzz hzz tkzz hRzz hKzz Fzz Nzz hUzz; clear hKzz; (first | (obtain ⟨hVzz, hOzz⟩ := (hRzz : _ = Value.none ∧ _ = []); subst hOzz hVzz; clear hUzz; (try simp only [List.nil_append] at Nzz)) | (obtain ⟨xzz, t1zz, t2zz, hVzz, hOzz⟩ := hRzz; subst hVzz hOzz; (try (have n1zz := hUzz _ (.head _) _ (.head _); have m1zz := Ne.symm n1zz; dsimp only at n1zz m1zz)); (try (have n2zz := hUzz _ (.head _) _ (.tail _ (.head _)); have m2zz := Ne.symm n2zz; dsimp only at n2zz m2zz)); (try (have n3zz := hUzz _ (.head _) _ (.tail _ (.tail _ (.head _))); have m3zz := Ne.symm n3zz; dsimp only at n3zz m3zz)); clear hUzz; (try simp only [List.singleton_append] at Nzz))); (try dsimp only)) | walk1 | (dsimp only; walk1))) | (leave1; walk_say "STEP leave1"; try dsimp only)))
                    exact JoinS.mk [] (by assumption) (by assumption) (fun _ h => nomatch h) ⟨rfl, by rw [show apartB A0 C0 = false by unfold apartB; rw [hapA]; rfl]⟩
                  · refine in_tuple_bytes [(_, _), (_, _), (_, _), (_, _), (_, _)] ⟨_, (nE _ (.head _)).1, rfl, _, rfl⟩ hka (r := true) hapA ?_
                    clear hka
                    (repeat' (first | (k_unfold; (try dsimp only)) | ((fail_if_success (with_reducible show KswEnd _ _ _ _ _ _ _ _ _ _ _ _)); (fail_if_success (with_reducible show InvEndN _ _ _ _ _ _ _)); (fail_if_success (with_reducible show wpAny _ _ (exec (Stmt.While _ _ _ _) _) _ _ _)); (fail_if_success (with_reducible show wpAny _ _ (exec (Stmt.For _ _ _ _ _) _) _ _ _)); (fail_if_success (with_reducible show wpAny _ _ (exec (Stmt.Assign _ (PySem.Expr.ListComp _ _ _ _) _) _) _ _ _)); (fail_if_success (with_reducible show wpAny _ _ (eval (PySem.Expr.ListComp _ _ _ _) _) _ _ _)); (first | (k_here; (with_reducible show wpAny _ _ (call (Value.ref 232) [Value.bytes _ _, Value.int _ _] _) _ _ _); k_dflt (refine' PC.use (word_at_ok _ _ (by assumption) (by assumption) _ (by assumption) _ _ _ (by assumption)) ?zh35632k1 ?zh35632k2 ?zh35632k3 ?zh35632k4 ?zh35632k5 ?zh35632kK ?zh35632kd ?zh35632ku ?_); (( (case zh35632k1 => k_asm); (case zh35632k2 => k_asm); (case zh35632k3 => k_asm); (case zh35632k4 => k_asm); (case zh35632k5 => k_asm); (case zh35632kK => first | exact rfl | assumption); (case zh35632kd => (first | exact room_1 hd rfl | exact room_0 hd | ktr_room)); (case zh35632ku => (first | exact unit_3 hu rfl | ktr_units)))); intro vzz ownzz hzz tkzz hRzz hKzz Fzz Nzz hUzz; clear hKzz; (first | (obtain ⟨hVzz, hOzz⟩ := (hRzz : _ = Value.none ∧ _ = []); subst hOzz hVzz; clear hUzz; (try simp only [List.nil_append] at Nzz)) | (obtain ⟨xzz, t1zz, t2zz, hVzz, hOzz⟩ := hRzz; subst hVzz hOzz; (try (have n1zz := hUzz _ (.head _) _ (.head _); have m1zz := Ne.symm n1zz; dsimp only at n1zz m1zz)); (try (have n2zz := hUzz _ (.head _) _ (.tail _ (.head _)); have m2zz := Ne.symm n2zz; dsimp only at n2zz m2zz)); (try (have n3zz := hUzz _ (.head _) _ (.tail _ (.tail _ (.head _))); have m3zz := Ne.symm n3zz; dsimp only at n3zz m3zz)); clear hUzz; (try simp only [List.singleton_append] at Nzz))); (try dsimp only)) | walk1 | (dsimp only; walk1))) | (leave1; walk_say "STEP leave1"; try dsimp only)))
                    rename KBw.bInts (KBy.picked _ _ _) = _ => hkc
                    rename News _ _ _ _ => nE
                    refine in_tuple_bytes [(_, _), (_, _), (_, _), (_, _), (_, _)] ⟨_, (nE _ (.head _)).1, rfl, _, rfl⟩ hkc (r := apC C0) rfl ?_
                    (repeat' (first | (k_unfold; (try dsimp only)) | ((fail_if_success (with_reducible show KswEnd _ _ _ _ _ _ _ _ _ _ _ _)); (fail_if_success (with_reducible show InvEndN _ _ _ _ _ _ _)); (fail_if_success (with_reducible show wpAny _ _ (exec (Stmt.While _ _ _ _) _) _ _ _)); (fail_if_success (with_reducible show wpAny _ _ (exec (Stmt.For _ _ _ _ _) _) _ _ _)); (fail_if_success (with_reducible show wpAny _ _ (exec (Stmt.Assign _ (PySem.Expr.ListComp _ _ _ _) _) _) _ _ _)); (fail_if_success (with_reducible show wpAny _ _ (eval (PySem.Expr.ListComp _ _ _ _) _) _ _ _)); (first | (k_here; (with_reducible show wpAny _ _ (call (Value.ref 232) [Value.bytes _ _, Value.int _ _] _) _ _ _); k_dflt (refine' PC.use (word_at_ok _ _ (by assumption) (by assumption) _ (by assumption) _ _ _ (by assumption)) ?zh35632k1 ?zh35632k2 ?zh35632k3 ?zh35632k4 ?zh35632k5 ?zh35632kK ?zh35632kd ?zh35632ku ?_); (( (case zh35632k1 => k_asm); (case zh35632k2 => k_asm); (case zh35632k3 => k_asm); (case zh35632k4 => k_asm); (case zh35632k5 => k_asm); (case zh35632kK => first | exact rfl | assumption); (case zh35632kd => (first | exact room_1 hd rfl | exact room_0 hd | ktr_room)); (case zh35632ku => (first | exact unit_3 hu rfl | ktr_units)))); intro vzz ownzz hzz tkzz hRzz hKzz Fzz Nzz hUzz; clear hKzz; (first | (obtain ⟨hVzz, hOzz⟩ := (hRzz : _ = Value.none ∧ _ = []); subst hOzz hVzz; clear hUzz; (try simp only [List.nil_append] at Nzz)) | (obtain ⟨xzz, t1zz, t2zz, hVzz, hOzz⟩ := hRzz; subst hVzz hOzz; (try (have n1zz := hUzz _ (.head _) _ (.head _); have m1zz := Ne.symm n1zz; dsimp only at n1zz m1zz)); (try (have n2zz := hUzz _ (.head _) _ (.tail _ (.head _)); have m2zz := Ne.symm n2zz; dsimp only at n2zz m2zz)); (try (have n3zz := hUzz _ (.head _) _ (.tail _ (.tail _ (.head _))); have m3zz := Ne.symm n3zz; dsimp only at n3zz m3zz)); clear hUzz; (try simp only [List.singleton_append] at Nzz))); (try dsimp only)) | walk1 | (dsimp only; walk1))) | (leave1; walk_say "STEP leave1"; try dsimp only)))
                    exact JoinS.mk [] (by assumption) (by assumption) (fun _ h => nomatch h) ⟨rfl, by rw [show apartB A0 C0 = apC C0 by unfold apartB; rw [hapA]; rfl]⟩
                case rest =>
                  rintro h8 tk8 m8 nx8 ⟨rfl, rfl⟩ F8 N8
                  clear F7 N7
                  dsimp only
                  have hla : (KBw.bInts ab).length = A0.length := by rw [hA]
                  walk1
                  refine joinSF F8 (fun m' nx => nx = [] ∧ m' = fun y => if y = Str.ofString "is_word" then some (.bool (decide (sp < 0) && apartB A0 C0)) else if y = Str.ofString "is_apart_here" then some (.bool (apartB A0 C0)) else if y = Str.ofString "data" then some (.bytes db td) else if y = Str.ofString "behind" then some (.bytes cb tc) else if y = Str.ofString "ahead" then some (.bytes ab ta) else if y = Str.ofString "bent" then some (.bytes bb tb) else if y = Str.ofString "spot" then some (.int sp tsp) else if y = Str.ofString "frame" then some (.ref F) else if y = Str.ofString "words" then some (.str ⟨xs.toArray⟩ tx) else if y = Str.ofString "word" then some (.bytes wb tw) else if y = Str.ofString "pen" then some (.ref xp) else m₀ y) ?first ?rest
                  case first =>
                    generalize apartB A0 C0 = bap at F8
                    (repeat' (first | (k_unfold; (try dsimp only)) | ((fail_if_success (with_reducible show KswEnd _ _ _ _ _ _ _ _ _ _ _ _)); (fail_if_success (with_reducible show InvEndN _ _ _ _ _ _ _)); (fail_if_success (with_reducible show wpAny _ _ (exec (Stmt.While _ _ _ _) _) _ _ _)); (fail_if_success (with_reducible show wpAny _ _ (exec (Stmt.For _ _ _ _ _) _) _ _ _)); (fail_if_success (with_reducible show wpAny _ _ (exec (Stmt.Assign _ (PySem.Expr.ListComp _ _ _ _) _) _) _ _ _)); (fail_if_success (with_reducible show wpAny _ _ (eval (PySem.Expr.ListComp _ _ _ _) _) _ _ _)); (first | (k_here; (with_reducible show wpAny _ _ (call (Value.ref 232) [Value.bytes _ _, Value.int _ _] _) _ _ _); k_dflt (refine' PC.use (word_at_ok _ _ (by assumption) (by assumption) _ (by assumption) _ _ _ (by assumption)) ?zh35632k1 ?zh35632k2 ?zh35632k3 ?zh35632k4 ?zh35632k5 ?zh35632kK ?zh35632kd ?zh35632ku ?_); (( (case zh35632k1 => k_asm); (case zh35632k2 => k_asm); (case zh35632k3 => k_asm); (case zh35632k4 => k_asm); (case zh35632k5 => k_asm); (case zh35632kK => first | exact rfl | assumption); (case zh35632kd => (first | exact room_1 hd rfl | exact room_0 hd | ktr_room)); (case zh35632ku => (first | exact unit_3 hu rfl | ktr_units)))); intro vzz ownzz hzz tkzz hRzz hKzz Fzz Nzz hUzz; clear hKzz; (first | (obtain ⟨hVzz, hOzz⟩ := (hRzz : _ = Value.none ∧ _ = []); subst hOzz hVzz; clear hUzz; (try simp only [List.nil_append] at Nzz)) | (obtain ⟨xzz, t1zz, t2zz, hVzz, hOzz⟩ := hRzz; subst hVzz hOzz; (try (have n1zz := hUzz _ (.head _) _ (.head _); have m1zz := Ne.symm n1zz; dsimp only at n1zz m1zz)); (try (have n2zz := hUzz _ (.head _) _ (.tail _ (.head _)); have m2zz := Ne.symm n2zz; dsimp only at n2zz m2zz)); (try (have n3zz := hUzz _ (.head _) _ (.tail _ (.tail _ (.head _))); have m3zz := Ne.symm n3zz; dsimp only at n3zz m3zz)); clear hUzz; (try simp only [List.singleton_append] at Nzz))); (try dsimp only)) | walk1 | (dsimp only; walk1))) | (leave1; walk_say "STEP leave1"; try dsimp only)))
                    · rename sp < 0 => hneg
                      exact JoinS.mk [] (by assumption) (by assumption) (fun _ h => nomatch h) ⟨rfl, by rw [decide_eq_true hneg, Bool.true_and]⟩
                    · rename ¬ sp < 0 => hneg
                      exact JoinS.mk [] (by assumption) (by assumption) (fun _ h => nomatch h) ⟨rfl, by rw [decide_eq_false hneg, Bool.false_and]⟩
                  case rest =>
                    rintro h9 tk9 m9 nx9 ⟨rfl, rfl⟩ F9 N9
                    clear F8 N8 hDx hvs' hn40 hfs hFx hfl
                    dsimp only
                    obtain ⟨hP1, hP2⟩ := hPL nm c way xs A0 C0 sp hpar hab hcb (hWe ▸ hsp)
                    rw [hWe, hBe] at hP1 hP2
                    have hkl : (A0 ++ B0 ++ C0).length ≤ 1000 := by rw [List.length_append, List.length_append]; omega
                    have hkA : (A0 ++ B0 ++ C0).length = A0.length + W0.length + C0.length := by rw [List.length_append, List.length_append, hBl]
                    generalize hbw : (decide (sp < 0) && apartB A0 C0) = bw at *
                    have hp61 : bw = true → (A0 ++ B0 ++ C0).getD A0.length 0 = 61 := fun h => by
                      have h2 : decide (sp < 0) = true := by rw [h] at hbw; exact (Bool.and_eq_true_iff.mp hbw).1
                      have h3 := bent_at (A := A0) (C := C0) (sp := sp) hWe (of_decide_eq_true h2)
                      rw [hBe] at h3
                      exact h3
                    have hBW : bw = true → B0 = W0 := fun h => by
                      have h2 : decide (sp < 0) = true := by rw [h] at hbw; exact (Bool.and_eq_true_iff.mp hbw).1
                      rw [← hBe]; exact if_pos (of_decide_eq_true h2)
                    have htake : (A0 ++ B0 ++ C0).take A0.length = A0 := by rw [List.append_assoc, List.take_left]
                    have hdrop : (A0 ++ B0 ++ C0).drop (A0.length + W0.length) = C0 := by rw [← hBl, ← List.length_append, List.drop_left]
                    generalize A0 ++ B0 ++ C0 = ks at *
                    have hxok := words_ok hpar.2.1
                    clear hBe hsp hspr hWe hpar
                    refine with_map F9 ?_
                    intro M eM F10
                    have e1 : M (Str.ofString "is_word") = some (.bool bw) := by rw [eM]; rfl
                    have e2 : M (Str.ofString "data") = some (.bytes db td) := by rw [eM]; rfl
                    have e3 : M (Str.ofString "ahead") = some (.bytes ab ta) := by rw [eM]; rfl
                    have e4 : M (Str.ofString "behind") = some (.bytes cb tc) := by rw [eM]; rfl
                    have e5 : M (Str.ofString "words") = some (.str ⟨xs.toArray⟩ tx) := by rw [eM]; rfl
                    have e6 : M (Str.ofString "word") = some (.bytes wb tw) := by rw [eM]; rfl
                    rw [map6 e1 e2 e3 e4 e5 e6] at F10
                    clear F9 eM e1 e2 e3 e4 e5 e6 hbw
                    have hkn : (KBw.bInts db).length = ks.length := by rw [hdb]
                    cases bw
                    · have hP3 : ∀ i, i < ks.length → WordIs ks i none := fun i hi => hP2 i hi (fun q => Bool.false_ne_true q.1)
                      clear hp61 hP1 hBW hP2 htake hdrop
                      (repeat' (first | (k_unfold; (try dsimp only)) | ((fail_if_success (with_reducible show KswEnd _ _ _ _ _ _ _ _ _ _ _ _)); (fail_if_success (with_reducible show InvEndN _ _ _ _ _ _ _)); (fail_if_success (with_reducible show wpAny _ _ (exec (Stmt.While _ _ _ _) _) _ _ _)); (fail_if_success (with_reducible show wpAny _ _ (exec (Stmt.For _ _ _ _ _) _) _ _ _)); (fail_if_success (with_reducible show wpAny _ _ (exec (Stmt.Assign _ (PySem.Expr.ListComp _ _ _ _) _) _) _ _ _)); (fail_if_success (with_reducible show wpAny _ _ (eval (PySem.Expr.ListComp _ _ _ _) _) _ _ _)); (first | (k_here; (with_reducible show wpAny _ _ (call (Value.ref 232) [Value.bytes _ _, Value.int _ _] _) _ _ _); k_dflt (refine' PC.use (word_at_ok _ _ (by assumption) (by assumption) _ (by assumption) _ _ _ (by assumption)) ?zh35632k1 ?zh35632k2 ?zh35632k3 ?zh35632k4 ?zh35632k5 ?zh35632kK ?zh35632kd ?zh35632ku ?_); (( (case zh35632k1 => k_asm); (case zh35632k2 => k_asm); (case zh35632k3 => k_asm); (case zh35632k4 => k_asm); (case zh35632k5 => k_asm); (case zh35632kK => first | exact rfl | assumption); (case zh35632kd => (first | exact room_1 hd rfl | exact room_0 hd | ktr_room)); (case zh35632ku => (first | exact unit_3 hu rfl | ktr_units)))); intro vzz ownzz hzz tkzz hRzz hKzz Fzz Nzz hUzz; clear hKzz; (first | (obtain ⟨hVzz, hOzz⟩ := (hRzz : _ = Value.none ∧ _ = []); subst hOzz hVzz; clear hUzz; (try simp only [List.nil_append] at Nzz)) | (obtain ⟨xzz, t1zz, t2zz, hVzz, hOzz⟩ := hRzz; subst hVzz hOzz; (try (have n1zz := hUzz _ (.head _) _ (.head _); have m1zz := Ne.symm n1zz; dsimp only at n1zz m1zz)); (try (have n2zz := hUzz _ (.head _) _ (.tail _ (.head _)); have m2zz := Ne.symm n2zz; dsimp only at n2zz m2zz)); (try (have n3zz := hUzz _ (.head _) _ (.tail _ (.tail _ (.head _))); have m3zz := Ne.symm n3zz; dsimp only at n3zz m3zz)); clear hUzz; (try simp only [List.singleton_append] at Nzz))); (try dsimp only)) | walk1 | (dsimp only; walk1))) | (leave1; walk_say "STEP leave1"; try dsimp only)))
                      (((rename Fr _ _ _ _ => lFzz); (with_unfolding_all refine' For_invVF lFzz ?zh39862k1 ?zh39862k2 ?_); (case zh39862k1 => exact rfl); (case zh39862k2 => exact rfl); (repeat' (first | (k_unfold; (try dsimp only)) | ((fail_if_success (with_reducible show wpAny _ _ (pyIter _) _ _ _)); (fail_if_success (with_reducible show wpAny _ _ (exec (Stmt.While _ _ _ _) _) _ _ _)); (fail_if_success (with_reducible show wpAny _ _ (exec (Stmt.For _ _ _ _ _) _) _ _ _)); (fail_if_success (with_reducible show wpAny _ _ (exec (Stmt.Assign _ (PySem.Expr.ListComp _ _ _ _) _) _) _ _ _)); (fail_if_success (with_reducible show wpAny _ _ (eval (PySem.Expr.ListComp _ _ _ _) _) _ _ _)); (first | (k_here; (with_reducible show wpAny _ _ (call (Value.ref 232) [Value.bytes _ _, Value.int _ _] _) _ _ _); k_dflt (refine' PC.use (word_at_ok _ _ (by assumption) (by assumption) _ (by assumption) _ _ _ (by assumption)) ?zh35632k1 ?zh35632k2 ?zh35632k3 ?zh35632k4 ?zh35632k5 ?zh35632kK ?zh35632kd ?zh35632ku ?_); (( (case zh35632k1 => k_asm); (case zh35632k2 => k_asm); (case zh35632k3 => k_asm); (case zh35632k4 => k_asm); (case zh35632k5 => k_asm); (case zh35632kK => first | exact rfl | assumption); (case zh35632kd => (first | exact room_1 hd rfl | exact room_0 hd | ktr_room)); (case zh35632ku => (first | exact unit_3 hu rfl | ktr_units)))); intro vzz ownzz hzz tkzz hRzz hKzz Fzz Nzz hUzz; clear hKzz; (first | (obtain ⟨hVzz, hOzz⟩ := (hRzz : _ = Value.none ∧ _ = []); subst hOzz hVzz; clear hUzz; (try simp only [List.nil_append] at Nzz)) | (obtain ⟨xzz, t1zz, t2zz, hVzz, hOzz⟩ := hRzz; subst hVzz hOzz; (try (have n1zz := hUzz _ (.head _) _ (.head _); have m1zz := Ne.symm n1zz; dsimp only at n1zz m1zz)); (try (have n2zz := hUzz _ (.head _) _ (.tail _ (.head _)); have m2zz := Ne.symm n2zz; dsimp only at n2zz m2zz)); (try (have n3zz := hUzz _ (.head _) _ (.tail _ (.tail _ (.head _))); have m3zz := Ne.symm n3zz; dsimp only at n3zz m3zz)); clear hUzz; (try simp only [List.singleton_append] at Nzz))); (try dsimp only)) | walk1 | (dsimp only; walk1))) | (leave1; walk_say "STEP leave1"; try dsimp only)))))
                      rename IsRange _ _ _ _ _ _ _ _ => hR
                      rename Fr _ _ _ _ => lF
                      rename News _ _ _ _ => lN
                      generalize hMM : (fun z => if z = Str.ofString "is_word" then some (Value.bool false) else if z = Str.ofString "data" then some (.bytes db td) else if z = Str.ofString "ahead" then some (.bytes ab ta) else if z = Str.ofString "behind" then some (.bytes cb tc) else if z = Str.ofString "words" then some (.str ⟨xs.toArray⟩ tx) else if z = Str.ofString "word" then some (.bytes wb tw) else M z) = MM at lF
                      k_dflt refine loop1 (src_range (n := ks.length) (by rfl) hR ?s1 ?s2) (fun i m nx => ∃ u1 u2, nx = [] ∧ m = fun z => if z = Str.ofString "due" then u1 else if z = Str.ofString "at" then u2 else MM z) lF lN ⟨_, _, rfl, map_self2⟩ ?_ ?_
                      case s1 => exact small_1k (by omega)
                      case s2 => exact size_1
                      · rintro i v m₁ nx h tk own hi ⟨tv, rfl⟩ _ hoff ⟨u1, u2, rfl, rfl⟩ F₁ N₁
                        rw [map_over2 (by decide), show 0 + (i : Int) * 1 = (i : Int) by omega] at F₁
                        subst hMM
                        clear lN lF hR
                        simp only [List.nil_append] at N₁
                        have hWi := hP3 i hi
                        (repeat' (first | (k_unfold; (try dsimp only)) | ((fail_if_success (with_reducible show KswEnd _ _ _ _ _ _ _ _ _ _ _ _)); (fail_if_success (with_reducible show InvEndN _ _ _ _ _ _ _)); (fail_if_success (with_reducible show wpAny _ _ (exec (Stmt.While _ _ _ _) _) _ _ _)); (fail_if_success (with_reducible show wpAny _ _ (exec (Stmt.For _ _ _ _ _) _) _ _ _)); (fail_if_success (with_reducible show wpAny _ _ (exec (Stmt.Assign _ (PySem.Expr.ListComp _ _ _ _) _) _) _ _ _)); (fail_if_success (with_reducible show wpAny _ _ (eval (PySem.Expr.ListComp _ _ _ _) _) _ _ _)); (first | (k_here; (with_reducible show wpAny _ _ (call (Value.ref 232) [Value.bytes _ _, Value.int _ _] _) _ _ _); k_dflt (refine' PC.use (word_at_ok _ _ (by assumption) (by assumption) _ (by assumption) _ _ _ (by assumption)) ?zh35632k1 ?zh35632k2 ?zh35632k3 ?zh35632k4 ?zh35632k5 ?zh35632kK ?zh35632kd ?zh35632ku ?_); (( (case zh35632k1 => k_asm); (case zh35632k2 => k_asm); (case zh35632k3 => k_asm); (case zh35632k4 => k_asm); (case zh35632k5 => k_asm); (case zh35632kK => first | exact rfl | assumption); (case zh35632kd => (first | exact room_1 hd rfl | exact room_0 hd | ktr_room)); (case zh35632ku => (first | exact unit_3 hu rfl | ktr_units)))); intro vzz ownzz hzz tkzz hRzz hKzz Fzz Nzz hUzz; clear hKzz; (first | (obtain ⟨hVzz, hOzz⟩ := (hRzz : _ = Value.none ∧ _ = []); subst hOzz hVzz; clear hUzz; (try simp only [List.nil_append] at Nzz)) | (obtain ⟨xzz, t1zz, t2zz, hVzz, hOzz⟩ := hRzz; subst hVzz hOzz; (try (have n1zz := hUzz _ (.head _) _ (.head _); have m1zz := Ne.symm n1zz; dsimp only at n1zz m1zz)); (try (have n2zz := hUzz _ (.head _) _ (.tail _ (.head _)); have m2zz := Ne.symm n2zz; dsimp only at n2zz m2zz)); (try (have n3zz := hUzz _ (.head _) _ (.tail _ (.tail _ (.head _))); have m3zz := Ne.symm n3zz; dsimp only at n3zz m3zz)); clear hUzz; (try simp only [List.singleton_append] at Nzz))); (try dsimp only)) | walk1 | (dsimp only; walk1))) | (leave1; walk_say "STEP leave1"; try dsimp only)))
                        exact InvEndN.intro (by assumption) (by assumption) ⟨_, _, rfl, map_again⟩ rfl (fun _ h => nomatch h) (fun p hp => hp)
                      · rintro m₁ nx h tk ⟨u1, u2, rfl, rfl⟩ F₁ N₁
                        subst hMM
                        clear lN lF hR
                        (repeat' (first | (k_unfold; (try dsimp only)) | ((fail_if_success (with_reducible show KswEnd _ _ _ _ _ _ _ _ _ _ _ _)); (fail_if_success (with_reducible show InvEndN _ _ _ _ _ _ _)); (fail_if_success (with_reducible show wpAny _ _ (exec (Stmt.While _ _ _ _) _) _ _ _)); (fail_if_success (with_reducible show wpAny _ _ (exec (Stmt.For _ _ _ _ _) _) _ _ _)); (fail_if_success (with_reducible show wpAny _ _ (exec (Stmt.Assign _ (PySem.Expr.ListComp _ _ _ _) _) _) _ _ _)); (fail_if_success (with_reducible show wpAny _ _ (eval (PySem.Expr.ListComp _ _ _ _) _) _ _ _)); (first | (k_here; (with_reducible show wpAny _ _ (call (Value.ref 232) [Value.bytes _ _, Value.int _ _] _) _ _ _); k_dflt (refine' PC.use (word_at_ok _ _ (by assumption) (by assumption) _ (by assumption) _ _ _ (by assumption)) ?zh35632k1 ?zh35632k2 ?zh35632k3 ?zh35632k4 ?zh35632k5 ?zh35632kK ?zh35632kd ?zh35632ku ?_); (( (case zh35632k1 => k_asm); (case zh35632k2 => k_asm); (case zh35632k3 => k_asm); (case zh35632k4 => k_asm); (case zh35632k5 => k_asm); (case zh35632kK => first | exact rfl | assumption); (case zh35632kd => (first | exact room_1 hd rfl | exact room_0 hd | ktr_room)); (case zh35632ku => (first | exact unit_3 hu rfl | ktr_units)))); intro vzz ownzz hzz tkzz hRzz hKzz Fzz Nzz hUzz; clear hKzz; (first | (obtain ⟨hVzz, hOzz⟩ := (hRzz : _ = Value.none ∧ _ = []); subst hOzz hVzz; clear hUzz; (try simp only [List.nil_append] at Nzz)) | (obtain ⟨xzz, t1zz, t2zz, hVzz, hOzz⟩ := hRzz; subst hVzz hOzz; (try (have n1zz := hUzz _ (.head _) _ (.head _); have m1zz := Ne.symm n1zz; dsimp only at n1zz m1zz)); (try (have n2zz := hUzz _ (.head _) _ (.tail _ (.head _)); have m2zz := Ne.symm n2zz; dsimp only at n2zz m2zz)); (try (have n3zz := hUzz _ (.head _) _ (.tail _ (.tail _ (.head _))); have m3zz := Ne.symm n3zz; dsimp only at n3zz m3zz)); clear hUzz; (try simp only [List.singleton_append] at Nzz))); (try dsimp only)) | walk1 | (dsimp only; walk1))) | (leave1; walk_say "STEP leave1"; try dsimp only)))
                        k_dflt (refine' PC.use (pieces_none db ks hdb hkl (fun i hi _ => hP3 i hi) td) ?k1 ?k2 ?k3 ?k4 ?k5 ?kK ?kd ?ku ?_)
                        (( (case k1 => k_asm); (case k2 => k_asm); (case k3 => k_asm); (case k4 => k_asm); (case k5 => k_asm); (case kK => first | exact rfl | assumption); (case kd => (first | exact room_1 hd rfl | exact room_0 hd | ktr_room)); (case ku => (first | exact unit_3 hu rfl | ktr_units))))
                        rintro v' own' h' tk' ⟨xl, D1, nl, vb, rfl, rfl, b1, tb1, rfl, hb1⟩ hK' F' N' hU'
                        clear hK' hU'
                        dsimp only
                        simp only [List.cons_append, List.nil_append] at N'
                        (repeat' (first | (k_unfold; (try dsimp only)) | ((fail_if_success (with_reducible show wpAny _ _ (compareOp CmpOp.Eq (Value.ref _) (Value.ref _)) _ _ _)); (first | (k_here; (with_reducible show wpAny _ _ (call (Value.ref 232) [Value.bytes _ _, Value.int _ _] _) _ _ _); k_dflt (refine' PC.use (word_at_ok _ _ (by assumption) (by assumption) _ (by assumption) _ _ _ (by assumption)) ?zh35632k1 ?zh35632k2 ?zh35632k3 ?zh35632k4 ?zh35632k5 ?zh35632kK ?zh35632kd ?zh35632ku ?_); (( (case zh35632k1 => k_asm); (case zh35632k2 => k_asm); (case zh35632k3 => k_asm); (case zh35632k4 => k_asm); (case zh35632k5 => k_asm); (case zh35632kK => first | exact rfl | assumption); (case zh35632kd => (first | exact room_1 hd rfl | exact room_0 hd | ktr_room)); (case zh35632ku => (first | exact unit_3 hu rfl | ktr_units)))); intro vzz ownzz hzz tkzz hRzz hKzz Fzz Nzz hUzz; clear hKzz; (first | (obtain ⟨hVzz, hOzz⟩ := (hRzz : _ = Value.none ∧ _ = []); subst hOzz hVzz; clear hUzz; (try simp only [List.nil_append] at Nzz)) | (obtain ⟨xzz, t1zz, t2zz, hVzz, hOzz⟩ := hRzz; subst hVzz hOzz; (try (have n1zz := hUzz _ (.head _) _ (.head _); have m1zz := Ne.symm n1zz; dsimp only at n1zz m1zz)); (try (have n2zz := hUzz _ (.head _) _ (.tail _ (.head _)); have m2zz := Ne.symm n2zz; dsimp only at n2zz m2zz)); (try (have n3zz := hUzz _ (.head _) _ (.tail _ (.tail _ (.head _))); have m3zz := Ne.symm n3zz; dsimp only at n3zz m3zz)); clear hUzz; (try simp only [List.singleton_append] at Nzz))); (try dsimp only)) | walk1 | (dsimp only; walk1))) | (leave1; walk_say "STEP leave1"; try dsimp only)))
                        rename News _ _ _ _ => nE
                        rename _ < _ ∧ _ < _ => hd2
                        have hlx := (nE _ (.tail _ (.tail _ (.head _)))).1
                        have hll := (nE _ (.head _)).1
                        refine SeqAt.eq_listAt (e := fun _ => true) ⟨_, hlx, rfl, _, rfl⟩ ⟨_, hll, rfl, _, rfl⟩ rfl (by show _ < cLine; (first | exact unit_3 hu rfl | ktr_units)) (fun j h1 h2 => ?_) ?_
                        · match j, h1, h2 with
                          | 0, _, _ => exact eqTup (Nat.ne_of_lt hd2.2) (nE _ (.tail _ (.tail _ (.tail _ (.head _))))).1 (nE _ (.tail _ (.head _))).1 (EqAt_bytes_same (hb1.trans hdb.symm)) (by show _ < cLine; (first | exact unit_3 hu rfl | ktr_units))
                          | n + 1, h1, _ => exact absurd h1 (by simp)
                        (repeat' (first | (k_unfold; (try dsimp only)) | ((fail_if_success (with_reducible show KswEnd _ _ _ _ _ _ _ _ _ _ _ _)); (fail_if_success (with_reducible show InvEndN _ _ _ _ _ _ _)); (fail_if_success (with_reducible show wpAny _ _ (exec (Stmt.While _ _ _ _) _) _ _ _)); (fail_if_success (with_reducible show wpAny _ _ (exec (Stmt.For _ _ _ _ _) _) _ _ _)); (fail_if_success (with_reducible show wpAny _ _ (exec (Stmt.Assign _ (PySem.Expr.ListComp _ _ _ _) _) _) _ _ _)); (fail_if_success (with_reducible show wpAny _ _ (eval (PySem.Expr.ListComp _ _ _ _) _) _ _ _)); (first | (k_here; (with_reducible show wpAny _ _ (call (Value.ref 232) [Value.bytes _ _, Value.int _ _] _) _ _ _); k_dflt (refine' PC.use (word_at_ok _ _ (by assumption) (by assumption) _ (by assumption) _ _ _ (by assumption)) ?zh35632k1 ?zh35632k2 ?zh35632k3 ?zh35632k4 ?zh35632k5 ?zh35632kK ?zh35632kd ?zh35632ku ?_); (( (case zh35632k1 => k_asm); (case zh35632k2 => k_asm); (case zh35632k3 => k_asm); (case zh35632k4 => k_asm); (case zh35632k5 => k_asm); (case zh35632kK => first | exact rfl | assumption); (case zh35632kd => (first | exact room_1 hd rfl | exact room_0 hd | ktr_room)); (case zh35632ku => (first | exact unit_3 hu rfl | ktr_units)))); intro vzz ownzz hzz tkzz hRzz hKzz Fzz Nzz hUzz; clear hKzz; (first | (obtain ⟨hVzz, hOzz⟩ := (hRzz : _ = Value.none ∧ _ = []); subst hOzz hVzz; clear hUzz; (try simp only [List.nil_append] at Nzz)) | (obtain ⟨xzz, t1zz, t2zz, hVzz, hOzz⟩ := hRzz; subst hVzz hOzz; (try (have n1zz := hUzz _ (.head _) _ (.head _); have m1zz := Ne.symm n1zz; dsimp only at n1zz m1zz)); (try (have n2zz := hUzz _ (.head _) _ (.tail _ (.head _)); have m2zz := Ne.symm n2zz; dsimp only at n2zz m2zz)); (try (have n3zz := hUzz _ (.head _) _ (.tail _ (.tail _ (.head _))); have m3zz := Ne.symm n3zz; dsimp only at n3zz m3zz)); clear hUzz; (try simp only [List.singleton_append] at Nzz))); (try dsimp only)) | walk1 | (dsimp only; walk1))) | (leave1; walk_say "STEP leave1"; try dsimp only)))
                        exact hret _ _ _ (by assumption)
                    · replace hp61 := hp61 rfl
                      replace hP1 := hP1 rfl
                      have hBW := hBW rfl
                      have hpl : A0.length < ks.length := by omega
                      (repeat' (first | (k_unfold; (try dsimp only)) | ((fail_if_success (with_reducible show KswEnd _ _ _ _ _ _ _ _ _ _ _ _)); (fail_if_success (with_reducible show InvEndN _ _ _ _ _ _ _)); (fail_if_success (with_reducible show wpAny _ _ (exec (Stmt.While _ _ _ _) _) _ _ _)); (fail_if_success (with_reducible show wpAny _ _ (exec (Stmt.For _ _ _ _ _) _) _ _ _)); (fail_if_success (with_reducible show wpAny _ _ (exec (Stmt.Assign _ (PySem.Expr.ListComp _ _ _ _) _) _) _ _ _)); (fail_if_success (with_reducible show wpAny _ _ (eval (PySem.Expr.ListComp _ _ _ _) _) _ _ _)); (first | (k_here; (with_reducible show wpAny _ _ (call (Value.ref 232) [Value.bytes _ _, Value.int _ _] _) _ _ _); k_dflt (refine' PC.use (word_at_ok _ _ (by assumption) (by assumption) _ (by assumption) _ _ _ (by assumption)) ?zh35632k1 ?zh35632k2 ?zh35632k3 ?zh35632k4 ?zh35632k5 ?zh35632kK ?zh35632kd ?zh35632ku ?_); (( (case zh35632k1 => k_asm); (case zh35632k2 => k_asm); (case zh35632k3 => k_asm); (case zh35632k4 => k_asm); (case zh35632k5 => k_asm); (case zh35632kK => first | exact rfl | assumption); (case zh35632kd => (first | exact room_1 hd rfl | exact room_0 hd | ktr_room)); (case zh35632ku => (first | exact unit_3 hu rfl | ktr_units)))); intro vzz ownzz hzz tkzz hRzz hKzz Fzz Nzz hUzz; clear hKzz; (first | (obtain ⟨hVzz, hOzz⟩ := (hRzz : _ = Value.none ∧ _ = []); subst hOzz hVzz; clear hUzz; (try simp only [List.nil_append] at Nzz)) | (obtain ⟨xzz, t1zz, t2zz, hVzz, hOzz⟩ := hRzz; subst hVzz hOzz; (try (have n1zz := hUzz _ (.head _) _ (.head _); have m1zz := Ne.symm n1zz; dsimp only at n1zz m1zz)); (try (have n2zz := hUzz _ (.head _) _ (.tail _ (.head _)); have m2zz := Ne.symm n2zz; dsimp only at n2zz m2zz)); (try (have n3zz := hUzz _ (.head _) _ (.tail _ (.tail _ (.head _))); have m3zz := Ne.symm n3zz; dsimp only at n3zz m3zz)); clear hUzz; (try simp only [List.singleton_append] at Nzz))); (try dsimp only)) | walk1 | (dsimp only; walk1))) | (leave1; walk_say "STEP leave1"; try dsimp only)))
                      (((rename Fr _ _ _ _ => lFzz); (with_unfolding_all refine' For_invVF lFzz ?zh39862k1 ?zh39862k2 ?_); (case zh39862k1 => exact rfl); (case zh39862k2 => exact rfl); (repeat' (first | (k_unfold; (try dsimp only)) | ((fail_if_success (with_reducible show wpAny _ _ (pyIter _) _ _ _)); (fail_if_success (with_reducible show wpAny _ _ (exec (Stmt.While _ _ _ _) _) _ _ _)); (fail_if_success (with_reducible show wpAny _ _ (exec (Stmt.For _ _ _ _ _) _) _ _ _)); (fail_if_success (with_reducible show wpAny _ _ (exec (Stmt.Assign _ (PySem.Expr.ListComp _ _ _ _) _) _) _ _ _)); (fail_if_success (with_reducible show wpAny _ _ (eval (PySem.Expr.ListComp _ _ _ _) _) _ _ _)); (first | (k_here; (with_reducible show wpAny _ _ (call (Value.ref 232) [Value.bytes _ _, Value.int _ _] _) _ _ _); k_dflt (refine' PC.use (word_at_ok _ _ (by assumption) (by assumption) _ (by assumption) _ _ _ (by assumption)) ?zh35632k1 ?zh35632k2 ?zh35632k3 ?zh35632k4 ?zh35632k5 ?zh35632kK ?zh35632kd ?zh35632ku ?_); (( (case zh35632k1 => k_asm); (case zh35632k2 => k_asm); (case zh35632k3 => k_asm); (case zh35632k4 => k_asm); (case zh35632k5 => k_asm); (case zh35632kK => first | exact rfl | assumption); (case zh35632kd => (first | exact room_1 hd rfl | exact room_0 hd | ktr_room)); (case zh35632ku => (first | exact unit_3 hu rfl | ktr_units)))); intro vzz ownzz hzz tkzz hRzz hKzz Fzz Nzz hUzz; clear hKzz; (first | (obtain ⟨hVzz, hOzz⟩ := (hRzz : _ = Value.none ∧ _ = []); subst hOzz hVzz; clear hUzz; (try simp only [List.nil_append] at Nzz)) | (obtain ⟨xzz, t1zz, t2zz, hVzz, hOzz⟩ := hRzz; subst hVzz hOzz; (try (have n1zz := hUzz _ (.head _) _ (.head _); have m1zz := Ne.symm n1zz; dsimp only at n1zz m1zz)); (try (have n2zz := hUzz _ (.head _) _ (.tail _ (.head _)); have m2zz := Ne.symm n2zz; dsimp only at n2zz m2zz)); (try (have n3zz := hUzz _ (.head _) _ (.tail _ (.tail _ (.head _))); have m3zz := Ne.symm n3zz; dsimp only at n3zz m3zz)); clear hUzz; (try simp only [List.singleton_append] at Nzz))); (try dsimp only)) | walk1 | (dsimp only; walk1))) | (leave1; walk_say "STEP leave1"; try dsimp only)))))
                      rename IsRange _ _ _ _ _ _ _ _ => hR
                      rename Fr _ _ _ _ => lF
                      rename News _ _ _ _ => lN
                      generalize hMM : (fun z => if z = Str.ofString "is_word" then some (Value.bool true) else if z = Str.ofString "data" then some (.bytes db td) else if z = Str.ofString "ahead" then some (.bytes ab ta) else if z = Str.ofString "behind" then some (.bytes cb tc) else if z = Str.ofString "words" then some (.str ⟨xs.toArray⟩ tx) else if z = Str.ofString "word" then some (.bytes wb tw) else M z) = MM at lF
                      k_dflt refine loop1 (src_range (n := ks.length) (by rfl) hR ?s1 ?s2) (fun i m nx => ∃ u1 u2, nx = [] ∧ m = fun z => if z = Str.ofString "due" then u1 else if z = Str.ofString "at" then u2 else MM z) lF lN ⟨_, _, rfl, map_self2⟩ ?_ ?_
                      case s1 => exact small_1k (by omega)
                      case s2 => exact size_1
                      · rintro i v m₁ nx h tk own hi ⟨tv, rfl⟩ _ hoff ⟨u1, u2, rfl, rfl⟩ F₁ N₁
                        rw [map_over2 (by decide), show 0 + (i : Int) * 1 = (i : Int) by omega] at F₁
                        subst hMM
                        clear lN lF hR
                        simp only [List.nil_append] at N₁
                        by_cases hip : i = A0.length
                        · subst hip
                          (repeat' (first | (k_unfold; (try dsimp only)) | ((fail_if_success (with_reducible show KswEnd _ _ _ _ _ _ _ _ _ _ _ _)); (fail_if_success (with_reducible show InvEndN _ _ _ _ _ _ _)); (fail_if_success (with_reducible show wpAny _ _ (exec (Stmt.While _ _ _ _) _) _ _ _)); (fail_if_success (with_reducible show wpAny _ _ (exec (Stmt.For _ _ _ _ _) _) _ _ _)); (fail_if_success (with_reducible show wpAny _ _ (exec (Stmt.Assign _ (PySem.Expr.ListComp _ _ _ _) _) _) _ _ _)); (fail_if_success (with_reducible show wpAny _ _ (eval (PySem.Expr.ListComp _ _ _ _) _) _ _ _)); (first | (k_here; (with_reducible show wpAny _ _ (call (Value.ref 232) [Value.bytes _ _, Value.int _ _] _) _ _ _); k_dflt (refine' PC.use (word_at_ok _ _ (by assumption) (by assumption) _ (by assumption) _ _ _ (by assumption)) ?zh35632k1 ?zh35632k2 ?zh35632k3 ?zh35632k4 ?zh35632k5 ?zh35632kK ?zh35632kd ?zh35632ku ?_); (( (case zh35632k1 => k_asm); (case zh35632k2 => k_asm); (case zh35632k3 => k_asm); (case zh35632k4 => k_asm); (case zh35632k5 => k_asm); (case zh35632kK => first | exact rfl | assumption); (case zh35632kd => (first | exact room_1 hd rfl | exact room_0 hd | ktr_room)); (case zh35632ku => (first | exact unit_3 hu rfl | ktr_units)))); intro vzz ownzz hzz tkzz hRzz hKzz Fzz Nzz hUzz; clear hKzz; (first | (obtain ⟨hVzz, hOzz⟩ := (hRzz : _ = Value.none ∧ _ = []); subst hOzz hVzz; clear hUzz; (try simp only [List.nil_append] at Nzz)) | (obtain ⟨xzz, t1zz, t2zz, hVzz, hOzz⟩ := hRzz; subst hVzz hOzz; (try (have n1zz := hUzz _ (.head _) _ (.head _); have m1zz := Ne.symm n1zz; dsimp only at n1zz m1zz)); (try (have n2zz := hUzz _ (.head _) _ (.tail _ (.head _)); have m2zz := Ne.symm n2zz; dsimp only at n2zz m2zz)); (try (have n3zz := hUzz _ (.head _) _ (.tail _ (.tail _ (.head _))); have m3zz := Ne.symm n3zz; dsimp only at n3zz m3zz)); clear hUzz; (try simp only [List.singleton_append] at Nzz))); (try dsimp only)) | walk1 | (dsimp only; walk1))) | (leave1; walk_say "STEP leave1"; try dsimp only)))
                          · rename Fr _ _ _ _ => fE
                            rename News _ _ _ _ => nE
                            rw [nat_ints] at nE
                            refine ne_tup2 (nE _ (.head _)).1 (nE _ (.tail _ (.head _))).1 hxok (by show _ + 64 < cLine; (first | exact unit_3 hu rfl | ktr_units)) ?_
                            (repeat' (first | (k_unfold; (try dsimp only)) | ((fail_if_success (with_reducible show KswEnd _ _ _ _ _ _ _ _ _ _ _ _)); (fail_if_success (with_reducible show InvEndN _ _ _ _ _ _ _)); (fail_if_success (with_reducible show wpAny _ _ (exec (Stmt.While _ _ _ _) _) _ _ _)); (fail_if_success (with_reducible show wpAny _ _ (exec (Stmt.For _ _ _ _ _) _) _ _ _)); (fail_if_success (with_reducible show wpAny _ _ (exec (Stmt.Assign _ (PySem.Expr.ListComp _ _ _ _) _) _) _ _ _)); (fail_if_success (with_reducible show wpAny _ _ (eval (PySem.Expr.ListComp _ _ _ _) _) _ _ _)); (first | (k_here; (with_reducible show wpAny _ _ (call (Value.ref 232) [Value.bytes _ _, Value.int _ _] _) _ _ _); k_dflt (refine' PC.use (word_at_ok _ _ (by assumption) (by assumption) _ (by assumption) _ _ _ (by assumption)) ?zh35632k1 ?zh35632k2 ?zh35632k3 ?zh35632k4 ?zh35632k5 ?zh35632kK ?zh35632kd ?zh35632ku ?_); (( (case zh35632k1 => k_asm); (case zh35632k2 => k_asm); (case zh35632k3 => k_asm); (case zh35632k4 => k_asm); (case zh35632k5 => k_asm); (case zh35632kK => first | exact rfl | assumption); (case zh35632kd => (first | exact room_1 hd rfl | exact room_0 hd | ktr_room)); (case zh35632ku => (first | exact unit_3 hu rfl | ktr_units)))); intro vzz ownzz hzz tkzz hRzz hKzz Fzz Nzz hUzz; clear hKzz; (first | (obtain ⟨hVzz, hOzz⟩ := (hRzz : _ = Value.none ∧ _ = []); subst hOzz hVzz; clear hUzz; (try simp only [List.nil_append] at Nzz)) | (obtain ⟨xzz, t1zz, t2zz, hVzz, hOzz⟩ := hRzz; subst hVzz hOzz; (try (have n1zz := hUzz _ (.head _) _ (.head _); have m1zz := Ne.symm n1zz; dsimp only at n1zz m1zz)); (try (have n2zz := hUzz _ (.head _) _ (.tail _ (.head _)); have m2zz := Ne.symm n2zz; dsimp only at n2zz m2zz)); (try (have n3zz := hUzz _ (.head _) _ (.tail _ (.tail _ (.head _))); have m3zz := Ne.symm n3zz; dsimp only at n3zz m3zz)); clear hUzz; (try simp only [List.singleton_append] at Nzz))); (try dsimp only)) | walk1 | (dsimp only; walk1))) | (leave1; walk_say "STEP leave1"; try dsimp only)))
                            exact InvEndN.intro (by assumption) (by assumption) ⟨_, _, rfl, map_again⟩ rfl (fun _ h => nomatch h) (fun p hp => .tail _ (.tail _ hp))
                          · exfalso; omega
                        · have hWi := hP2 i hi (fun h => hip h.2)
                          (repeat' (first | (k_unfold; (try dsimp only)) | ((fail_if_success (with_reducible show KswEnd _ _ _ _ _ _ _ _ _ _ _ _)); (fail_if_success (with_reducible show InvEndN _ _ _ _ _ _ _)); (fail_if_success (with_reducible show wpAny _ _ (exec (Stmt.While _ _ _ _) _) _ _ _)); (fail_if_success (with_reducible show wpAny _ _ (exec (Stmt.For _ _ _ _ _) _) _ _ _)); (fail_if_success (with_reducible show wpAny _ _ (exec (Stmt.Assign _ (PySem.Expr.ListComp _ _ _ _) _) _) _ _ _)); (fail_if_success (with_reducible show wpAny _ _ (eval (PySem.Expr.ListComp _ _ _ _) _) _ _ _)); (first | (k_here; (with_reducible show wpAny _ _ (call (Value.ref 232) [Value.bytes _ _, Value.int _ _] _) _ _ _); k_dflt (refine' PC.use (word_at_ok _ _ (by assumption) (by assumption) _ (by assumption) _ _ _ (by assumption)) ?zh35632k1 ?zh35632k2 ?zh35632k3 ?zh35632k4 ?zh35632k5 ?zh35632kK ?zh35632kd ?zh35632ku ?_); (( (case zh35632k1 => k_asm); (case zh35632k2 => k_asm); (case zh35632k3 => k_asm); (case zh35632k4 => k_asm); (case zh35632k5 => k_asm); (case zh35632kK => first | exact rfl | assumption); (case zh35632kd => (first | exact room_1 hd rfl | exact room_0 hd | ktr_room)); (case zh35632ku => (first | exact unit_3 hu rfl | ktr_units)))); intro vzz ownzz hzz tkzz hRzz hKzz Fzz Nzz hUzz; clear hKzz; (first | (obtain ⟨hVzz, hOzz⟩ := (hRzz : _ = Value.none ∧ _ = []); subst hOzz hVzz; clear hUzz; (try simp only [List.nil_append] at Nzz)) | (obtain ⟨xzz, t1zz, t2zz, hVzz, hOzz⟩ := hRzz; subst hVzz hOzz; (try (have n1zz := hUzz _ (.head _) _ (.head _); have m1zz := Ne.symm n1zz; dsimp only at n1zz m1zz)); (try (have n2zz := hUzz _ (.head _) _ (.tail _ (.head _)); have m2zz := Ne.symm n2zz; dsimp only at n2zz m2zz)); (try (have n3zz := hUzz _ (.head _) _ (.tail _ (.tail _ (.head _))); have m3zz := Ne.symm n3zz; dsimp only at n3zz m3zz)); clear hUzz; (try simp only [List.singleton_append] at Nzz))); (try dsimp only)) | walk1 | (dsimp only; walk1))) | (leave1; walk_say "STEP leave1"; try dsimp only)))
                          · exfalso; omega
                          · exact InvEndN.intro (by assumption) (by assumption) ⟨_, _, rfl, map_again⟩ rfl (fun _ h => nomatch h) (fun p hp => hp)
                      · rintro m₁ nx h tk ⟨u1, u2, rfl, rfl⟩ F₁ N₁
                        subst hMM
                        clear lN lF hR
                        (repeat' (first | (k_unfold; (try dsimp only)) | ((fail_if_success (with_reducible show KswEnd _ _ _ _ _ _ _ _ _ _ _ _)); (fail_if_success (with_reducible show InvEndN _ _ _ _ _ _ _)); (fail_if_success (with_reducible show wpAny _ _ (exec (Stmt.While _ _ _ _) _) _ _ _)); (fail_if_success (with_reducible show wpAny _ _ (exec (Stmt.For _ _ _ _ _) _) _ _ _)); (fail_if_success (with_reducible show wpAny _ _ (exec (Stmt.Assign _ (PySem.Expr.ListComp _ _ _ _) _) _) _ _ _)); (fail_if_success (with_reducible show wpAny _ _ (eval (PySem.Expr.ListComp _ _ _ _) _) _ _ _)); (first | (k_here; (with_reducible show wpAny _ _ (call (Value.ref 232) [Value.bytes _ _, Value.int _ _] _) _ _ _); k_dflt (refine' PC.use (word_at_ok _ _ (by assumption) (by assumption) _ (by assumption) _ _ _ (by assumption)) ?zh35632k1 ?zh35632k2 ?zh35632k3 ?zh35632k4 ?zh35632k5 ?zh35632kK ?zh35632kd ?zh35632ku ?_); (( (case zh35632k1 => k_asm); (case zh35632k2 => k_asm); (case zh35632k3 => k_asm); (case zh35632k4 => k_asm); (case zh35632k5 => k_asm); (case zh35632kK => first | exact rfl | assumption); (case zh35632kd => (first | exact room_1 hd rfl | exact room_0 hd | ktr_room)); (case zh35632ku => (first | exact unit_3 hu rfl | ktr_units)))); intro vzz ownzz hzz tkzz hRzz hKzz Fzz Nzz hUzz; clear hKzz; (first | (obtain ⟨hVzz, hOzz⟩ := (hRzz : _ = Value.none ∧ _ = []); subst hOzz hVzz; clear hUzz; (try simp only [List.nil_append] at Nzz)) | (obtain ⟨xzz, t1zz, t2zz, hVzz, hOzz⟩ := hRzz; subst hVzz hOzz; (try (have n1zz := hUzz _ (.head _) _ (.head _); have m1zz := Ne.symm n1zz; dsimp only at n1zz m1zz)); (try (have n2zz := hUzz _ (.head _) _ (.tail _ (.head _)); have m2zz := Ne.symm n2zz; dsimp only at n2zz m2zz)); (try (have n3zz := hUzz _ (.head _) _ (.tail _ (.tail _ (.head _))); have m3zz := Ne.symm n3zz; dsimp only at n3zz m3zz)); clear hUzz; (try simp only [List.singleton_append] at Nzz))); (try dsimp only)) | walk1 | (dsimp only; walk1))) | (leave1; walk_say "STEP leave1"; try dsimp only)))
                        k_dflt (refine' PC.use (pieces_one db ks hdb hkl A0.length (A0.length + W0.length) (xs.map Int.ofNat) (by omega) (by omega) hp61 hP1 (fun i hi _ hio => hP2 i hi (fun q => by have := q.2; omega)) td) ?k1 ?k2 ?k3 ?k4 ?k5 ?kK ?kd ?ku ?_)
                        (( (case k1 => k_asm); (case k2 => k_asm); (case k3 => k_asm); (case k4 => k_asm); (case k5 => k_asm); (case kK => first | exact rfl | assumption); (case kd => (first | exact room_1 hd rfl | exact room_0 hd | ktr_room)); (case ku => (first | exact unit_3 hu rfl | ktr_units))))
                        rintro v' own' h' tk' ⟨xl, D1, D2, D3, nl, vb, vc, tl, rfl, rfl, hvb, hvc⟩ hK' F' N' hU'
                        clear hK' hU'
                        rw [htake] at hvb
                        rw [hdrop] at hvc
                        rw [nat_ints] at N'
                        obtain ⟨b1, tb1, rfl, hb1⟩ := hvb
                        obtain ⟨b3, tb3, rfl, hb3⟩ := hvc
                        dsimp only
                        simp only [List.cons_append, List.nil_append] at N'
                        (repeat' (first | (k_unfold; (try dsimp only)) | ((fail_if_success (with_reducible show wpAny _ _ (compareOp CmpOp.Eq (Value.ref _) (Value.ref _)) _ _ _)); (first | (k_here; (with_reducible show wpAny _ _ (call (Value.ref 232) [Value.bytes _ _, Value.int _ _] _) _ _ _); k_dflt (refine' PC.use (word_at_ok _ _ (by assumption) (by assumption) _ (by assumption) _ _ _ (by assumption)) ?zh35632k1 ?zh35632k2 ?zh35632k3 ?zh35632k4 ?zh35632k5 ?zh35632kK ?zh35632kd ?zh35632ku ?_); (( (case zh35632k1 => k_asm); (case zh35632k2 => k_asm); (case zh35632k3 => k_asm); (case zh35632k4 => k_asm); (case zh35632k5 => k_asm); (case zh35632kK => first | exact rfl | assumption); (case zh35632kd => (first | exact room_1 hd rfl | exact room_0 hd | ktr_room)); (case zh35632ku => (first | exact unit_3 hu rfl | ktr_units)))); intro vzz ownzz hzz tkzz hRzz hKzz Fzz Nzz hUzz; clear hKzz; (first | (obtain ⟨hVzz, hOzz⟩ := (hRzz : _ = Value.none ∧ _ = []); subst hOzz hVzz; clear hUzz; (try simp only [List.nil_append] at Nzz)) | (obtain ⟨xzz, t1zz, t2zz, hVzz, hOzz⟩ := hRzz; subst hVzz hOzz; (try (have n1zz := hUzz _ (.head _) _ (.head _); have m1zz := Ne.symm n1zz; dsimp only at n1zz m1zz)); (try (have n2zz := hUzz _ (.head _) _ (.tail _ (.head _)); have m2zz := Ne.symm n2zz; dsimp only at n2zz m2zz)); (try (have n3zz := hUzz _ (.head _) _ (.tail _ (.tail _ (.head _))); have m3zz := Ne.symm n3zz; dsimp only at n3zz m3zz)); clear hUzz; (try simp only [List.singleton_append] at Nzz))); (try dsimp only)) | walk1 | (dsimp only; walk1))) | (leave1; walk_say "STEP leave1"; try dsimp only)))
                        rename News _ _ _ _ => nE
                        rename _ < _ ∧ _ < _ ∧ _ < _ ∧ _ < _ ∧ _ < _ ∧ _ < _ => hd6
                        rename _ < _ ∧ _ < _ ∧ _ < _ ∧ _ < _ ∧ _ < _ => hd5
                        rename _ < _ ∧ _ < _ ∧ _ < _ ∧ _ < _ => hd4
                        have hlx := (nE _ (.tail _ (.tail _ (.tail _ (.tail _ (.head _)))))).1
                        have hll := (nE _ (.head _)).1
                        refine SeqAt.eq_listAt (e := fun _ => true) ⟨_, hlx, rfl, _, rfl⟩ ⟨_, hll, rfl, _, rfl⟩ rfl (by show _ < cLine; (first | exact unit_3 hu rfl | ktr_units)) (fun j h1 h2 => ?_) ?_
                        · match j, h1, h2 with
                          | 0, _, _ => exact eqTup (Nat.ne_of_lt hd4.2.1) (nE _ (.tail _ (.tail _ (.tail _ (.tail _ (.tail _ (.head _))))))).1 (nE _ (.tail _ (.tail _ (.tail _ (.head _))))).1 (EqAt_bytes_same (hb1.trans hA.symm)) (by show _ < cLine; (first | exact unit_3 hu rfl | ktr_units))
                          | 1, _, _ => exact eqTup (Nat.ne_of_lt hd5.2.2.2.1) (nE _ (.tail _ (.tail _ (.tail _ (.tail _ (.tail _ (.tail _ (.head _)))))))).1 (nE _ (.tail _ (.tail _ (.head _)))).1 EqAt_str_same (by show _ < cLine; (first | exact unit_3 hu rfl | ktr_units))
                          | 2, _, _ => exact eqTup (Nat.ne_of_lt hd6.2.2.2.2.2) (nE _ (.tail _ (.tail _ (.tail _ (.tail _ (.tail _ (.tail _ (.tail _ (.head _))))))))).1 (nE _ (.tail _ (.head _))).1 (EqAt_bytes_same (hb3.trans hC.symm)) (by show _ < cLine; (first | exact unit_3 hu rfl | ktr_units))
                          | n + 3, h1, _ => exact absurd h1 (by simp)
                        (repeat' (first | (k_unfold; (try dsimp only)) | ((fail_if_success (with_reducible show KswEnd _ _ _ _ _ _ _ _ _ _ _ _)); (fail_if_success (with_reducible show InvEndN _ _ _ _ _ _ _)); (fail_if_success (with_reducible show wpAny _ _ (exec (Stmt.While _ _ _ _) _) _ _ _)); (fail_if_success (with_reducible show wpAny _ _ (exec (Stmt.For _ _ _ _ _) _) _ _ _)); (fail_if_success (with_reducible show wpAny _ _ (exec (Stmt.Assign _ (PySem.Expr.ListComp _ _ _ _) _) _) _ _ _)); (fail_if_success (with_reducible show wpAny _ _ (eval (PySem.Expr.ListComp _ _ _ _) _) _ _ _)); (first | (k_here; (with_reducible show wpAny _ _ (call (Value.ref 232) [Value.bytes _ _, Value.int _ _] _) _ _ _); k_dflt (refine' PC.use (word_at_ok _ _ (by assumption) (by assumption) _ (by assumption) _ _ _ (by assumption)) ?zh35632k1 ?zh35632k2 ?zh35632k3 ?zh35632k4 ?zh35632k5 ?zh35632kK ?zh35632kd ?zh35632ku ?_); (( (case zh35632k1 => k_asm); (case zh35632k2 => k_asm); (case zh35632k3 => k_asm); (case zh35632k4 => k_asm); (case zh35632k5 => k_asm); (case zh35632kK => first | exact rfl | assumption); (case zh35632kd => (first | exact room_1 hd rfl | exact room_0 hd | ktr_room)); (case zh35632ku => (first | exact unit_3 hu rfl | ktr_units)))); intro vzz ownzz hzz tkzz hRzz hKzz Fzz Nzz hUzz; clear hKzz; (first | (obtain ⟨hVzz, hOzz⟩ := (hRzz : _ = Value.none ∧ _ = []); subst hOzz hVzz; clear hUzz; (try simp only [List.nil_append] at Nzz)) | (obtain ⟨xzz, t1zz, t2zz, hVzz, hOzz⟩ := hRzz; subst hVzz hOzz; (try (have n1zz := hUzz _ (.head _) _ (.head _); have m1zz := Ne.symm n1zz; dsimp only at n1zz m1zz)); (try (have n2zz := hUzz _ (.head _) _ (.tail _ (.head _)); have m2zz := Ne.symm n2zz; dsimp only at n2zz m2zz)); (try (have n3zz := hUzz _ (.head _) _ (.tail _ (.tail _ (.head _))); have m3zz := Ne.symm n3zz; dsimp only at n3zz m3zz)); clear hUzz; (try simp only [List.singleton_append] at Nzz))); (try dsimp only)) | walk1 | (dsimp only; walk1))) | (leave1; walk_say "STEP leave1"; try dsimp only)))
                        exact hret _ _ _ (by assumption)
/-- the count of question marks -/
def cq (l : List Int) : Nat := l.count 63
theorem cq_app (a b : List Int) : cq (a ++ b) = cq a + cq b := List.count_append ..
theorem cq_one_ne {b : Int} (h : b ≠ 63) : cq [b] = 0 := List.count_eq_zero.mpr fun hm => h (List.mem_singleton.mp hm).symm
theorem cq_ws {l : List Int} (h : ∀ k ∈ l, isWS k = true) : cq l = 0 := by
  refine List.count_eq_zero.mpr fun hm => ?_
  have := h 63 hm
  revert this; decide
theorem pe_count : ∀ (l : List Int) (i : Nat), 0 ≤ pe l i → ∃ n : Nat, pe l i = ((i + n : Nat) : Int) ∧ cq (l.drop (n + 1)) + 1 ≤ cq l
  | [], i, h => by rw [pe] at h; omega
  | c :: r, i, h => by
    rw [pe] at h ⊢
    by_cases hw : isWS c = true
    · rw [if_pos hw] at h ⊢
      obtain ⟨n, e, hc⟩ := pe_count r (i + 1) h
      refine ⟨n + 1, by rw [e]; omega, ?_⟩
      rw [List.drop_succ_cons]
      exact Nat.le_trans hc (List.count_le_count_cons ..)
    · rw [if_neg hw] at h ⊢
      by_cases h63 : c = 63
      · rw [if_pos h63]
        refine ⟨0, rfl, ?_⟩
        rw [h63]
        show cq r + 1 ≤ cq (63 :: r)
        unfold cq
        rw [List.count_cons_self]
        exact Nat.le_refl _
      · rw [if_neg h63] at h; omega
theorem partEnd_count {ks : List Int} {j : Nat} (h : 0 ≤ partEnd ks j) : ∃ n : Nat, partEnd ks j = (n : Int) ∧ cq (ks.drop (n + 1)) + 1 ≤ cq (ks.drop j) := by
  obtain ⟨n, e, hc⟩ := pe_count (ks.drop j) j h
  refine ⟨j + n, e, ?_⟩
  rw [List.drop_drop] at hc
  exact hc
/-- a word's begin has three question marks behind it -/
theorem parts_count {ks : List Int} {i : Nat} (h : partsP ks i ≠ none) : sl ks i (i + 2) = [61, 63] ∧ 3 ≤ cq (ks.drop (i + 2)) := by
  unfold partsP at h
  split at h
  · exact absurd rfl h
  · rename_i h1
    split at h
    · exact absurd rfl h
    · rename_i h2
      have m1 : 0 ≤ mk ks i 1 := Int.not_lt.mp fun q => h2 (.inl q)
      have m2 : 0 ≤ mk ks i 2 := Int.not_lt.mp fun q => h2 (.inr (.inl q))
      have m3 : 0 ≤ mk ks i 3 := Int.not_lt.mp fun q => h2 (.inr (.inr q))
      refine ⟨Classical.byContradiction h1, ?_⟩
      obtain ⟨n1, e1, c1⟩ := partEnd_count m1
      obtain ⟨n2, e2, c2⟩ := partEnd_count m2
      obtain ⟨n3, e3, c3⟩ := partEnd_count m3
      have a1 : mk ks i 1 = (n1 : Int) := e1
      have a2 : mk ks i 2 = (n2 : Int) := e2
      rw [a2, show ((n2 : Int) + 1).toNat = n2 + 1 from rfl] at c3
      rw [a1, show ((n1 : Int) + 1).toNat = n1 + 1 from rfl] at c2
      rw [show (mk ks i 0 + 1).toNat = i + 2 from rfl] at c1
      omega
theorem sl_nat (ks : List Int) (x y : Nat) (h : y ≤ ks.length) : sl ks (x : Int) (y : Int) = (ks.drop x).take (y - x) := by
  unfold sl
  rw [clipAt_nat, clipAt_nat, Nat.min_eq_left h]
  by_cases hx : x ≤ ks.length
  · rw [Nat.min_eq_left hx]
  · rw [Nat.min_eq_right (Nat.le_of_not_le hx), List.drop_length, List.drop_eq_nil_of_le (Nat.le_of_not_le hx), List.take_nil, List.take_nil]
theorem sl_mid {X Y Z : List Int} {x y : Nat} (hx : x = X.length) (hy : y = X.length + Y.length) : sl (X ++ Y ++ Z) (x : Int) (y : Int) = Y := by
  subst hx hy
  rw [sl_nat _ _ _ (by simp only [List.length_append]; omega), List.append_assoc, List.drop_left, Nat.add_sub_cancel_left, List.take_left]
theorem pe_run : ∀ (w r : List Int) (i : Nat), (∀ k ∈ w, isWS k = true) → pe (w ++ 63 :: r) i = ((i + w.length : Nat) : Int)
  | [], r, i, _ => by rw [List.nil_append, pe, if_neg (by decide), if_pos rfl]; rfl
  | c :: w, r, i, h => by
    rw [List.cons_append, pe, if_pos (h c (.head _)), pe_run w r (i + 1) fun k hk => h k (.tail _ hk), List.length_cons]
    congr 1; omega
theorem partEnd_run {X w r : List Int} {j : Nat} (hj : j = X.length) (h : ∀ k ∈ w, isWS k = true) : partEnd (X ++ (w ++ 63 :: r)) j = ((X.length + w.length : Nat) : Int) := by
  subst hj
  unfold partEnd
  rw [List.drop_left]
  exact pe_run w r _ h
/-- the octets of a frame with what stands around it -/
def fr (A n w d C : List Int) (b0 b1 b2 b3 b4 b5 : Int) : List Int := A ++ ([b0, b1] ++ n ++ [b2] ++ w ++ [b3] ++ d ++ [b4, b5]) ++ C
theorem fr_drop (A n w d C : List Int) (b0 b1 b2 b3 b4 b5 : Int) : (fr A n w d C b0 b1 b2 b3 b4 b5).drop (A.length + 2) = n ++ ([b2] ++ (w ++ ([b3] ++ (d ++ ([b4, b5] ++ C))))) := by
  unfold fr
  rw [← List.drop_drop, List.append_assoc, List.drop_left]
  simp only [List.append_assoc]
  rfl
theorem fr_count {A n w d C : List Int} {b0 b1 b2 b3 b4 b5 : Int} (hn : ∀ k ∈ n, isWS k = true) (hw : ∀ k ∈ w, isWS k = true) (hd : ∀ k ∈ d, isWS k = true) (hC : cq C = 0) (h5 : b5 ≠ 63) :
    cq ((fr A n w d C b0 b1 b2 b3 b4 b5).drop (A.length + 2)) = cq [b2] + cq [b3] + cq [b4] := by
  rw [fr_drop]
  simp only [cq_app]
  rw [cq_ws hn, cq_ws hw, cq_ws hd, hC]
  have : cq [b4, b5] = cq [b4] := by rw [show [b4, b5] = [b4] ++ [b5] from rfl, cq_app, cq_one_ne h5]; rfl
  rw [this]; omega
theorem cq_one (b : Int) : cq [b] ≤ 1 := by unfold cq; exact List.count_le_length ..
/-- where else than at its begin no word stands -/
theorem fr_else {A n w d C : List Int} {b0 b1 b2 b3 b4 b5 : Int} (hA : A ∈ aheadsB) (hn : ∀ k ∈ n, isWS k = true) (hw : ∀ k ∈ w, isWS k = true) (hd : ∀ k ∈ d, isWS k = true) (hC : cq C = 0) (h5 : b5 ≠ 63) (h0 : b0 ≠ 63) {i : Nat} (hi : i ≠ A.length) :
    partsP (fr A n w d C b0 b1 b2 b3 b4 b5) i = none := by
  refine Classical.byContradiction fun hne => ?_
  obtain ⟨hs, hc⟩ := parts_count hne
  have hcnt := fr_count (A := A) (b0 := b0) (b1 := b1) (b2 := b2) (b3 := b3) (b4 := b4) hn hw hd hC h5
  have c2 := cq_one b2
  have c3 := cq_one b3
  have c4 := cq_one b4
  generalize hK : fr A n w d C b0 b1 b2 b3 b4 b5 = K at *
  have hl : i + 2 ≤ K.length := by
    refine Nat.le_of_not_lt fun hlt => ?_
    rw [List.drop_eq_nil_of_le (Nat.le_of_lt hlt)] at hc
    exact absurd hc (by decide)
  rw [show ((i : Int) + 2) = ((i + 2 : Nat) : Int) from rfl, sl_nat _ _ _ hl, Nat.add_sub_cancel_left] at hs
  rcases Nat.lt_or_gt_of_ne hi with hlt | hgt
  · -- ahead
    have e : K = A ++ (b0 :: (b1 :: (n ++ ([b2] ++ (w ++ ([b3] ++ (d ++ ([b4, b5] ++ C)))))))) := by rw [← hK]; unfold fr; simp
    have hall : ∀ A ∈ aheadsB, ∀ i < A.length, ∀ b : Int, b ≠ 63 → ∀ r : List Int, ((A ++ b :: r).drop i).take 2 ≠ [61, 63] := by
      intro A hA i hi b hb r
      unfold aheadsB at hA
      simp only [List.mem_cons, List.not_mem_nil, or_false] at hA
      rcases hA with rfl | rfl | rfl | rfl | rfl | rfl | rfl | rfl | rfl | rfl <;> first
        | exact absurd hi (Nat.not_lt_zero _)
        | (match i, hi with
          | 0, _ => simp [hb]
          | 1, hi => first | exact absurd hi (by decide) | simp [hb]
          | n + 2, hi => exact absurd hi (by simp))
    rw [e] at hs
    exact hall A hA i hlt b0 h0 _ hs
  · -- behind: one more question mark than there are
    have h1 : cq (K.drop (i + 1)) = cq (K.drop (i + 2)) + 1 := by
      have hd1 : K.drop i = 61 :: 63 :: K.drop (i + 2) := by
        have := List.take_append_drop 2 (K.drop i)
        rw [hs, List.drop_drop] at this
        exact this.symm
      have : K.drop (i + 1) = 63 :: K.drop (i + 2) := by rw [← List.drop_drop, hd1]; rfl
      rw [this]; unfold cq; rw [List.count_cons_self]
    have h2 : cq (K.drop (i + 1)) ≤ cq (K.drop (A.length + 2)) := by
      have : K.drop (i + 1) = (K.drop (A.length + 2)).drop (i + 1 - (A.length + 2)) := by rw [List.drop_drop]; congr 1; omega
      rw [this]
      exact (List.drop_sublist _ _).count_le _
    omega

/-- the parts of a whole frame -/
theorem fr_marks {A n w d C : List Int} {b4 b5 : Int} (hn : ∀ k ∈ n, isWS k = true) (hw : ∀ k ∈ w, isWS k = true) (hd : ∀ k ∈ d, isWS k = true) (h4 : b4 = 63) :
    mk (fr A n w d C 61 63 63 63 b4 b5) A.length 1 = ((A.length + 2 + n.length : Nat) : Int) ∧ mk (fr A n w d C 61 63 63 63 b4 b5) A.length 2 = ((A.length + 3 + n.length + w.length : Nat) : Int) ∧ mk (fr A n w d C 61 63 63 63 b4 b5) A.length 3 = ((A.length + 4 + n.length + w.length + d.length : Nat) : Int) := by
  subst h4
  generalize hK : fr A n w d C 61 63 63 63 63 b5 = K
  have e1 : K = (A ++ [61, 63]) ++ (n ++ 63 :: (w ++ 63 :: (d ++ 63 :: b5 :: C))) := by rw [← hK]; unfold fr; simp
  have e2 : K = (A ++ [61, 63] ++ n ++ [63]) ++ (w ++ 63 :: (d ++ 63 :: b5 :: C)) := by rw [e1]; simp
  have e3 : K = (A ++ [61, 63] ++ n ++ [63] ++ w ++ [63]) ++ (d ++ 63 :: b5 :: C) := by rw [e1]; simp
  have m1 : mk K A.length 1 = ((A.length + 2 + n.length : Nat) : Int) := by
    show partEnd K ((A.length : Int) + 1 + 1).toNat = _
    rw [show ((A.length : Int) + 1 + 1).toNat = A.length + 2 from rfl, e1, partEnd_run (by simp) hn]
    simp
  have m2 : mk K A.length 2 = ((A.length + 3 + n.length + w.length : Nat) : Int) := by
    show partEnd K (mk K A.length 1 + 1).toNat = _
    rw [m1, show (((A.length + 2 + n.length : Nat) : Int) + 1).toNat = A.length + 2 + n.length + 1 from rfl]
    conv => lhs; rw [e2]
    rw [partEnd_run (by simp only [List.length_append, List.length_cons, List.length_nil] <;> omega) hw]
    simp only [List.length_append, List.length_cons, List.length_nil]; congr 1; omega
  refine ⟨m1, m2, ?_⟩
  show partEnd K (mk K A.length 2 + 1).toNat = _
  rw [m2, show (((A.length + 3 + n.length + w.length : Nat) : Int) + 1).toNat = A.length + 3 + n.length + w.length + 1 from rfl]
  conv => lhs; rw [e3]
  rw [partEnd_run (by simp only [List.length_append, List.length_cons, List.length_nil] <;> omega) hd]
  simp only [List.length_append, List.length_cons, List.length_nil]; congr 1; omega
theorem fr_end {A n w d C : List Int} {b5 : Int} : sl (fr A n w d C 61 63 63 63 63 b5) ((A.length + 4 + n.length + w.length + d.length : Nat) : Int) (((A.length + 4 + n.length + w.length + d.length : Nat) : Int) + 2) = [63, b5] := by
  have e : fr A n w d C 61 63 63 63 63 b5 = (A ++ [61, 63] ++ n ++ [63] ++ w ++ [63] ++ d) ++ [63, b5] ++ C := by unfold fr; simp
  rw [e]
  refine sl_mid (y := A.length + 4 + n.length + w.length + d.length + 2) ?_ ?_ <;> simp only [List.length_append, List.length_cons, List.length_nil] <;> omega
theorem fr_begin {A n w d C : List Int} {b0 b1 b2 b3 b4 b5 : Int} : sl (fr A n w d C b0 b1 b2 b3 b4 b5) (A.length : Int) ((A.length : Int) + 2) = [b0, b1] := by
  have e : fr A n w d C b0 b1 b2 b3 b4 b5 = A ++ [b0, b1] ++ (n ++ [b2] ++ w ++ [b3] ++ d ++ [b4, b5] ++ C) := by unfold fr; simp
  rw [e]
  exact sl_mid (y := A.length + 2) rfl rfl
theorem fr_whole {A n w d C : List Int} (hn : ∀ k ∈ n, isWS k = true) (hw : ∀ k ∈ w, isWS k = true) (hd : ∀ k ∈ d, isWS k = true) :
    partsP (fr A n w d C 61 63 63 63 63 61) A.length = some (n, w, d, ((A.length + 6 + n.length + w.length + d.length : Nat) : Int)) := by
  obtain ⟨m1, m2, m3⟩ := fr_marks (A := A) (C := C) (b5 := 61) hn hw hd rfl
  unfold partsP
  rw [if_neg (fun h => h fr_begin), m1, m2, m3, if_neg (by omega), if_neg (fun h => h fr_end)]
  have e1 : fr A n w d C 61 63 63 63 63 61 = (A ++ [61, 63]) ++ n ++ (63 :: (w ++ 63 :: (d ++ 63 :: 61 :: C))) := by unfold fr; simp
  have e2 : fr A n w d C 61 63 63 63 63 61 = (A ++ [61, 63] ++ n ++ [63]) ++ w ++ (63 :: (d ++ 63 :: 61 :: C)) := by unfold fr; simp
  have e3 : fr A n w d C 61 63 63 63 63 61 = (A ++ [61, 63] ++ n ++ [63] ++ w ++ [63]) ++ d ++ (63 :: 61 :: C) := by unfold fr; simp
  have s1 : sl (fr A n w d C 61 63 63 63 63 61) (mk (fr A n w d C 61 63 63 63 63 61) A.length 0 + 1) ((A.length + 2 + n.length : Nat) : Int) = n := by
    rw [e1]; refine sl_mid (x := A.length + 2) ?_ ?_ <;> simp only [List.length_append, List.length_cons, List.length_nil]
  have s2 : sl (fr A n w d C 61 63 63 63 63 61) (((A.length + 2 + n.length : Nat) : Int) + 1) ((A.length + 3 + n.length + w.length : Nat) : Int) = w := by
    rw [e2]; refine sl_mid (x := A.length + 2 + n.length + 1) ?_ ?_ <;> simp only [List.length_append, List.length_cons, List.length_nil] <;> omega
  have s3 : sl (fr A n w d C 61 63 63 63 63 61) (((A.length + 3 + n.length + w.length : Nat) : Int) + 1) ((A.length + 4 + n.length + w.length + d.length : Nat) : Int) = d := by
    rw [e3]; refine sl_mid (x := A.length + 3 + n.length + w.length + 1) ?_ ?_ <;> simp only [List.length_append, List.length_cons, List.length_nil] <;> omega
  rw [s1, s2, s3]
  simp only [Option.some.injEq, Prod.mk.injEq, true_and]
  omega
/-- a frame with one octet turned holds no word at its begin -/
theorem fr_turned {A n w d C : List Int} {b0 b1 b2 b3 b4 b5 : Int} (hn : ∀ k ∈ n, isWS k = true) (hw : ∀ k ∈ w, isWS k = true) (hd : ∀ k ∈ d, isWS k = true) (hC : cq C = 0)
    (h : (b0 = 33 ∧ b5 ≠ 63) ∨ (b1 = 33 ∧ b5 ≠ 63) ∨ (b2 = 33 ∧ b5 ≠ 63) ∨ (b3 = 33 ∧ b5 ≠ 63) ∨ (b4 = 33 ∧ b5 ≠ 63) ∨ (b0 = 61 ∧ b1 = 63 ∧ b2 = 63 ∧ b3 = 63 ∧ b4 = 63 ∧ b5 = 33)) :
    partsP (fr A n w d C b0 b1 b2 b3 b4 b5) A.length = none := by
  have key : b5 ≠ 63 → (b2 = 33 ∨ b3 = 33 ∨ b4 = 33) → partsP (fr A n w d C b0 b1 b2 b3 b4 b5) A.length = none := fun h5 hb => by
    refine Classical.byContradiction fun hne => ?_
    have hc := (parts_count hne).2
    rw [fr_count hn hw hd hC h5] at hc
    have c2 := cq_one b2
    have c3 := cq_one b3
    have c4 := cq_one b4
    rcases hb with hb | hb | hb <;> (subst hb; have := cq_one_ne (show (33 : Int) ≠ 63 by decide); omega)
  rcases h with ⟨h, h5⟩ | ⟨h, h5⟩ | ⟨h, h5⟩ | ⟨h, h5⟩ | ⟨h, h5⟩ | ⟨rfl, rfl, rfl, rfl, rfl, rfl⟩
  · unfold partsP; rw [if_pos]; rw [fr_begin, h]; simp
  · unfold partsP; rw [if_pos]; rw [fr_begin, h]; simp
  · exact key h5 (.inl h)
  · exact key h5 (.inr (.inl h))
  · exact key h5 (.inr (.inr h))
  · obtain ⟨m1, m2, m3⟩ := fr_marks (A := A) (C := C) (b5 := 33) hn hw hd rfl
    unfold partsP
    rw [if_neg (fun h => h fr_begin), m1, m2, m3, if_neg (by omega), if_pos]
    rw [fr_end]; decide
/-- the octets that a drawn text may have -/
def S9 : List Int := [97, 32, 66, 63, 95, 61, 195, 169, 233]
def bm (k : Int) : List Int := blanks (markOf k)
theorem bm_all : ∀ k ∈ S9, (∀ x ∈ markOf k, isWS x = true) ∧ ((bm k = [k] ∧ k ≠ 61) ∨ (bm k = [61, (bm k).getD 1 0, (bm k).getD 2 0] ∧ 0 ≤ hexW ((bm k).getD 1 0) ∧ 0 ≤ hexW ((bm k).getD 2 0) ∧ 16 * hexW ((bm k).getD 1 0) + hexW ((bm k).getD 2 0) = k)) := by decide +kernel
theorem blanks_marked (es : List Int) : blanks (marked es) = (es.map bm).flatten := by
  unfold blanks marked
  rw [List.map_flatten, List.map_map]
  rfl
theorem getD_mid (pre r : List Int) (k : Int) : (pre ++ k :: r).getD pre.length 0 = k := by
  rw [List.getD_eq_getElem?_getD, List.getElem?_append_right (Nat.le_refl _), Nat.sub_self]; rfl
theorem unq_marked : ∀ (es pre : List Int), (∀ k ∈ es, k ∈ S9) → unqAll (pre ++ (es.map bm).flatten) pre.length = es
  | [], pre, _ => unqAll_end (by simp)
  | k :: r, pre, h => by
    have hk := (bm_all k (h k (.head _))).2
    have hr : ∀ x ∈ r, x ∈ S9 := fun x hx => h x (.tail _ hx)
    rw [List.map_cons, List.flatten_cons]
    rcases hk with ⟨e, hne⟩ | ⟨e, h1, h2, h3⟩
    · rw [e]
      have ih := unq_marked r (pre ++ [k]) hr
      rw [List.length_append, List.append_assoc] at ih
      have hg : (pre ++ ([k] ++ (r.map bm).flatten)).getD pre.length 0 = k := getD_mid ..
      rw [unqAll_plain (by simp) (.inl (by rw [hg]; exact hne)), hg]
      exact congrArg (k :: ·) ih
    · rw [e]
      generalize (bm k).getD 1 0 = x at *
      generalize (bm k).getD 2 0 = y at *
      have ih := unq_marked r (pre ++ [61, x, y]) hr
      rw [List.length_append, List.append_assoc] at ih
      have g0 : (pre ++ ([61, x, y] ++ (r.map bm).flatten)).getD pre.length 0 = 61 := getD_mid ..
      have g1 : (pre ++ ([61, x, y] ++ (r.map bm).flatten)).getD (pre.length + 1) 0 = x := by
        have := getD_mid (pre ++ [61]) (y :: (r.map bm).flatten) x
        rw [List.append_assoc, List.length_append] at this; exact this
      have g2 : (pre ++ ([61, x, y] ++ (r.map bm).flatten)).getD (pre.length + 2) 0 = y := by
        have := getD_mid (pre ++ [61, x]) ((r.map bm).flatten) y
        rw [List.append_assoc, List.length_append] at this; exact this
      have hq : quotedAt (pre ++ ([61, x, y] ++ (r.map bm).flatten)) pre.length = k := by
        unfold quotedAt
        rw [if_neg (by simp), g1, g2, if_pos ⟨h1, h2⟩, h3]
      rw [unqAll_quoted (by simp) g0 (by rw [hq]; omega), hq]
      exact congrArg (k :: ·) ih
/-- the signs' codes -/
def codeOk (c : Str) (y : Int) : Prop := y ∈ ([97, 32, 66, 63, 95, 61] : List Int) ∨ (y = 233 ∧ c ≠ Str.ofString "us-ascii")
theorem words_codes {c : Str} {xs : List Nat} (h : WordsOk c xs) : ∀ y ∈ xs.map Int.ofNat, codeOk c y := by
  intro y hy
  obtain ⟨k, hk, rfl⟩ := List.mem_map.mp hy
  rcases h.2 k hk with hm | ⟨e, hne⟩
  · left
    exact (by decide : ∀ k ∈ [97, 32, 66, 63, 95, 61], Int.ofNat k ∈ ([97, 32, 66, 63, 95, 61] : List Int)) k hm
  · right; exact ⟨by rw [e]; rfl, hne⟩
theorem enc_u8 : u8enc 233 = [195, 169] ∧ ∀ y ∈ ([97, 32, 66, 63, 95, 61] : List Int), u8enc y = [y] ∧ y < 128 ∧ 0 ≤ y := by decide +kernel
theorem text_of {c : Str} (h3 : c = Str.ofString "utf-8" ∨ c = Str.ofString "us-ascii" ∨ c = Str.ofString "iso-8859-1") : ∀ (ys pre : List Int), (∀ y ∈ ys, codeOk c y) → TextIs c (pre ++ encT c ys) pre.length ys
  | [], pre, _ => .done (by simp [encT])
  | y :: r, pre, h => by
    have hy := h y (.head _)
    have hr : ∀ x ∈ r, codeOk c x := fun x hx => h x (.tail _ hx)
    have e : encT c (y :: r) = encS c y ++ encT c r := by simp [encT]
    rw [e]
    have ih := text_of h3 r (pre ++ encS c y) hr
    rw [List.append_assoc] at ih
    have one : encS c y = [y] → SignIs c (pre ++ (encS c y ++ encT c r)) pre.length ((pre ++ (encS c y ++ encT c r)).getD pre.length 0) 1 → 0 ≤ y → y < 256 → TextIs c (pre ++ (encS c y ++ encT c r)) pre.length (y :: r) := fun e1 hs h0 h1 => by
      rw [e1] at hs ih ⊢
      have hg : (pre ++ ([y] ++ encT c r)).getD pre.length 0 = y := getD_mid ..
      rw [hg] at hs
      rw [List.length_append] at ih
      exact .more (by simp) hs h0 h1 (by decide) (by decide) ih
    have hg : ∀ x, encS c y = [x] → (pre ++ (encS c y ++ encT c r)).getD pre.length 0 = x := fun x e1 => by rw [e1]; exact getD_mid ..
    rcases hy with hm | ⟨rfl, hne⟩
    · obtain ⟨e8, hlt, h0⟩ := enc_u8.2 y hm
      have e1 : encS c y = [y] := by unfold encS; split <;> first | exact e8 | rfl
      refine one e1 ?_ h0 (by omega)
      have hgy := hg y e1
      rcases h3 with rfl | rfl | rfl
      · exact .utf1 rfl (by rw [hgy]; exact hlt)
      · exact .ascii rfl (by rw [hgy]; omega)
      · exact .latin rfl
    · rcases h3 with rfl | rfl | rfl
      · have e2 : encS (Str.ofString "utf-8") 233 = [195, 169] := by unfold encS; rw [if_pos rfl]; exact enc_u8.1
        rw [e2] at ih ⊢
        have g0 : (pre ++ ([195, 169] ++ encT (Str.ofString "utf-8") r)).getD pre.length 0 = 195 := getD_mid ..
        have g1 : (pre ++ ([195, 169] ++ encT (Str.ofString "utf-8") r)).getD (pre.length + 1) 0 = 169 := by
          have := getD_mid (pre ++ [195]) (encT (Str.ofString "utf-8") r) 169
          rw [List.append_assoc, List.length_append] at this; exact this
        have hs := SignIs.utf2 (cs := Str.ofString "utf-8") (ks := pre ++ ([195, 169] ++ encT (Str.ofString "utf-8") r)) (i := pre.length) rfl (by rw [g0]; decide) (by rw [g0]; decide) (by simp) (by rw [g1]; decide) (by rw [g1]; decide)
        rw [g0, g1] at hs
        rw [List.length_append] at ih
        exact .more (by simp) hs (by decide) (by decide) (by decide) (by decide) ih
      · exact absurd rfl hne
      · have e1 : encS (Str.ofString "iso-8859-1") 233 = [233] := by unfold encS; rw [if_neg (by decide)]
        exact one e1 (.latin rfl) (by decide) (by decide)
theorem enc_S9 {c : Str} {ys : List Int} (h3 : c = Str.ofString "utf-8" ∨ c = Str.ofString "us-ascii" ∨ c = Str.ofString "iso-8859-1") (h : ∀ y ∈ ys, codeOk c y) : ∀ k ∈ encT c ys, k ∈ S9 := by
  intro k hk
  obtain ⟨l, hl, hk⟩ := List.mem_flatten.mp hk
  obtain ⟨y, hy, rfl⟩ := List.mem_map.mp hl
  unfold encS at hk
  rcases h y hy with hm | ⟨rfl, _⟩
  · have e8 := (enc_u8.2 y hm).1
    rw [e8] at hk
    have : k = y := by split at hk <;> exact List.mem_singleton.mp hk
    rw [this]
    exact (by decide : ∀ y ∈ ([97, 32, 66, 63, 95, 61] : List Int), y ∈ S9) y hm
  · rw [enc_u8.1] at hk
    split at hk
    · exact (by decide : ∀ y ∈ ([195, 169] : List Int), y ∈ S9) k hk
    · exact (by decide : ∀ y ∈ ([233] : List Int), y ∈ S9) k hk
/-- a group's numbers -/
def j6 (cs : List Int) : List Int := (List.range (cs.length + 1)).map fun (j : Nat) => Builtin.bitAnd ((btotal cs).fdiv (2 ^ (18 - 6 * (j : Int)).toNat)) 63
theorem j6_len (cs : List Int) : (j6 cs).length = cs.length + 1 := by unfold j6; rw [List.length_map, List.length_range]
theorem j6_in (cs : List Int) : ∀ j ∈ j6 cs, 0 ≤ j ∧ j < 64 := by
  intro j hj
  obtain ⟨i, _, rfl⟩ := List.mem_map.mp hj
  exact and63 _
theorem bchunk_j6 (cs : List Int) : bchunk cs = (j6 cs).map sg ++ List.replicate (3 - cs.length) 61 := by
  unfold bchunk j6
  rw [List.map_map]
  rfl
theorem grp_j6_a : ∀ a ∈ S9, grp (j6 [a]) = [a] ∧ ∀ b ∈ S9, grp (j6 [a, b]) = [a, b] := by decide +kernel
theorem grp_j6_b : ∀ a ∈ S9, ∀ b ∈ S9, ∀ c ∈ S9, grp (j6 [a, b, c]) = [a, b, c] := by decide +kernel
theorem bits_more (a b c : Int) (r : List Int) : bits (a :: b :: c :: r) = bchunk [a, b, c] ++ bits r := by
  unfold bits
  rw [show (List.length (a :: b :: c :: r) + 2) / 3 = (r.length + 2) / 3 + 1 by simp only [List.length_cons]; omega, List.range_succ_eq_map, List.map_cons, List.flatten_cons, List.map_map]
  rfl
theorem dec_more {l : List Int} (h : l.length = 4) (r : List Int) : dec (l ++ r) = grp l ++ dec r := by
  match l, h with
  | [a, b, c, d], _ =>
    unfold dec
    rw [show (List.length ([a, b, c, d] ++ r) + 3) / 4 = (r.length + 3) / 4 + 1 by simp only [List.length_append, List.length_cons, List.length_nil]; omega, List.range_succ_eq_map, List.map_cons, List.flatten_cons, List.map_map]
    have e0 : dgrp ([a, b, c, d] ++ r) 0 = grp [a, b, c, d] := if_pos (by simp)
    rw [e0]
    refine congrArg (grp [a, b, c, d] ++ ·) (congrArg List.flatten (List.map_congr_left fun k _ => ?_))
    show dgrp ([a, b, c, d] ++ r) (k + 1) = dgrp r k
    have e1 : ([a, b, c, d] ++ r).drop (4 * (k + 1)) = r.drop (4 * k) := by
      rw [show 4 * (k + 1) = 4 + 4 * k by omega, ← List.drop_drop]; rfl
    unfold dgrp
    rw [e1]
    by_cases hk : r.length > 4 * k + 1
    · rw [if_pos hk, if_pos (by rw [List.length_append]; simp only [List.length_cons, List.length_nil]; omega)]
    · rw [if_neg hk, if_neg (by rw [List.length_append]; simp only [List.length_cons, List.length_nil]; omega)]
theorem dec_last {l : List Int} (h : 2 ≤ l.length) (h4 : l.length ≤ 4) : dec l = grp l := by
  unfold dec
  rw [show (l.length + 3) / 4 = 1 by omega]
  show [dgrp l 0].flatten = _
  unfold dgrp
  rw [if_pos (by omega), Nat.mul_zero, List.drop_zero, List.take_of_length_le h4]
  simp
theorem bits_dec : ∀ (es : List Int), (∀ k ∈ es, k ∈ S9) → ∃ (js : List Int) (k : Nat), bits es = js.map sg ++ List.replicate k 61 ∧ (∀ j ∈ js, 0 ≤ j ∧ j < 64) ∧ js.length ≤ 2 * es.length ∧ k ≤ 2 ∧ dec js = es
  | [], _ => ⟨[], 0, rfl, (fun _ h => nomatch h), Nat.le_refl _, by decide, rfl⟩
  | [a], h => ⟨j6 [a], 2, by
      have : bits [a] = bchunk [a] := by unfold bits; simp
      rw [this, bchunk_j6]; rfl, j6_in _, by rw [j6_len]; exact Nat.le_of_ble_eq_true rfl, by decide, by
      rw [dec_last (by rw [j6_len]; exact Nat.le_of_ble_eq_true rfl) (by rw [j6_len]; exact Nat.le_of_ble_eq_true rfl)]
      exact (grp_j6_a a (h a (.head _))).1⟩
  | [a, b], h => ⟨j6 [a, b], 1, by
      have : bits [a, b] = bchunk [a, b] := by unfold bits; simp
      rw [this, bchunk_j6]; rfl, j6_in _, by rw [j6_len]; exact Nat.le_of_ble_eq_true rfl, by decide, by
      rw [dec_last (by rw [j6_len]; exact Nat.le_of_ble_eq_true rfl) (by rw [j6_len]; exact Nat.le_of_ble_eq_true rfl)]
      exact (grp_j6_a a (h a (.head _))).2 b (h b (.tail _ (.head _)))⟩
  | a :: b :: c :: r, h => by
    obtain ⟨js, k, e1, e2, e3, e4, e5⟩ := bits_dec r fun x hx => h x (.tail _ (.tail _ (.tail _ hx)))
    refine ⟨j6 [a, b, c] ++ js, k, ?_, ?_, ?_, e4, ?_⟩
    · rw [bits_more, e1, bchunk_j6, List.map_append, List.append_assoc]
      rfl
    · intro j hj
      exact (List.mem_append.mp hj).elim (j6_in _ j) (e2 j)
    · rw [List.length_append, j6_len]; simp only [List.length_cons, List.length_nil]; omega
    · rw [dec_more (j6_len _), e5, grp_j6_b a (h a (.head _)) b (h b (.tail _ (.head _))) c (h c (.tail _ (.tail _ (.head _))))]
      rfl
/-- what stands around the word -/
theorem apart_ahead : ∀ A ∈ aheadsB, apA A = (decide (A.length = 0) || isWhite (A.getD (A.length - 1) 0) || A.getD (A.length - 1) 0 == 40) := by decide +kernel
theorem apart_behind : ∀ C ∈ behindsB, apC C = (decide (C.length = 0) || isWhite (C.getD 0 0) || C.getD 0 0 == 41) ∧ cq C = 0 := by decide +kernel
theorem apart_is {A B C : List Int} (hA : A ∈ aheadsB) (hC : C ∈ behindsB) {e : Nat} (he : e = A.length + B.length) : apart (A ++ B ++ C) A.length e = apartB A C := by
  subst he
  unfold apart apartB
  rw [apart_ahead A hA, (apart_behind C hC).1]
  congr 1
  · by_cases h0 : A.length = 0
    · rw [decide_eq_true h0]; simp
    · have : (A ++ B ++ C).getD (A.length - 1) 0 = A.getD (A.length - 1) 0 := by
        rw [List.getD_eq_getElem?_getD, List.getD_eq_getElem?_getD, List.append_assoc, List.getElem?_append_left (by omega)]
      rw [this]
  · have h1 : (A ++ B ++ C).getD (A.length + B.length) 0 = C.getD 0 0 := by
      rw [List.getD_eq_getElem?_getD, List.getD_eq_getElem?_getD, List.getElem?_append_right (by rw [List.length_append]; exact Nat.le_refl _), List.length_append, Nat.sub_self]
    have h2 : decide (A.length + B.length = (A ++ B ++ C).length) = decide (C.length = 0) := by
      rw [List.length_append, List.length_append]
      exact decide_eq_decide.mpr (by omega)
    rw [h1, h2]
theorem names_word : ∀ p ∈ names5, (∀ k ∈ p.1.cps.toList.map Int.ofNat, isWS k = true) ∧ charsetOf (p.1.cps.toList.map Int.ofNat) = p.2 ∧ charsetOf (33 :: (p.1.cps.toList.map Int.ofNat).tail) = Str.ofString "" ∧
    ((starHead (p.1.cps.toList.map Int.ofNat)).cps.size ≤ 1000 ∧ ∀ c ∈ (starHead (p.1.cps.toList.map Int.ofNat)).cps.toList, c < 1000) ∧ ((starHead (33 :: (p.1.cps.toList.map Int.ofNat).tail)).cps.size ≤ 1000 ∧ ∀ c ∈ (starHead (33 :: (p.1.cps.toList.map Int.ofNat).tail)).cps.toList, c < 1000) ∧ p.1.cps.toList.map Int.ofNat = (p.1.cps.toList.map Int.ofNat).headD 0 :: (p.1.cps.toList.map Int.ofNat).tail := by decide +kernel
theorem ways_word : ∀ w ∈ ways4, (∀ k ∈ w.cps.toList.map Int.ofNat, isWS k = true) ∧ w.cps.toList.map Int.ofNat = [(w.cps.toList.map Int.ofNat).headD 0] ∧
    wayOf (w.cps.toList.map Int.ofNat) = (if (Builtin.Str.occurrences (Str.ofString "Qq") w 0 (Str.ofString "Qq").length 1).isEmpty = true then Str.ofString "B" else Str.ofString "Q") := by decide +kernel
theorem way_33 : wayOf [33] ≠ Str.ofString "Q" ∧ wayOf [33] ≠ Str.ofString "B" := by decide +kernel
theorem sg_ws (j : Int) (h0 : 0 ≤ j) (h : j < 64) : isWS (sg j) = true := by
  have : ∀ k < 64, isWS (sigs.getD k 0) = true := by decide +kernel
  exact this j.toNat (by omega)
theorem body_ws {way : Str} {es : List Int} (h : ∀ k ∈ es, k ∈ S9) : ∀ k ∈ bodyN way es, isWS k = true := by
  intro k hk
  unfold bodyN at hk
  split at hk
  · obtain ⟨js, n, e1, e2, _⟩ := bits_dec es h
    rw [e1] at hk
    rcases List.mem_append.mp hk with hk | hk
    · obtain ⟨j, hj, rfl⟩ := List.mem_map.mp hk
      exact sg_ws j (e2 j hj).1 (e2 j hj).2
    · rw [(List.mem_replicate.mp hk).2]; decide
  · obtain ⟨l, hl, hk⟩ := List.mem_flatten.mp hk
    obtain ⟨x, hx, rfl⟩ := List.mem_map.mp hl
    exact (bm_all x (h x hx)).1 k hk
theorem row_of {c way : Str} {ys : List Int} (h3 : c = Str.ofString "utf-8" ∨ c = Str.ofString "us-ascii" ∨ c = Str.ofString "iso-8859-1") (hy : ∀ y ∈ ys, codeOk c y) (hl : ys.length ≤ 6) (hw : way ∈ ways4) : RowIs c (way.cps.toList.map Int.ofNat) (bodyN way (encT c ys)) ys := by
  have hS := enc_S9 h3 hy
  have hT := text_of h3 ys [] hy
  rw [List.nil_append] at hT
  have hL := encT_len c ys
  have hway := (ways_word way hw).2.2
  unfold bodyN
  split
  · rename_i hb
    rw [if_pos hb] at hway
    obtain ⟨js, n, e1, e2, e3, e4, e5⟩ := bits_dec _ hS
    exact .b js n hway e1 e2 (by omega) (by omega) (by rw [e5]; omega) (by rw [e5]; exact hT)
  · rename_i hb
    rw [if_neg hb] at hway
    have e : unqAll (blanks (marked (encT c ys))) 0 = encT c ys := by
      rw [blanks_marked]
      exact unq_marked _ [] hS
    exact .q hway (by rw [e]; omega) (by rw [e]; exact hT)
theorem bent_split {W P R : List Int} {y sp : Int} (h : W = P ++ y :: R) (hs : sp = (P.length : Int)) : bentN W sp = P ++ 33 :: R := by
  subst h hs
  unfold bentN
  rw [if_neg (by omega), Int.toNat_natCast, List.take_left, List.append_assoc, ← List.drop_drop, List.drop_left]
  rfl
theorem word_is (nm way c : Str) (xs : List Nat) : wordN nm way c xs = [61, 63] ++ nm.cps.toList.map Int.ofNat ++ [63] ++ way.cps.toList.map Int.ofNat ++ [63] ++ bodyN way (encT c (xs.map Int.ofNat)) ++ [63, 61] := by
  unfold wordN frameN
  simp only [List.map_append]
  rfl
theorem frame_is (nm way : Str) : ((frameN nm way).length : Int) = ((2 + (nm.cps.toList.map Int.ofNat).length + 1 + (way.cps.toList.map Int.ofNat).length + 1 : Nat) : Int) := by
  unfold frameN
  simp only [List.length_append, List.length_map, List.length_cons, List.length_nil]
/-- how the octets stand, spot by spot -/
inductive Turned (N Y D : List Int) : Int → List Int → Prop
  | whole : Turned N Y D (-1) ([61, 63] ++ N ++ [63] ++ Y ++ [63] ++ D ++ [63, 61])
  | name {sp : Int} : 0 ≤ sp → Turned N Y D sp ([61, 63] ++ (33 :: N.tail) ++ [63] ++ Y ++ [63] ++ D ++ [63, 61])
  | way {sp : Int} : 0 ≤ sp → Turned N Y D sp ([61, 63] ++ N ++ [63] ++ [33] ++ [63] ++ D ++ [63, 61])
  | mark {sp b0 b1 b2 b3 b4 b5 : Int} : 0 ≤ sp → b0 ≠ 63 → ((b0 = 33 ∧ b5 ≠ 63) ∨ (b1 = 33 ∧ b5 ≠ 63) ∨ (b2 = 33 ∧ b5 ≠ 63) ∨ (b3 = 33 ∧ b5 ≠ 63) ∨ (b4 = 33 ∧ b5 ≠ 63) ∨ (b0 = 61 ∧ b1 = 63 ∧ b2 = 63 ∧ b3 = 63 ∧ b4 = 63 ∧ b5 = 33)) → b5 ≠ 63 → Turned N Y D sp ([b0, b1] ++ N ++ [b2] ++ Y ++ [b3] ++ D ++ [b4, b5])
theorem turned {nm way c : Str} {xs : List Nat} (h : (nm, c) ∈ names5 ∧ WordsOk c xs ∧ way ∈ ways4) {sp : Int} (hs : sp ∈ spotsAll nm way (wordN nm way c xs)) :
    Turned (nm.cps.toList.map Int.ofNat) (way.cps.toList.map Int.ofNat) (bodyN way (encT c (xs.map Int.ofNat))) sp (bentN (wordN nm way c xs) sp) := by
  obtain ⟨hn, _, hw⟩ := h
  have hN := (names_word _ hn).2.2.2.2.2
  have hY := (ways_word _ hw).2.1
  unfold spotsAll spotsN at hs
  rw [frame_is, word_is] at hs
  rw [word_is]
  dsimp only at hN
  generalize nm.cps.toList.map Int.ofNat = N at *
  generalize way.cps.toList.map Int.ofNat = Y at *
  generalize bodyN way (encT c (xs.map Int.ofNat)) = D at *
  generalize N.headD 0 = n0 at *
  generalize Y.headD 0 = y0 at *
  have hYl : Y.length = 1 := by rw [hY]; rfl
  have hWl : (([61, 63] ++ N ++ [63] ++ Y ++ [63] ++ D ++ [63, 61]).length : Int) = ((4 + N.length + Y.length + D.length : Nat) : Int) + 2 := by
    simp only [List.length_append, List.length_cons, List.length_nil]; clear hs hN hY; omega
  rw [hWl, hYl] at hs
  clear hWl
  have e2 : [61, 63] ++ N ++ [63] ++ Y ++ [63] ++ D ++ [63, 61] = [61, 63] ++ n0 :: (N.tail ++ [63] ++ Y ++ [63] ++ D ++ [63, 61]) := by
    conv => lhs; rw [hN]
    simp only [List.append_assoc, List.cons_append]
  have e3 : [61, 63] ++ N ++ [63] ++ Y ++ [63] ++ D ++ [63, 61] = [61, 63] ++ N ++ [63] ++ y0 :: ([63] ++ D ++ [63, 61]) := by
    conv => lhs; rw [hY]
    simp only [List.append_assoc, List.cons_append, List.nil_append]
  clear hN hY
  have hs9 : sp = -1 ∨ (sp = 0 ∨ sp = 1 ∨ sp = 2 ∨ sp = ((2 + N.length + 1 + 1 + 1 : Nat) : Int) - 3 ∨ sp = ((2 + N.length + 1 + 1 + 1 : Nat) : Int) - 2 ∨ sp = ((2 + N.length + 1 + 1 + 1 : Nat) : Int) - 1) ∨ sp = ((4 + N.length + 1 + D.length : Nat) : Int) + 2 - 2 ∨ sp = ((4 + N.length + 1 + D.length : Nat) : Int) + 2 - 1 := by
    rcases List.mem_append.mp hs with hs | hs
    · rcases List.mem_append.mp hs with hs | hs
      · exact .inl ((by decide : ∀ x ∈ (List.replicate (Int.toNat 6) [(-1 : Int)]).flatten, x = -1) sp hs)
      · simp only [List.mem_cons, List.not_mem_nil, or_false] at hs
        exact .inr (.inl hs)
    · simp only [List.mem_cons, List.not_mem_nil, or_false] at hs
      exact .inr (.inr hs)
  clear hs
  rcases hs9 with rfl | (rfl | rfl | rfl | hs | hs | hs) | hs | hs
  · exact .whole
  · rw [bent_split (W := [61, 63] ++ N ++ [63] ++ Y ++ [63] ++ D ++ [63, 61]) (P := []) (sp := 0) (y := 61) (R := [63] ++ N ++ [63] ++ Y ++ [63] ++ D ++ [63, 61]) (by simp) rfl]
    exact .mark (b0 := 33) (b1 := 63) (b2 := 63) (b3 := 63) (b4 := 63) (b5 := 61) (by decide) (by decide) (.inl ⟨rfl, by decide⟩) (by decide)
  · rw [bent_split (W := [61, 63] ++ N ++ [63] ++ Y ++ [63] ++ D ++ [63, 61]) (P := [61]) (sp := 1) (y := 63) (R := N ++ [63] ++ Y ++ [63] ++ D ++ [63, 61]) (by simp) rfl]
    exact .mark (b0 := 61) (b1 := 33) (b2 := 63) (b3 := 63) (b4 := 63) (b5 := 61) (by decide) (by decide) (.inr (.inl ⟨rfl, by decide⟩)) (by decide)
  · rw [bent_split (W := [61, 63] ++ N ++ [63] ++ Y ++ [63] ++ D ++ [63, 61]) (P := [61, 63]) (sp := 2) (y := n0) (R := N.tail ++ [63] ++ Y ++ [63] ++ D ++ [63, 61]) e2 rfl]
    have := Turned.name (N := N) (Y := Y) (D := D) (sp := 2) (by decide)
    simpa using this
  · have h0 : 0 ≤ sp := by clear e2 e3; omega
    rw [bent_split (W := [61, 63] ++ N ++ [63] ++ Y ++ [63] ++ D ++ [63, 61]) (P := [61, 63] ++ N) (y := 63) (R := Y ++ [63] ++ D ++ [63, 61]) (by simp) (by simp only [List.length_append, List.length_cons, List.length_nil]; clear e2 e3; omega)]
    have := Turned.mark (N := N) (Y := Y) (D := D) (sp := sp) (b0 := 61) (b1 := 63) (b2 := 33) (b3 := 63) (b4 := 63) (b5 := 61) h0 (by decide) (.inr (.inr (.inl ⟨rfl, by decide⟩))) (by decide)
    simpa using this
  · have h0 : 0 ≤ sp := by clear e2 e3; omega
    rw [bent_split (W := [61, 63] ++ N ++ [63] ++ Y ++ [63] ++ D ++ [63, 61]) (P := [61, 63] ++ N ++ [63]) (y := y0) (R := [63] ++ D ++ [63, 61]) e3 (by simp only [List.length_append, List.length_cons, List.length_nil, hYl]; clear e2 e3; omega)]
    have := Turned.way (N := N) (Y := Y) (D := D) (sp := sp) h0
    simpa using this
  · have h0 : 0 ≤ sp := by clear e2 e3; omega
    rw [bent_split (W := [61, 63] ++ N ++ [63] ++ Y ++ [63] ++ D ++ [63, 61]) (P := [61, 63] ++ N ++ [63] ++ Y) (y := 63) (R := D ++ [63, 61]) (by simp) (by simp only [List.length_append, List.length_cons, List.length_nil, hYl]; clear e2 e3; omega)]
    have := Turned.mark (N := N) (Y := Y) (D := D) (sp := sp) (b0 := 61) (b1 := 63) (b2 := 63) (b3 := 33) (b4 := 63) (b5 := 61) h0 (by decide) (.inr (.inr (.inr (.inl ⟨rfl, by decide⟩)))) (by decide)
    simpa using this
  · have h0 : 0 ≤ sp := by clear e2 e3; omega
    rw [bent_split (W := [61, 63] ++ N ++ [63] ++ Y ++ [63] ++ D ++ [63, 61]) (P := [61, 63] ++ N ++ [63] ++ Y ++ [63] ++ D) (y := 63) (R := [61]) (by simp) (by simp only [List.length_append, List.length_cons, List.length_nil, hYl]; clear e2 e3; omega)]
    have := Turned.mark (N := N) (Y := Y) (D := D) (sp := sp) (b0 := 61) (b1 := 63) (b2 := 63) (b3 := 63) (b4 := 33) (b5 := 61) h0 (by decide) (.inr (.inr (.inr (.inr (.inl ⟨rfl, by decide⟩))))) (by decide)
    simpa using this
  · have h0 : 0 ≤ sp := by clear e2 e3; omega
    rw [bent_split (W := [61, 63] ++ N ++ [63] ++ Y ++ [63] ++ D ++ [63, 61]) (P := [61, 63] ++ N ++ [63] ++ Y ++ [63] ++ D ++ [63]) (y := 61) (R := []) (by simp) (by simp only [List.length_append, List.length_cons, List.length_nil, hYl]; clear e2 e3; omega)]
    have := Turned.mark (N := N) (Y := Y) (D := D) (sp := sp) (b0 := 61) (b1 := 63) (b2 := 63) (b3 := 63) (b4 := 63) (b5 := 33) h0 (by decide) (.inr (.inr (.inr (.inr (.inr ⟨rfl, rfl, rfl, rfl, rfl, rfl⟩))))) (by decide)
    simpa using this
theorem plain_law : PlainLaw := by
  intro nm c way xs A C sp hpar hA hC hsp
  have hT := turned hpar hsp
  obtain ⟨hn, hx, hw⟩ := hpar
  have hnw := names_word _ hn
  have hww := ways_word _ hw
  have h3 := names_cs hn
  have hy := words_codes hx
  have hrow := row_of h3 hy (by rw [List.length_map]; exact hx.1) hw
  have hD := body_ws (way := way) (enc_S9 h3 hy)
  have hC0 := (apart_behind C hC).2
  have hWl : (wordN nm way c xs).length = 6 + (nm.cps.toList.map Int.ofNat).length + (way.cps.toList.map Int.ofNat).length + (bodyN way (encT c (xs.map Int.ofNat))).length := by
    rw [word_is]; simp only [List.length_append, List.length_cons, List.length_nil]; omega
  obtain ⟨hNws, hNc, hNt, hNz, hNz2, hN0⟩ := hnw
  obtain ⟨hYws, hY0, -⟩ := hww
  dsimp only at hNws hNc hNt hNz hNz2 hN0
  generalize hWW : wordN nm way c xs = W at *
  generalize bentN W sp = B at *
  generalize nm.cps.toList.map Int.ofNat = N at *
  generalize way.cps.toList.map Int.ofNat = Y at *
  generalize bodyN way (encT c (xs.map Int.ofNat)) = D at *
  have htail : ∀ k ∈ (33 :: N.tail), isWS k = true := fun k hk => (List.mem_cons.mp hk).elim (fun e => e ▸ (by decide)) fun h => hNws k (List.mem_of_mem_tail h)
  have h33 : ∀ k ∈ ([33] : List Int), isWS k = true := by decide
  cases hT with
  | whole =>
    have hkl : ([61, 63] ++ N ++ [63] ++ Y ++ [63] ++ D ++ [63, 61]).length = 6 + N.length + Y.length + D.length := by simp only [List.length_append, List.length_cons, List.length_nil]; omega
    have hP : partsP (A ++ ([61, 63] ++ N ++ [63] ++ Y ++ [63] ++ D ++ [63, 61]) ++ C) A.length = _ := fr_whole (A := A) (C := C) hNws hYws hD
    have ha : apart (A ++ ([61, 63] ++ N ++ [63] ++ Y ++ [63] ++ D ++ [63, 61]) ++ C) A.length (A.length + 6 + N.length + Y.length + D.length) = apartB A C := apart_is hA hC (by rw [hkl]; omega)
    refine ⟨fun hb => ?_, fun i hi hb => ?_⟩
    · have hb2 : apartB A C = true := by simpa using hb
      have e : A.length + W.length = A.length + 6 + N.length + Y.length + D.length := by omega
      rw [e]
      exact .word hP (ha.trans hb2) hNz.1 hNz.2 (hNc.symm ▸ h3) (hNc.symm ▸ hrow)
    · by_cases hip : i = A.length
      · subst hip
        have hb2 : apartB A C = false := by
          cases hh : apartB A C
          · rfl
          · exact absurd ⟨by rw [hh]; rfl, rfl⟩ hb
        exact .near hP (ha.trans hb2)
      · exact .no (fr_else hA hNws hYws hD hC0 (by decide) (by decide) hip)
  | name h0 =>
    refine ⟨fun hb => absurd hb (by rw [decide_eq_false (by omega)]; simp), fun i hi _ => ?_⟩
    by_cases hip : i = A.length
    · subst hip
      exact .charset (fr_whole (A := A) (C := C) htail hYws hD) hNz2.1 hNz2.2 hNt
    · exact .no (fr_else hA htail hYws hD hC0 (by decide) (by decide) hip)
  | way h0 =>
    refine ⟨fun hb => absurd hb (by rw [decide_eq_false (by omega)]; simp), fun i hi _ => ?_⟩
    by_cases hip : i = A.length
    · subst hip
      exact .way (fr_whole (A := A) (C := C) hNws h33 hD) hNz.1 hNz.2 way_33.1 way_33.2
    · exact .no (fr_else hA hNws h33 hD hC0 (by decide) (by decide) hip)
  | mark h0 hb0 hb hb5 =>
    refine ⟨fun hb => absurd hb (by rw [decide_eq_false (by omega)]; simp), fun i hi _ => ?_⟩
    by_cases hip : i = A.length
    · subst hip
      exact .no (fr_turned hNws hYws hD hC0 hb)
    · exact .no (fr_else hA hNws hYws hD hC0 hb5 hb0 hip)
end Nz
open Nz
set_option maxHeartbeats 4000000 in
theorem PySem.Challenge.cw_nz0298_01_holds : PySem.Challenge.rw_nz0298_01.Holds := by
  w_on; refine holds_law Nz.said fun hsaid => ?_
  refine holds_open (q := viewQ) (loose := looseNames) (Xt := fun s => xlAt viewQ lv s && recOk (RowW.records row) s) (XP := XL viewQ lv) (Yf := Hook.obs hook) (Ya := Hook.val hook) (YP := Hook.says hook) (N := 3626) left (Hook.of hook) (Hook.keeps hook) (fun s e => xl_of s (Bool.and_eq_true_iff.mp e).1) XL.keeps (by rfl) (by rfl) (by rfl) (fun s e => recFacts_of (Bool.and_eq_true_iff.mp e).2) (by rfl) (by first | assumption | decide +kernel) (by decide +kernel) ⟨rfl, rfl, rfl, rfl, rfl, by decide +kernel⟩ ?hw ?hc
  case hw => w_witness2
  k_fill
  intro w s₀ s₁ mg mb G Y fa o pm cd doc dV kV ho hd hcd hD hmg hg args vals as hpre hlay hrd hwl hlo
  have KX := kIn_of Y
  refine Ground.open G ?_
  intro T B D TE TW
  try (refine guard_noD D (by decide +kernel) ?_; clear D)
  try (obtain ⟨_, _, he, B0⟩ := based_of_top T rfl hmg ho hd; have he' : cd = _ := he; subst he'; clear he)
  clear hmg
  wrow_args hpre hlay hrd hwl hlo
  all_goals (
    first | refine callC_kw (enter_call ?_) | refine enter_call ?_ | refine callC_kw (enter_callW ?_) | refine enter_callW ?_ | w_how
    w_top on
    try refine codeAny_mono ?_ (fun _ _ g => GoodW.toG g)
    have K0 := below_caller (Top.heap T)
    w_call any ho hd hcd hD T F
    clear hd
    k_drop
    skip)
  (all_goals try k_fold)
  rename IntsAre _ _ => hI
  rename Heap.IsList _ _ _ => hL
  rename News _ _ _ _ => N0
  rename ¬ _ < _ => hlen
  k_dflt (refine' law_body plain_law w _ mg mb _ _ _ _ _ _ _ (fun _ => none) _ _ _ _ _ _ _ _ ?zho K0 KX T hL hI ?zhn ?zhd ?zhu ?zF N0 ?zret)
  case zho => with_unfolding_all exact rfl
  case zhn => omega
  case zhd => exact Nat.le_of_ble_eq_true rfl
  case zhu => exact Nat.le_of_ble_eq_true rfl
  case zF => exact fr_script F
  case zret =>
    intro h9 tk9 m9 F9
    dsimp only
    refine goodW_bool F9 hg (raisesW_false ?_) ?_
    · wrow_none_raised
    · wrow_post
