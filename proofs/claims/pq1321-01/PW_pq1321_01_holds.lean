import PyProof.Rows.All
import Wide.All
import OpenK.AllK
import Wide.FinOn
import Lean
import PySem.Challenge.RW_pq1321_01

open PySem PySem.W PyProof.Rows
set_option Elab.async false
set_option linter.all false
namespace Mine
noncomputable abbrev vs (x : String) (t : Tok) : Value := .str (Str.ofString x) t
noncomputable abbrev ent (P : Params) (x : String) (t : Tok) (v : Value) : DictEntry := ⟨PyData.keyHash P (Str.ofString x), .str (Str.ofString x) t, v⟩
/-- the function that a statement of the text makes -/
noncomputable def mkFn (st : Option Stmt) (qn md : String) (tk : Tok) (cd : Addr) (df : Value) : Obj := match st with
  | some (.FunctionDef n a b _ _ _ sc _ _ _) => { cls := .type "function", data := .func (PySem.W.fnOf n (Str.ofString qn) a b sc df .none .none (vs md tk) none (.ref cd) .none) }
  | _ => default
noncomputable def inCls (st : Option Stmt) (i : Nat) : Option Stmt := match st with
  | some (.ClassDef _ _ _ b _ _ _ _ _ _ _) => b[i]?
  | _ => none
set_option maxRecDepth 100000 in
noncomputable def K : Params → Frag := fun P =>
  (nat_lit 2, { cls := .none, data := .dict #[] }) ::
  (nat_lit 3, { cls := .type "dict", data := .dict (ent P "__name__" 165 (vs "law_pq1321_01" 577) :: ent P "__doc__" 166 .none :: ent P "__package__" 167 .none :: ent P "__loader__" 168 (.builtin "__main__.__loader__#opaque") :: ent P "__spec__" 169 .none :: ent P "__annotations__" 170 (.ref 6) :: ent P "__builtins__" 171 (.ref 4) :: ent P "__file__" 173 (vs "/claim/cut.py" 172) :: ent P "__cached__" 174 .none :: ent P "_wall" 193 (.ref 21) :: ent P "nearest_whole" 205 (.ref 28) :: ent P "exponent" 215 (.ref 35) :: ent P "whole_text" 227 (.ref 42) :: ent P "special_text" 234 (.ref 49) :: ent P "scaled" 244 (.ref 56) :: ent P "significant" 254 (.ref 63) :: ent P "without_tail" 262 (.ref 70) :: ent P "scientific_text" 274 (.ref 77) :: ent P "fixed_text" 284 (.ref 84) :: ent P "measures" 297 (.ref 91) :: ent P "chosen_form" 314 (.ref 98) :: ent P "formed" 323 (.ref 105) :: ent P "common_texts" 329 (.ref 110) :: ent P "number_text" 338 (.ref 118) :: ent P "Null" 369 (.ref 135) :: ent P "Vector" 411 (.ref 164) :: ent P "character" 418 (.ref 175) :: ent P "is_atomic" 425 (.ref 182) :: ent P "share" 432 (.ref 189) :: ent P "get_attr" 442 (.ref 196) :: ent P "label_text" 450 (.ref 203) :: ent P "level_at" 458 (.ref 210) :: ent P "label_texts" 464 (.ref 215) :: ent P "names_of" 470 (.ref 220) :: ent P "dim_of" 478 (.ref 227) :: ent P "dimnames_of" 484 (.ref 232) :: ent P "class_attr" 492 (.ref 239) :: ent P "make_unique" 509 (.ref 246) :: ent P "new_frame" 517 (.ref 251) :: ent P "frame_rows" 524 (.ref 258) :: ent P "column_names" 530 (.ref 263) :: ent P "row_names" 537 (.ref 270) :: ent P "kept_attrs" 546 (.ref 277) :: ent P "lacking" 553 (.ref 284) :: ent P "pick_items" 564 (.ref 291) :: ent P "picked_labels" 570 (.ref 296) :: ent P "pick_rows" 576 (.ref 301) :: ent P "_law_cards" 589 (.ref 308) :: ent P "_law_card" 597 (.ref 315) :: ent P "_law_is_number" 603 (.ref 320) :: ent P "_law_frame_is" 609 (.ref 325) :: ent P "law" 615 (.ref 330) :: []).toArray 52 }) ::
  (nat_lit 147, { cls := .type "tuple", data := .seq #[.none] }) ::
  (nat_lit 153, { cls := .type "code", data := .fields #[(vs "__init__" 382), (vs "Vector.__init__" 383), (vs "/claim/cut.py" 384), (.int 124 0), (.int 4 0), (.int 0 0), (.int 0 0), (.int 3 0), (.ref 148), (.bool true), (.int 181 0), (.ref 149), .none, (.ref 150), (.ref 151), (.ref 152), (.int 389 0), (.int 124 0), (vs "/claim/cut.py" 390)] }) ::
  (nat_lit 154, mkFn (inCls (Challenge.pw_pq1321_01.main.body[19]?) 0) "Vector.__init__" "vectorcove.values" 339 153 (.ref 147)) ::
  (nat_lit 163, { cls := .type "dict", data := .dict (ent P "__module__" 377 (vs "vectorcove.values" 339) :: ent P "__firstlineno__" 381 (.int 122 380) :: ent P "__init__" 391 (.ref 154) :: ent P "copy" 398 (.ref 161) :: ent P "__static_attributes__" 404 (.ref 162) :: ent P "__dict__" 406 (.ref 165) :: ent P "__weakref__" 408 (.ref 166) :: ent P "__doc__" 409 .none :: []).toArray 4 }) ::
  (nat_lit 164, { cls := .type "type", data := .cls { name := Str.ofString "Vector", bases := [.type "object"], mro := [.ref 164, .type "object"], ns := 163, qualname := Str.ofString "Vector" }, slots := #[none, none, some (vs "Vector" 370), some (vs "Vector" 378), some (.builtin "object.__new__"), some (.bool true)] }) ::
  (nat_lit 174, { cls := .type "code", data := .fields #[(vs "character" 412), (vs "character" 413), (vs "/claim/cut.py" 414), (.int 133 0), (.int 1 0), (.int 0 0), (.int 0 0), (.int 3 0), (.ref 169), (.bool true), (.int 181 0), (.ref 170), .none, (.ref 171), (.ref 172), (.ref 173), (.int 416 0), (.int 133 0), (vs "/claim/cut.py" 417)] }) ::
  (nat_lit 175, mkFn (Challenge.pw_pq1321_01.main.body[20]?) "character" "vectorcove.values" 339 174 .none) ::
  (nat_lit 188, { cls := .type "code", data := .fields #[(vs "share" 426), (vs "share" 427), (vs "/claim/cut.py" 428), (.int 137 0), (.int 1 0), (.int 0 0), (.int 0 0), (.int 3 0), (.ref 183), (.bool true), (.int 181 0), (.ref 184), .none, (.ref 185), (.ref 186), (.ref 187), (.int 430 0), (.int 137 0), (vs "/claim/cut.py" 431)] }) ::
  (nat_lit 189, mkFn (Challenge.pw_pq1321_01.main.body[22]?) "share" "vectorcove.values" 339 188 .none) ::
  (nat_lit 195, { cls := .type "code", data := .fields #[(vs "get_attr" 435), (vs "get_attr" 436), (vs "/claim/cut.py" 437), (.int 142 0), (.int 2 0), (.int 0 0), (.int 0 0), (.int 3 0), (.ref 190), (.bool true), (.int 181 0), (.ref 191), .none, (.ref 192), (.ref 193), (.ref 194), (.int 440 0), (.int 142 0), (vs "/claim/cut.py" 441)] }) ::
  (nat_lit 196, mkFn (Challenge.pw_pq1321_01.main.body[24]?) "get_attr" "vectorcove.attrs" 433 195 .none) ::
  (nat_lit 202, { cls := .type "code", data := .fields #[(vs "label_text" 443), (vs "label_text" 444), (vs "/claim/cut.py" 445), (.int 146 0), (.int 2 0), (.int 0 0), (.int 0 0), (.int 3 0), (.ref 197), (.bool true), (.int 181 0), (.ref 198), .none, (.ref 199), (.ref 200), (.ref 201), (.int 448 0), (.int 146 0), (vs "/claim/cut.py" 449)] }) ::
  (nat_lit 203, mkFn (Challenge.pw_pq1321_01.main.body[25]?) "label_text" "vectorcove.attrs" 433 202 .none) ::
  (nat_lit 214, { cls := .type "code", data := .fields #[(vs "label_texts" 459), (vs "label_texts" 460), (vs "/claim/cut.py" 461), (.int 158 0), (.int 1 0), (.int 0 0), (.int 0 0), (.int 3 0), (.ref 211), (.bool true), (.int 181 0), (.ref 212), .none, .none, .none, (.ref 213), (.int 462 0), (.int 158 0), (vs "/claim/cut.py" 463)] }) ::
  (nat_lit 215, mkFn (Challenge.pw_pq1321_01.main.body[27]?) "label_texts" "vectorcove.attrs" 433 214 .none) ::
  (nat_lit 219, { cls := .type "code", data := .fields #[(vs "names_of" 465), (vs "names_of" 466), (vs "/claim/cut.py" 467), (.int 164 0), (.int 1 0), (.int 0 0), (.int 0 0), (.int 3 0), (.ref 216), (.bool true), (.int 181 0), (.ref 217), .none, .none, .none, (.ref 218), (.int 468 0), (.int 164 0), (vs "/claim/cut.py" 469)] }) ::
  (nat_lit 220, mkFn (Challenge.pw_pq1321_01.main.body[28]?) "names_of" "vectorcove.attrs" 433 219 .none) ::
  (nat_lit 226, { cls := .type "code", data := .fields #[(vs "dim_of" 471), (vs "dim_of" 472), (vs "/claim/cut.py" 473), (.int 180 0), (.int 1 0), (.int 0 0), (.int 0 0), (.int 3 0), (.ref 221), (.bool true), (.int 181 0), (.ref 222), .none, (.ref 223), (.ref 224), (.ref 225), (.int 476 0), (.int 180 0), (vs "/claim/cut.py" 477)] }) ::
  (nat_lit 227, mkFn (Challenge.pw_pq1321_01.main.body[29]?) "dim_of" "vectorcove.attrs" 433 226 .none) ::
  (nat_lit 245, { cls := .type "code", data := .fields #[(vs "make_unique" 495), (vs "make_unique" 496), (vs "/claim/cut.py" 497), (.int 196 0), (.int 2 0), (.int 0 0), (.int 0 0), (.int 3 0), (.ref 240), (.bool true), (.int 181 0), (.ref 241), .none, (.ref 242), (.ref 243), (.ref 244), (.int 507 0), (.int 196 0), (vs "/claim/cut.py" 508)] }) ::
  (nat_lit 246, mkFn (Challenge.pw_pq1321_01.main.body[33]?) "make_unique" "vectorcove.texts" 493 245 .none) ::
  (nat_lit 250, { cls := .type "code", data := .fields #[(vs "new_frame" 512), (vs "new_frame" 513), (vs "/claim/cut.py" 514), (.int 218 0), (.int 3 0), (.int 0 0), (.int 0 0), (.int 3 0), (.ref 247), (.bool true), (.int 181 0), (.ref 248), .none, .none, .none, (.ref 249), (.int 515 0), (.int 218 0), (vs "/claim/cut.py" 516)] }) ::
  (nat_lit 251, mkFn (Challenge.pw_pq1321_01.main.body[35]?) "new_frame" "vectorcove.frames" 510 250 .none) ::
  (nat_lit 257, { cls := .type "code", data := .fields #[(vs "frame_rows" 518), (vs "frame_rows" 519), (vs "/claim/cut.py" 520), (.int 222 0), (.int 1 0), (.int 0 0), (.int 0 0), (.int 3 0), (.ref 252), (.bool true), (.int 181 0), (.ref 253), .none, (.ref 254), (.ref 255), (.ref 256), (.int 522 0), (.int 222 0), (vs "/claim/cut.py" 523)] }) ::
  (nat_lit 258, mkFn (Challenge.pw_pq1321_01.main.body[36]?) "frame_rows" "vectorcove.frames" 510 257 .none) ::
  (nat_lit 262, { cls := .type "code", data := .fields #[(vs "column_names" 525), (vs "column_names" 526), (vs "/claim/cut.py" 527), (.int 226 0), (.int 1 0), (.int 0 0), (.int 0 0), (.int 3 0), (.ref 259), (.bool true), (.int 181 0), (.ref 260), .none, .none, .none, (.ref 261), (.int 528 0), (.int 226 0), (vs "/claim/cut.py" 529)] }) ::
  (nat_lit 263, mkFn (Challenge.pw_pq1321_01.main.body[37]?) "column_names" "vectorcove.frames" 510 262 .none) ::
  (nat_lit 269, { cls := .type "code", data := .fields #[(vs "row_names" 531), (vs "row_names" 532), (vs "/claim/cut.py" 533), (.int 229 0), (.int 1 0), (.int 0 0), (.int 0 0), (.int 3 0), (.ref 264), (.bool true), (.int 181 0), (.ref 265), .none, (.ref 266), (.ref 267), (.ref 268), (.int 535 0), (.int 229 0), (vs "/claim/cut.py" 536)] }) ::
  (nat_lit 270, mkFn (Challenge.pw_pq1321_01.main.body[38]?) "row_names" "vectorcove.frames" 510 269 .none) ::
  (nat_lit 276, { cls := .type "code", data := .fields #[(vs "kept_attrs" 538), (vs "kept_attrs" 539), (vs "/claim/cut.py" 540), (.int 233 0), (.int 1 0), (.int 0 0), (.int 0 0), (.int 3 0), (.ref 271), (.bool true), (.int 181 0), (.ref 272), .none, (.ref 273), (.ref 274), (.ref 275), (.int 544 0), (.int 233 0), (vs "/claim/cut.py" 545)] }) ::
  (nat_lit 277, mkFn (Challenge.pw_pq1321_01.main.body[39]?) "kept_attrs" "vectorcove.frames" 510 276 .none) ::
  (nat_lit 283, { cls := .type "code", data := .fields #[(vs "lacking" 547), (vs "lacking" 548), (vs "/claim/cut.py" 549), (.int 241 0), (.int 1 0), (.int 0 0), (.int 0 0), (.int 3 0), (.ref 278), (.bool true), (.int 181 0), (.ref 279), .none, (.ref 280), (.ref 281), (.ref 282), (.int 551 0), (.int 241 0), (vs "/claim/cut.py" 552)] }) ::
  (nat_lit 284, mkFn (Challenge.pw_pq1321_01.main.body[40]?) "lacking" "vectorcove.frames" 510 283 .none) ::
  (nat_lit 290, { cls := .type "code", data := .fields #[(vs "pick_items" 554), (vs "pick_items" 555), (vs "/claim/cut.py" 556), (.int 245 0), (.int 2 0), (.int 0 0), (.int 0 0), (.int 3 0), (.ref 285), (.bool true), (.int 181 0), (.ref 286), .none, (.ref 287), (.ref 288), (.ref 289), (.int 562 0), (.int 245 0), (vs "/claim/cut.py" 563)] }) ::
  (nat_lit 291, mkFn (Challenge.pw_pq1321_01.main.body[41]?) "pick_items" "vectorcove.frames" 510 290 .none) ::
  (nat_lit 295, { cls := .type "code", data := .fields #[(vs "picked_labels" 565), (vs "picked_labels" 566), (vs "/claim/cut.py" 567), (.int 254 0), (.int 2 0), (.int 0 0), (.int 0 0), (.int 3 0), (.ref 292), (.bool true), (.int 181 0), (.ref 293), .none, .none, .none, (.ref 294), (.int 568 0), (.int 254 0), (vs "/claim/cut.py" 569)] }) ::
  (nat_lit 296, mkFn (Challenge.pw_pq1321_01.main.body[42]?) "picked_labels" "vectorcove.frames" 510 295 .none) ::
  (nat_lit 300, { cls := .type "code", data := .fields #[(vs "pick_rows" 571), (vs "pick_rows" 572), (vs "/claim/cut.py" 573), (.int 270 0), (.int 2 0), (.int 0 0), (.int 0 0), (.int 3 0), (.ref 297), (.bool true), (.int 181 0), (.ref 298), .none, .none, .none, (.ref 299), (.int 574 0), (.int 270 0), (vs "/claim/cut.py" 575)] }) ::
  (nat_lit 301, mkFn (Challenge.pw_pq1321_01.main.body[43]?) "pick_rows" "vectorcove.frames" 510 300 .none) ::
  (nat_lit 307, { cls := .type "code", data := .fields #[(vs "_law_cards" 579), (vs "_law_cards" 580), (vs "/claim/cut.py" 581), (.int 274 0), (.int 1 0), (.int 0 0), (.int 0 0), (.int 3 0), (.ref 302), (.bool true), (.int 181 0), (.ref 303), .none, (.ref 304), (.ref 305), (.ref 306), (.int 587 0), (.int 274 0), (vs "/claim/cut.py" 588)] }) ::
  (nat_lit 308, mkFn (Challenge.pw_pq1321_01.main.body[45]?) "_law_cards" "law_pq1321_01" 577 307 .none) ::
  (nat_lit 314, { cls := .type "code", data := .fields #[(vs "_law_card" 590), (vs "_law_card" 591), (vs "/claim/cut.py" 592), (.int 286 0), (.int 2 0), (.int 0 0), (.int 0 0), (.int 3 0), (.ref 309), (.bool true), (.int 181 0), (.ref 310), .none, (.ref 311), (.ref 312), (.ref 313), (.int 595 0), (.int 286 0), (vs "/claim/cut.py" 596)] }) ::
  (nat_lit 315, mkFn (Challenge.pw_pq1321_01.main.body[46]?) "_law_card" "law_pq1321_01" 577 314 .none) ::
  (nat_lit 319, { cls := .type "code", data := .fields #[(vs "_law_is_number" 598), (vs "_law_is_number" 599), (vs "/claim/cut.py" 600), (.int 288 0), (.int 1 0), (.int 0 0), (.int 0 0), (.int 3 0), (.ref 316), (.bool true), (.int 181 0), (.ref 317), .none, .none, .none, (.ref 318), (.int 601 0), (.int 288 0), (vs "/claim/cut.py" 602)] }) ::
  (nat_lit 320, mkFn (Challenge.pw_pq1321_01.main.body[47]?) "_law_is_number" "law_pq1321_01" 577 319 .none) ::
  (nat_lit 324, { cls := .type "code", data := .fields #[(vs "_law_frame_is" 604), (vs "_law_frame_is" 605), (vs "/claim/cut.py" 606), (.int 290 0), (.int 3 0), (.int 0 0), (.int 0 0), (.int 3 0), (.ref 321), (.bool true), (.int 181 0), (.ref 322), .none, .none, .none, (.ref 323), (.int 607 0), (.int 290 0), (vs "/claim/cut.py" 608)] }) ::
  (nat_lit 325, mkFn (Challenge.pw_pq1321_01.main.body[48]?) "_law_frame_is" "law_pq1321_01" 577 324 .none) ::
  (nat_lit 329, { cls := .type "code", data := .fields #[(vs "law" 610), (vs "law" 611), (vs "/claim/cut.py" 612), (.int 294 0), (.int 1 0), (.int 0 0), (.int 0 0), (.int 3 0), (.ref 326), (.bool true), (.int 181 0), (.ref 327), .none, .none, .none, (.ref 328), (.int 613 0), (.int 294 0), (vs "/claim/cut.py" 614)] }) ::
  (nat_lit 330, mkFn (Challenge.pw_pq1321_01.main.body[49]?) "law" "law_pq1321_01" 577 329 .none) ::
  []
noncomputable def addrs : List Addr := 2 :: 3 :: 147 :: 153 :: 154 :: 163 :: 164 :: 174 :: 175 :: 188 :: 189 :: 195 :: 196 :: 202 :: 203 :: 214 :: 215 :: 219 :: 220 :: 226 :: 227 :: 245 :: 246 :: 250 :: 251 :: 257 :: 258 :: 262 :: 263 :: 269 :: 270 :: 276 :: 277 :: 283 :: 284 :: 290 :: 291 :: 295 :: 296 :: 300 :: 301 :: 307 :: 308 :: 314 :: 315 :: 319 :: 320 :: 324 :: 325 :: 329 :: 330 :: []
theorem as_eq : ∀ P, addrs = (K P).map (·.1) := fun _ => rfl
noncomputable def q : Program := view Challenge.pw_pq1321_01 [49]
noncomputable def lo : List Str := ("_wall" :: "nearest_whole" :: "exponent" :: "whole_text" :: "special_text" :: "scaled" :: "significant" :: "without_tail" :: "scientific_text" :: "fixed_text" :: "measures" :: "chosen_form" :: "formed" :: "common_texts" :: "number_text" :: "Null" :: "Vector" :: "character" :: "is_atomic" :: "share" :: "get_attr" :: "label_text" :: "level_at" :: "label_texts" :: "names_of" :: "dim_of" :: "dimnames_of" :: "class_attr" :: "make_unique" :: "new_frame" :: "frame_rows" :: "column_names" :: "row_names" :: "kept_attrs" :: "lacking" :: "pick_items" :: "picked_labels" :: "pick_rows" :: "_law_cards" :: "_law_card" :: "_law_is_number" :: "_law_frame_is" :: []).map Str.ofString
set_option maxRecDepth 100000 in
set_option maxHeartbeats 0 in
theorem left : LeftO Challenge.rw_pq1321_01.row.prog q lo (fun s => xlAt q [] s && recOk (RowW.records Challenge.rw_pq1321_01.row.toRowW) s) (kHook K addrs as_eq).obs (kHook K addrs as_eq).val 1800 := fun w => by kernel_rfl
set_option maxRecDepth 100000 in
theorem fill (w : World) (h : Heap) : (K w.params).In h → Challenge.rw_pq1321_01 = Challenge.rw_pq1321_01 := by
  k_fill
  intro _
  rfl

theorem ints_dat {news : List (Addr × Obj)} : ∀ {vs : List Value} {ns : List Int}, IntsAre vs ns → DatAll news vs (ns.map Dat.int)
  | _, _, .nil => .nil
  | _, _, .cons _ _ h => .cons (.int _ _) (ints_dat h)
set_option maxRecDepth 100000 in
set_option maxHeartbeats 4000000 in
theorem card_tell {w : World} {mean : ExcName → Option Value} {mg mb : Str → Option Value} {dp un : Nat} {gd : Option (List Code)} {cn : Str} {cs : Scope} {a : Addr} {ccd : Value} {cl : List (Str × Addr)} {outer : List Env} {A₀ : Around} {base h₀ : Heap} {L : Addr} {m : Str → Option Value} {s : Shared} {Q E : Value → Shared → Prop}
    {c : Addr} {cv : List Value} {ck : Nat} {ci : List Int} {rest : List (Addr × Obj)} {many : Int} {t : Tok}
    (B : Below A₀ base outer h₀) (F : Fr h₀ L s.heap m) (X : (Mine.K w.params).In h₀) (T : Top Mine.q (looseW Mine.q Mine.lo) mean mg mb h₀) (hk : cs.kind = .function)
    (hd : dp + 4 < recursionLimit) (hu : un + 400 < cLine) (N : News h₀ L s.heap ((c, listOf cv.toArray ck) :: rest)) (hO : OwnOff rest [c])
    (hci : IntsAre cv ci) (hlen : ci.length ≤ 140) (hm : 0 < many) (hm2 : many ≤ 64)
    (ret : ∀ r t' cv' ck' ci' h' tk', 0 ≤ r → r < many → IntsAre cv' ci' → ci'.length ≤ 140 → Fr h₀ L h' m → News h₀ L h' ((c, listOf cv'.toArray ck') :: rest) → Q (.int r t') { s with heap := h', toks := tk' }) :
    wpAny (model Challenge.rw_pq1321_01.row.prog w) (ktrTop dp un gd cn cs L a ccd cl outer) (call (.ref 315) [.ref c, .int many t]) Q E s := by
  have hda : DatAll [] cv (ci.map Dat.int) := ints_dat hci
  refine wpAny_call ?_
  k_dflt cell_enter
  k_steps
  · exact ret 0 _ cv ck ci _ _ (by omega) hm hci hlen (by assumption) (fun p hp => by rename (News h₀ L _ _) => kN; exact kN p (.tail _ hp))
  · have hl : 0 < cv.length := by
      rcases cv with _ | ⟨v, vs⟩
      · cases hci; simp_all
      · simp
    rename (_ ∧ AllLt _ rest) => l1
    k_dflt (refine' kpa_pop (n := ck) ?F ?N ?U hci hl ?z ?_; (case F => k_asm); (case N => k_asm); (case z => (rw [hci.length, PySem.sizeLine_eq]; omega)); (case U => exact Upd.tail (by refine neN ?_; dsimp only; omega) (Upd.head (fun p hp => hO p hp c (.head _)))))
    intro h' t' F' N' hI'
    k_steps
    rename (News h₀ L _ _) => kN
    exact ret _ _ _ _ ci.dropLast _ _ (Int.fmod_nonneg_of_pos _ hm) (Int.fmod_lt_of_pos _ hm) hI' (by rw [List.length_dropLast]; omega) (by assumption) (cb_drop kN (fun p hp => .tail _ hp))


theorem list_copyM {prog : Program} {w : World} {A : Around} {E : Value → Shared → Prop} {s : Shared} {h₀ : Heap} {L : Addr} {m : Str → Option Value} {news : List (Addr × Obj)} {Q : Value → Shared → Prop} {l : Addr} {vs : List Value} {k : Nat}
    (F : Fr h₀ L s.heap m) (N : News h₀ L s.heap news) (hm : (l, listOf vs.toArray k) ∈ news) (hz : vs.length ≤ 1000)
    (h : ∀ D c h', Fr h₀ L h' m → News h₀ L h' ((D, listOf vs.toArray c) :: news) → (∀ q ∈ news, q.1 < D) → Q (.ref D) { s with heap := h' }) :
    wpAny (model prog w) A (call (.type "list") [.ref l]) Q E s :=
  list_copyK F N ⟨_, (N _ hm).1, rfl, _, rfl⟩ h (by rw [List.size_toArray, PySem.sizeLine_eq]; omega)


local macro_rules | `(tactic| k_room) => `(tactic| ((try simp only [depth_under_make, depth_under_kw, depth_in1, depth_deeper, depth_caller, recursionLimit] at *); omega))
local macro_rules | `(tactic| k_mem) => `(tactic| first | with_reducible assumption | with_reducible exact List.mem_cons_self | (refine List.mem_cons_of_mem _ ?_; k_mem) | (refine List.mem_append.mpr (Or.inl ?_); k_mem) | (refine List.mem_append.mpr (Or.inr ?_); k_mem))
local macro_rules | `(tactic| walk_at "call type:list") => `(tactic| (k_here; (with_reducible show wpAny _ _ (call (Value.type _) [Value.ref _]) _ _ _); k_dflt (refine' list_copyM ?F ?N ?b ?z ?_; (case F => k_asm); (case N => k_asm); (case b => k_mem); (case z => first | assumption | omega)); intro D' c' h' F' N' l1; (try k_lt l1); (try k_sweep)))

def keysOf (kvs : List (Str × Value)) : List Str := kvs.map (·.1)
theorem valueAt_isSome {K : Type} [DecidableEq K] (kvs : List (K × Value)) (k : K) : (valueAt kvs k).isSome = decide (k ∈ kvs.map (·.1)) := by
  unfold valueAt
  induction kvs with
  | nil => simp
  | cons p r ih =>
    simp only [List.find?_cons, List.map_cons, List.mem_cons]
    by_cases h : p.1 = k
    · simp [h]
    · have h' : ¬ k = p.1 := fun e => h e.symm
      simp only [h, decide_false, ih, h', false_or]
theorem stored_keys {K : Type} [DecidableEq K] (kvs : List (K × Value)) (k : K) (v : Value) (x : K) : x ∈ (PySem.stored kvs k v).map (·.1) ↔ x = k ∨ x ∈ kvs.map (·.1) := by
  unfold PySem.stored
  split
  · rename_i h
    have e : (kvs.map (fun kv => if kv.1 = k then (kv.1, v) else kv)).map (·.1) = kvs.map (·.1) := by
      rw [List.map_map]; apply List.map_congr_left; intro a _; dsimp only [Function.comp]; split <;> rfl
    rw [e]
    constructor
    · exact .inr
    · rintro (rfl | h')
      · obtain ⟨p, hp, hk⟩ := List.any_eq_true.mp h
        exact List.mem_map.mpr ⟨p, hp, by simpa using hk⟩
      · exact h'
  · simp [List.map_append]; exact or_comm
theorem stored_len {K : Type} [DecidableEq K] (kvs : List (K × Value)) (k : K) (v : Value) : (PySem.stored kvs k v).length ≤ kvs.length + 1 := PySem.stored_length_le kvs k v
theorem stored_at {K : Type} [DecidableEq K] (kvs : List (K × Value)) (k : K) (v : Value) (x : K) : valueAt (PySem.stored kvs k v) x = if x = k then some v else valueAt kvs x := by
  unfold PySem.stored valueAt
  split
  · rename_i h
    induction kvs with
    | nil => simp at h
    | cons p r ih =>
      simp only [List.map_cons, List.find?_cons]
      by_cases hp : p.1 = k
      · by_cases hx : x = k
        · subst hx; simp [hp]
        · have : ¬ k = x := fun e => hx e.symm
          simp only [hp, if_true, this, decide_false, hx, if_false]
          clear ih h
          induction r with
          | nil => rfl
          | cons q r ih =>
            simp only [List.map_cons, List.find?_cons]
            by_cases hq : q.1 = k
            · simp only [hq, if_true, this, decide_false]; exact ih
            · simp only [hq, if_false]
              by_cases hq' : q.1 = x
              · simp [hq']
              · simp only [hq', decide_false]; exact ih
      · have h' : (r.any fun kv => decide (kv.1 = k)) = true := by simpa [hp] using h
        by_cases hpx : p.1 = x
        · have : ¬ x = k := fun e => hp (hpx.trans e)
          simp [hp, hpx, this]
        · simp only [hp, if_false, hpx, decide_false]
          exact ih h'
  · rename_i h
    rw [List.find?_append]
    by_cases hx : x = k
    · subst hx
      have : kvs.find? (fun kv => decide (kv.1 = x)) = none := by
        rw [List.find?_eq_none]; intro a ha; simp only [List.any_eq_true, not_exists, not_and] at h; exact h a ha
      simp [this]
    · have : ¬ k = x := fun e => hx e.symm
      simp only [hx, if_false]
      cases List.find? (fun kv => decide (kv.1 = x)) kvs <;> simp [this]
theorem upd_sep {d : Addr} {news tl own : List (Addr × Obj)} {adr : List Addr} (h : ∀ p ∈ news, p.1 ≠ d) (hs : KdSep own tl adr) (hm : d ∈ adr) : ∀ p ∈ news ++ (tl ++ own), p.1 ≠ d := by
  intro p hp
  rcases List.mem_append.mp hp with hp | hp
  · exact h p hp
  · rcases List.mem_append.mp hp with hp | hp
    · exact hs.three p hp d hm
    · exact hs.one p hp d hm


structure MuInv (xs px T S : List Str) (C : List (Str × Value)) (us : List Str) : Prop where
  len : us.length = px.length
  nd : us.Nodup
  each : ∀ i (h : i < px.length) (h' : i < us.length), (px[i] ∉ px.take i → us[i] = px[i]) ∧ (px[i] ∈ px.take i → ∃ n : Int, 1 ≤ n ∧ n ≤ 1000 ∧ us[i] = px[i] ++ Str.ofString "." ++ Str.ofString (toString n))
  seen : ∀ x, x ∈ S ↔ x ∈ us
  sub : ∀ x ∈ px, x ∈ us
  back : ∀ x ∈ us, x ∈ xs → x ∈ px
  taken : ∀ x, x ∈ T ↔ x ∈ xs ∨ x ∈ us
  tlen : T.length ≤ xs.length + px.length
  cnt : ∀ x v, valueAt C x = some v → ∃ n t, v = Value.int n t ∧ 1 ≤ n ∧ n ≤ 1 + 15 * (px.length : Int)
  clen : C.length ≤ px.length
  slen : S.length ≤ px.length

structure MuOk (xs us : List Str) : Prop where
  len : us.length = xs.length
  nd : us.Nodup
  each : ∀ i (h : i < xs.length) (h' : i < us.length), (xs[i] ∉ xs.take i → us[i] = xs[i]) ∧ (xs[i] ∈ xs.take i → ∃ n : Int, 1 ≤ n ∧ n ≤ 1000 ∧ us[i] = xs[i] ++ Str.ofString "." ++ Str.ofString (toString n))
theorem MuInv.ok {xs T S us : List Str} {C : List (Str × Value)} (I : MuInv xs xs T S C us) : MuOk xs us := ⟨I.len, I.nd, I.each⟩
theorem MuInv.start {xs T : List Str} (hT : ∀ x, x ∈ T ↔ x ∈ xs) (hl : T.length ≤ xs.length) : MuInv xs [] T [] [] [] :=
  ⟨rfl, List.nodup_nil, fun i h => absurd h (Nat.not_lt_zero _), (fun x => by simp), (fun x h => nomatch h), (fun x h => nomatch h), (fun x => by simp [hT]), by simpa using hl, fun x v h => by simp [valueAt] at h, Nat.le_refl _, Nat.le_refl _⟩

theorem each_snoc {px us : List Str} {x u : Str} (hl : us.length = px.length)
    (h : ∀ i (h : i < px.length) (h' : i < us.length), (px[i] ∉ px.take i → us[i] = px[i]) ∧ (px[i] ∈ px.take i → ∃ n : Int, 1 ≤ n ∧ n ≤ 1000 ∧ us[i] = px[i] ++ Str.ofString "." ++ Str.ofString (toString n)))
    (hu : (x ∉ px → u = x) ∧ (x ∈ px → ∃ n : Int, 1 ≤ n ∧ n ≤ 1000 ∧ u = x ++ Str.ofString "." ++ Str.ofString (toString n))) :
    ∀ i (h : i < (px ++ [x]).length) (h' : i < (us ++ [u]).length), ((px ++ [x])[i] ∉ (px ++ [x]).take i → (us ++ [u])[i] = (px ++ [x])[i]) ∧ ((px ++ [x])[i] ∈ (px ++ [x]).take i → ∃ n : Int, 1 ≤ n ∧ n ≤ 1000 ∧ (us ++ [u])[i] = (px ++ [x])[i] ++ Str.ofString "." ++ Str.ofString (toString n)) := by
  intro i h1 h2
  by_cases hi : i < px.length
  · rw [List.getElem_append_left hi, List.getElem_append_left (by omega), List.take_append_of_le_length (by omega)]
    exact h i hi (by omega)
  · have e : i = px.length := by simp at h1; omega
    subst e
    rw [List.getElem_append_right (Nat.le_refl _), List.getElem_append_right (by omega)]
    simp only [hl, Nat.sub_self, List.getElem_cons_zero, List.take_left']
    simpa using hu

theorem MuInv.fresh {xs px T S us : List Str} {C : List (Str × Value)} {x : Str} {S' : List Str} (I : MuInv xs px T S C us) (hx : x ∈ xs) (hn : x ∉ S) (hS : ∀ y, y ∈ S' ↔ y = x ∨ y ∈ S) (hSl : S'.length ≤ S.length + 1) :
    MuInv xs (px ++ [x]) T S' C (us ++ [x]) := by
  have hnu : x ∉ us := fun h => hn ((I.seen x).mpr h)
  have hnp : x ∉ px := fun h => hnu (I.sub x h)
  refine ⟨by simp [I.len], ?_, each_snoc I.len I.each ⟨fun _ => rfl, fun h => absurd h hnp⟩, ?_, ?_, ?_, ?_, ?_, ?_, ?_, ?_⟩
  · rw [List.nodup_append]; refine ⟨I.nd, by simp, ?_⟩; intro a ha b hb e; simp at hb; subst hb; subst e; exact hnu ha
  · intro y; rw [hS, I.seen]; simp; exact or_comm
  · intro y hy; simp at hy ⊢; rcases hy with h | h
    · exact .inl (I.sub y h)
    · exact .inr h
  · intro y hy hyx; simp at hy ⊢; rcases hy with h | h
    · exact .inl (I.back y h hyx)
    · exact .inr h
  · intro y; rw [I.taken]; simp; constructor
    · rintro (h | h)
      · exact .inl h
      · exact .inr (.inl h)
    · rintro (h | h | h)
      · exact .inl h
      · exact .inr h
      · exact .inl (h ▸ hx)
  · have := I.tlen; simp; omega
  · intro y v h; obtain ⟨n, t, e, h1, h2⟩ := I.cnt y v h; exact ⟨n, t, e, h1, by simp; omega⟩
  · have := I.clen; simp; omega
  · have := I.slen; simp; omega

theorem MuInv.again {xs px T S us : List Str} {C C' : List (Str × Value)} {x : Str} {T' S' : List Str} {n : Int} {t : Tok} (I : MuInv xs px T S C us) (hx : x ∈ xs) (hn : x ∈ S) (h1 : 1 ≤ n) (h2 : n ≤ 15 * ((px.length : Int) + 1)) (hp : px.length ≤ 7)
    (hf : x ++ Str.ofString "." ++ Str.ofString (toString n) ∉ T)
    (hT : ∀ y, y ∈ T' ↔ y = x ++ Str.ofString "." ++ Str.ofString (toString n) ∨ y ∈ T) (hTl : T'.length ≤ T.length + 1)
    (hS : ∀ y, y ∈ S' ↔ y = x ++ Str.ofString "." ++ Str.ofString (toString n) ∨ y ∈ S) (hSl : S'.length ≤ S.length + 1)
    (hC : ∀ y, valueAt C' y = if y = x then some (.int (n + 1) t) else valueAt C y) (hCl : C'.length ≤ C.length + 1) :
    MuInv xs (px ++ [x]) T' S' C' (us ++ [x ++ Str.ofString "." ++ Str.ofString (toString n)]) := by
  have hxp : x ∈ px := I.back x ((I.seen x).mp hn) hx
  generalize hu : x ++ Str.ofString "." ++ Str.ofString (toString n) = u at *
  have hux : u ∉ xs := fun h => hf ((I.taken u).mpr (.inl h))
  have huu : u ∉ us := fun h => hf ((I.taken u).mpr (.inr h))
  refine ⟨by simp [I.len], ?_, each_snoc I.len I.each ⟨fun h => absurd hxp h, fun _ => ⟨n, h1, by omega, hu.symm⟩⟩, ?_, ?_, ?_, ?_, ?_, ?_, ?_, ?_⟩
  · rw [List.nodup_append]; refine ⟨I.nd, by simp, ?_⟩; intro a ha b hb e; simp at hb; subst hb; subst e; exact huu ha
  · intro y; rw [hS, I.seen]; simp; exact or_comm
  · intro y hy; simp at hy ⊢; rcases hy with h | h
    · exact .inl (I.sub y h)
    · exact .inl (I.sub y (h ▸ hxp))
  · intro y hy hyx; simp at hy ⊢; rcases hy with h | h
    · exact .inl (I.back y h hyx)
    · exact absurd (h ▸ hyx) hux
  · intro y; rw [hT, I.taken]; simp; constructor
    · rintro (h | h | h)
      · exact .inr (.inr h)
      · exact .inl h
      · exact .inr (.inl h)
    · rintro (h | h | h)
      · exact .inr (.inl h)
      · exact .inr (.inr h)
      · exact .inl h
  · have := I.tlen; simp; omega
  · intro y v h
    rw [hC] at h
    by_cases e : y = x
    · rw [if_pos e] at h; exact ⟨n + 1, t, (Option.some.inj h).symm, by omega, by simp; omega⟩
    · rw [if_neg e] at h; obtain ⟨n, t, e, h1, h2⟩ := I.cnt y v h; exact ⟨n, t, e, h1, by simp; omega⟩
  · have := I.clen; simp; omega
  · have := I.slen; simp; omega

theorem pigeon {α : Type} [DecidableEq α] (f : Nat → α) (b : Nat) (hf : ∀ i j, i ≤ b → j ≤ b → f i = f j → i = j) : ∀ (n : Nat) (T : List α), n ≤ b → T.length ≤ n → ∃ i, i ≤ n ∧ f i ∉ T
  | 0, T, _, h => ⟨0, Nat.le_refl _, by rw [List.length_eq_zero_iff.mp (Nat.le_zero.mp h)]; simp⟩
  | n + 1, T, hb, h => by
    by_cases hm : f (n + 1) ∈ T
    · have hl : (T.erase (f (n + 1))).length ≤ n := by rw [List.length_erase_of_mem hm]; omega
      obtain ⟨i, hi, hn⟩ := pigeon f b hf n _ (by omega) hl
      refine ⟨i, by omega, fun h' => hn ?_⟩
      have hne : f i ≠ f (n + 1) := fun e => by have := hf _ _ (by omega) hb e; omega
      exact (List.mem_erase_of_ne hne).mpr h'
    · exact ⟨n + 1, Nat.le_refl _, hm⟩
theorem least_out {α : Type} [DecidableEq α] (f : Nat → α) (T : List α) : ∀ (b : Nat), f b ∉ T → ∃ i, i ≤ b ∧ f i ∉ T ∧ ∀ j, j < i → f j ∈ T
  | b, h => by
    by_cases hs : ∃ j, j < b ∧ f j ∉ T
    · obtain ⟨j, hj, hn⟩ := hs
      obtain ⟨i, hi, h1, h2⟩ := least_out f T j hn
      exact ⟨i, by omega, h1, h2⟩
    · exact ⟨b, Nat.le_refl _, h, fun j hj => by
        by_cases hm : f j ∈ T
        · exact hm
        · exact absurd ⟨j, hj, hm⟩ hs⟩
termination_by b => b
theorem str_append_inj {x a b : Str} (h : x ++ a = x ++ b) : a = b := by
  have h' := congrArg (fun s : Str => s.cps.toList) h
  simp only [Str.cps_append, Array.toList_append] at h'
  exact Str.ext' (Array.toList_inj.mp (List.append_cancel_left h'))
theorem num_inj {i j : Int} (hi : 0 ≤ i) (hi' : i < 10 ^ 10) (hj : 0 ≤ j) (hj' : j < 10 ^ 10) (h : Str.ofString (toString i) = Str.ofString (toString j)) : i = j := by
  have a := KIN.num_reads hi hi'
  rw [h, KIN.num_reads hj hj'] at a
  exact (Option.some.inj a).symm
def freshOf (x : Str) (n : Int) : Str := x ++ Str.ofString "." ++ Str.ofString (toString n)
theorem freshOf_inj {x : Str} {i j : Int} (hi : 0 ≤ i) (hi' : i < 10 ^ 10) (hj : 0 ≤ j) (hj' : j < 10 ^ 10) (h : freshOf x i = freshOf x j) : i = j := num_inj hi hi' hj hj' (str_append_inj h)
theorem first_free (x : Str) (T : List Str) (n : Int) (h1 : 1 ≤ n) (h2 : n ≤ 1000) (hT : T.length ≤ 100) : ∃ k : Nat, k ≤ T.length ∧ freshOf x (n + k) ∉ T ∧ ∀ j : Nat, j < k → freshOf x (n + j) ∈ T := by
  obtain ⟨i, hi, hn⟩ := pigeon (fun i : Nat => freshOf x (n + i)) T.length (fun i j hi hj e => by
    have := freshOf_inj (x := x) (i := n + i) (j := n + j) (by omega) (by omega) (by omega) (by omega) e; omega) T.length T (Nat.le_refl _) (Nat.le_refl _)
  obtain ⟨k, hk, h1, h2⟩ := least_out (fun i : Nat => freshOf x (n + i)) T i hn
  exact ⟨k, by omega, h1, h2⟩
theorem map_str_inj : ∀ {xs ys : List Str}, xs.map Dat.str = ys.map Dat.str → xs = ys
  | [], [], _ => rfl
  | [], _ :: _, h => by cases h
  | _ :: _, [], h => by cases h
  | x :: xs, y :: ys, h => by
    simp only [List.map_cons, List.cons.injEq, Dat.str.injEq] at h
    rw [h.1, map_str_inj h.2]
theorem map_str_split : ∀ {xs px : List Str} {d : Dat} {post : List Dat}, xs.map Dat.str = px.map Dat.str ++ d :: post → ∃ x post', d = Dat.str x ∧ xs = px ++ x :: post'
  | [], [], _, _, h => by cases h
  | [], _ :: _, _, _, h => by cases h
  | x :: xs, [], d, post, h => by
    simp only [List.map_cons, List.map_nil, List.nil_append, List.cons.injEq] at h
    exact ⟨x, xs, h.1.symm, rfl⟩
  | x :: xs, y :: px, d, post, h => by
    simp only [List.map_cons, List.cons_append, List.cons.injEq, Dat.str.injEq] at h
    obtain ⟨z, post', e, q⟩ := map_str_split h.2
    exact ⟨z, post', e, by rw [h.1, q]; rfl⟩


section
variable {prog : Program} {w : World} {A : Around} {E : Value → Shared → Prop} {s : Shared} {env : Env} {test : PySem.Expr} {body orelse : List Stmt} {Q : Flow → Shared → Prop}
theorem while_inv (hE : PassesOwn (model prog w) A env E) (I : Nat → Shared → Prop)
    (turn : ∀ r s, I r s → wpAny (model prog w) A (isTrue test env (eval test env)) (fun b s₂ => WhlIf b (0 < r ∧ wpAny (model prog w) A (execs body env) (fun f s₃ => f = .next ∧ I (r - 1) s₃) E s₂) (wpAny (model prog w) A (execs orelse env) Q E s₂)) E s) :
    ∀ r s, I r s → WhlRest prog w A E env test body orelse Q r s
  | 0, s, h => by
    refine whl_turn (k := 0) hE (wpAny_mono (turn 0 s h) (fun b s₂ h₂ => ?_) fun _ _ e => e)
    cases b with
    | false => exact WhlIf.no rfl h₂
    | true => exact absurd h₂.1 (Nat.lt_irrefl _)
  | r + 1, s, h => by
    refine whl_turn (k := r) hE (wpAny_mono (turn (r + 1) s h) (fun b s₂ h₂ => ?_) fun _ _ e => e)
    cases b with
    | false => exact WhlIf.no rfl h₂
    | true => exact WhlIf.yes rfl (wpAny_mono h₂.2 (fun f s₃ h₃ => by obtain ⟨rfl, h₃⟩ := h₃; exact while_inv hE I turn r s₃ h₃) fun _ _ e => e)
inductive WhEnd (h₀ : Heap) (L : Addr) (m : Str → Option Value) (i : Str) (n : Int) (news : List (Addr × Obj)) (s : Shared) : Flow → Shared → Prop
  | mk {h' t' tk'} : Fr h₀ L h' (fun y => if y = i then some (.int n t') else m y) → News h₀ L h' news → WhEnd h₀ L m i n news s .next { s with heap := h', toks := tk' }
theorem while_num {h₀ : Heap} {L : Addr} {m : Str → Option Value} {i : Str} {n0 nstar : Int} {t0 : Tok} {news : List (Addr × Obj)} {pos : Pos}
    (F : Fr h₀ L s.heap (fun y => if y = i then some (.int n0 t0) else m y)) (N : News h₀ L s.heap news) (hle : n0 ≤ nstar)
    (turn : ∀ n t h tk, n0 ≤ n → n ≤ nstar → Fr h₀ L h (fun y => if y = i then some (.int n t) else m y) → News h₀ L h news →
      wpAny (model prog w) A (isTrue test env (eval test env)) (fun b s₂ => WhlIf b (n < nstar ∧ wpAny (model prog w) A (execs body env) (WhEnd h₀ L m i (n + 1) news s) E s₂)
        (wpAny (model prog w) A (execs orelse env) Q E s₂)) E { s with heap := h, toks := tk })
    (hE : PassesOwn (model prog w) A env E := by passes_own) :
    wpAny (model prog w) A (exec (.While test body orelse pos) env) Q E s := by
  refine whl_start (nstar - n0).toNat ?_
  refine while_inv hE (fun r s₁ => ∃ n t h tk, s₁ = { s with heap := h, toks := tk } ∧ n0 ≤ n ∧ n + r = nstar ∧ Fr h₀ L h (fun y => if y = i then some (.int n t) else m y) ∧ News h₀ L h news) ?_ _ s ⟨n0, t0, s.heap, s.toks, rfl, Int.le_refl _, by omega, F, N⟩
  rintro r s₁ ⟨n, t, h, tk, rfl, h1, h2, F₁, N₁⟩
  refine wpAny_mono (turn n t h tk h1 (by omega) F₁ N₁) (fun b s₂ h₂ => ?_) fun _ _ e => e
  cases b with
  | false => exact WhlIf.no rfl h₂
  | true =>
    refine WhlIf.yes rfl ⟨?_, wpAny_mono h₂.2 (fun f s₃ h₃ => ?_) fun _ _ e => e⟩
    · have h3 : n < nstar := h₂.1
      omega
    · obtain ⟨F₃, N₃⟩ := h₃
      have h3 : n < nstar := h₂.1
      exact ⟨rfl, n + 1, _, _, _, rfl, by omega, by omega, F₃, N₃⟩
theorem fr_twice {h₀ h : Heap} {L : Addr} {x : Str} {v u : Value} {m : Str → Option Value} (F : Fr h₀ L h (fun y => if y = x then some v else if y = x then some u else m y)) : Fr h₀ L h (fun y => if y = x then some v else m y) := by
  have e : (fun y => if y = x then some v else if y = x then some u else m y) = fun y => if y = x then some v else m y := by
    funext y; by_cases h : y = x <;> simp [h]
  rw [e] at F; exact F
end
theorem led_name {h₀ h : Heap} {L d : Addr} {fv : List Value} {vf : Value} {fk : Nat} {rest : List (Addr × Obj)} {e : Dat} (N : News h₀ L h ((d, listOf (fv ++ [vf]).toArray fk) :: rest)) (hv : DatIn [] vf e) :
    ∃ v, DatIn [] v e ∧ News h₀ L h ((d, listOf (fv ++ [v]).toArray fk) :: rest) := ⟨vf, hv, N⟩



section
local macro_rules | `(tactic| walk_at "binaryOp Add") => `(tactic| ((with_reducible show wpAny _ _ (binaryOp _ (Value.str _ _) (Value.str _ _)) _ _ _); k_dflt (refine' add_str ?h ?z; (case z => with_reducible assumption)); intro t' tk'))
structure M2 where
  oT : Obj
  oS : Obj
  oC : Obj
  kT : List (Str × Value)
  kS : List (Str × Value)
  kC : List (Str × Value)
  us : List Str
  fv : List Value
  fk : Nat
structure M1 where
  o : Obj
  kv : List (Str × Value)
set_option maxRecDepth 100000 in
set_option maxHeartbeats 8000000 in
theorem unique_tell {w : World} {mean : ExcName → Option Value} {mg mb : Str → Option Value} {dp un : Nat} {gd : Option (List Code)} {cn : Str} {cs : Scope} {a : Addr} {ccd : Value} {cl : List (Str × Addr)} {outer : List Env} {A₀ : Around} {base h₀ : Heap} {L : Addr} {m : Str → Option Value} {s : Shared} {Q E : Value → Shared → Prop} {l : Addr} {vs : List Value} {k : Nat} {xs : List Str} {t : Tok} {news : List (Addr × Obj)}
    (B : Below A₀ base outer h₀) (F : Fr h₀ L s.heap m) (X : (Mine.K w.params).In h₀) (T : Top Mine.q (looseW Mine.q Mine.lo) mean mg mb h₀) (hk : cs.kind = .function)
    (hd : dp + 8 < recursionLimit) (hu : un + 400 < cLine) (N : News h₀ L s.heap news) (hl : (l, listOf vs.toArray k) ∈ news) (hx : DatAll [] vs (xs.map Dat.str)) (hlen : xs.length ≤ 7) (hsz : ∀ x ∈ xs, x.length ≤ 10)
    (ret : ∀ r us fv fk h' tk', Fr h₀ L h' m → News h₀ L h' ((r, listOf fv.toArray fk) :: news) → (∀ p ∈ news, p.1 < r) → DatAll [] fv (us.map Dat.str) → MuOk xs us → Q (.ref r) { s with heap := h', toks := tk' }) :
    wpAny (model Challenge.rw_pq1321_01.row.prog w) (ktrTop dp un gd cn cs L a ccd cl outer) (call (.ref 246) [.ref l, .str (Str.ofString ".") t]) Q E s := by
  refine wpAny_call ?_
  k_dflt cell_enter
  (repeat' (first | (k_unfold; (try dsimp only)) | ((fail_if_success (first | (with_reducible show wpAny _ _ (setItem _ _ _) _ _ _) | (with_reducible show wpAny _ _ (call (Value.builtin "dict.get") _) _ _ _) | (with_reducible show wpAny _ _ (exec (Stmt.While _ _ _ _) _) _ _ _) | (with_reducible show wpAny _ _ (exec (Stmt.For _ _ _ _ _) _) _ _ _) | (with_reducible show wpAny _ _ (pyIter _) _ _ _) | (with_reducible show wpAny _ _ (call (Value.builtin "list.append") _) _ _ _) | (with_reducible show wpAny _ _ (eval (Expr.ListComp _ _ _ _) _) _ _ _) | (with_reducible show wpAny _ _ (exec (Stmt.Assign _ (Expr.ListComp _ _ _ _) _) _) _ _ _) | (with_reducible show wpAny _ _ (compareOp CmpOp.NotEq (Value.ref _) (Value.ref _)) _ _ _) | (with_reducible show wpAny _ _ (compareOp CmpOp.Eq (Value.ref _) (Value.ref _)) _ _ _) | (with_reducible show wpAny _ _ (compareOp CmpOp.In _ (Value.ref _)) _ _ _) | (with_reducible show wpAny _ _ (compareOp CmpOp.NotIn _ (Value.ref _)) _ _ _))); (first | walk1 | (dsimp only; walk1)))))
  rename ∀ p ∈ news, p.1 < _ => l1
  rename Obj.IsDictOf (strKind _ w) _ [] => hsT
  rename (_ == sysModules) = false => loT
  rename Obj => oT
  rename Addr => dT
  first | with_reducible rename Fr _ _ _ _ => F' | rename Fr _ _ _ _ => F'
  with_unfolding_all refine For_invVF F' (by rfl) (by rfl) ?_
  (repeat' (first | (k_unfold; (try dsimp only)) | ((fail_if_success (first | (with_reducible show wpAny _ _ (setItem _ _ _) _ _ _) | (with_reducible show wpAny _ _ (call (Value.builtin "dict.get") _) _ _ _) | (with_reducible show wpAny _ _ (exec (Stmt.While _ _ _ _) _) _ _ _) | (with_reducible show wpAny _ _ (exec (Stmt.For _ _ _ _ _) _) _ _ _) | (with_reducible show wpAny _ _ (pyIter _) _ _ _) | (with_reducible show wpAny _ _ (call (Value.builtin "list.append") _) _ _ _) | (with_reducible show wpAny _ _ (eval (Expr.ListComp _ _ _ _) _) _ _ _) | (with_reducible show wpAny _ _ (exec (Stmt.Assign _ (Expr.ListComp _ _ _ _) _) _) _ _ _) | (with_reducible show wpAny _ _ (compareOp CmpOp.NotEq (Value.ref _) (Value.ref _)) _ _ _) | (with_reducible show wpAny _ _ (compareOp CmpOp.Eq (Value.ref _) (Value.ref _)) _ _ _) | (with_reducible show wpAny _ _ (compareOp CmpOp.In _ (Value.ref _)) _ _ _) | (with_reducible show wpAny _ _ (compareOp CmpOp.NotIn _ (Value.ref _)) _ _ _))); (first | walk1 | (dsimp only; walk1)))))
  first | with_reducible rename Fr _ _ _ _ => F' | rename Fr _ _ _ _ => F'
  first | with_reducible rename News _ _ _ ((dT, oT) :: _) => N' | rename News _ _ _ ((dT, oT) :: _) => N'
  with_unfolding_all refine kd_listL (σ := M1) (ds := xs.map Dat.str) (fun c => [(dT, c.o)]) news (fun _ => []) (fun _ c => c.o.IsDictOf (strKind Challenge.rw_pq1321_01.row.prog w) c.kv) [] (fun pre c => (∀ x, x ∈ keysOf c.kv ↔ Dat.str x ∈ pre) ∧ c.kv.length ≤ pre.length) (dT :: news.map (·.1)) ⟨oT, []⟩ (by rfl) hl (hx.mono (by intro _ h; cases h)) F' N' ?_ (fun _ => rfl) hsT (by intro _ h; cases h) ⟨by simp [keysOf], by simp⟩ ?_ ?_
  · intro p hp; simpa using hp
  · intro c tl pre d post v u h tk own hds hd' hv hsep hoff hf hp F₁ N₁
    simp only [List.cons_append, List.nil_append] at N₁
    obtain ⟨x, hx1, rfl⟩ := List.mem_map.mp hd'
    rcases hv with _ | _ | _ | ⟨_, tx⟩ | _ | _ | _
    (repeat' (first | (k_unfold; (try dsimp only)) | ((fail_if_success (first | (with_reducible show wpAny _ _ (setItem _ _ _) _ _ _) | (with_reducible show wpAny _ _ (call (Value.builtin "dict.get") _) _ _ _) | (with_reducible show wpAny _ _ (exec (Stmt.While _ _ _ _) _) _ _ _) | (with_reducible show wpAny _ _ (exec (Stmt.For _ _ _ _ _) _) _ _ _) | (with_reducible show wpAny _ _ (pyIter _) _ _ _) | (with_reducible show wpAny _ _ (call (Value.builtin "list.append") _) _ _ _) | (with_reducible show wpAny _ _ (eval (Expr.ListComp _ _ _ _) _) _ _ _) | (with_reducible show wpAny _ _ (exec (Stmt.Assign _ (Expr.ListComp _ _ _ _) _) _) _ _ _) | (with_reducible show wpAny _ _ (compareOp CmpOp.NotEq (Value.ref _) (Value.ref _)) _ _ _) | (with_reducible show wpAny _ _ (compareOp CmpOp.Eq (Value.ref _) (Value.ref _)) _ _ _) | (with_reducible show wpAny _ _ (compareOp CmpOp.In _ (Value.ref _)) _ _ _) | (with_reducible show wpAny _ _ (compareOp CmpOp.NotIn _ (Value.ref _)) _ _ _))); (first | walk1 | (dsimp only; walk1)))))
    first | with_reducible rename News _ _ _ ((dT, c.o) :: _) => N' | rename News _ _ _ ((dT, c.o) :: _) => N'
    first | with_reducible rename Fr _ _ _ _ => F' | rename Fr _ _ _ _ => F'
    have hpl : pre.length ≤ 7 := by have := congrArg List.length hds; simp at this; omega
    k_dflt (refine' kda_set (k := x) F' N' (UpdF.head (upd_sep (fun p hp => Nat.ne_of_lt (l1 p hp)) hsep (.head _))) hf ?hk ?hz ?_; (case hk => exact strKind_is _ _ _ _); (case hz => rw [PySem.sizeLine_eq]; omega))
    intro h' o' F' N' hf'
    (repeat' (first | (k_unfold; (try dsimp only)) | ((fail_if_success (first | (with_reducible show wpAny _ _ (setItem _ _ _) _ _ _) | (with_reducible show wpAny _ _ (call (Value.builtin "dict.get") _) _ _ _) | (with_reducible show wpAny _ _ (exec (Stmt.While _ _ _ _) _) _ _ _) | (with_reducible show wpAny _ _ (exec (Stmt.For _ _ _ _ _) _) _ _ _) | (with_reducible show wpAny _ _ (pyIter _) _ _ _) | (with_reducible show wpAny _ _ (call (Value.builtin "list.append") _) _ _ _) | (with_reducible show wpAny _ _ (eval (Expr.ListComp _ _ _ _) _) _ _ _) | (with_reducible show wpAny _ _ (exec (Stmt.Assign _ (Expr.ListComp _ _ _ _) _) _) _ _ _) | (with_reducible show wpAny _ _ (compareOp CmpOp.NotEq (Value.ref _) (Value.ref _)) _ _ _) | (with_reducible show wpAny _ _ (compareOp CmpOp.Eq (Value.ref _) (Value.ref _)) _ _ _) | (with_reducible show wpAny _ _ (compareOp CmpOp.In _ (Value.ref _)) _ _ _) | (with_reducible show wpAny _ _ (compareOp CmpOp.NotIn _ (Value.ref _)) _ _ _))); (first | walk1 | (dsimp only; walk1)))))
    refine kd_end ⟨o', PySem.stored c.kv x (.bool true)⟩ [] hsep (by assumption) N' ?_ ?_ rfl (by intro _ h; cases h) (by intro _ h; cases h) (by intro _ h; cases h) ?_ hf' ⟨fun z => ?_, ?_⟩
    · intro p hp; grind
    · intro p hp; grind
    · intro z h1 _ h3; simp only [if_neg h1, kstB, h3]; rfl
    · rw [keysOf, stored_keys, ← keysOf, hp.1]; grind
    · have := stored_len c.kv x (.bool true); simp; omega
  · intro c tl u h tk hoff hf hp F₁ N₁
    have N₁ := cb_drop (news := (dT, c.o) :: news) N₁ (by intro p hp; grind)
    have hT0 : ∀ x, x ∈ keysOf c.kv ↔ x ∈ xs := fun x => by rw [hp.1]; simp
    have hTl : (keysOf c.kv).length ≤ xs.length := by have := hp.2; simpa [keysOf] using this
    clear F' N' hsT
    (repeat' (first | (k_unfold; (try dsimp only)) | ((fail_if_success (first | (with_reducible show wpAny _ _ (setItem _ _ _) _ _ _) | (with_reducible show wpAny _ _ (call (Value.builtin "dict.get") _) _ _ _) | (with_reducible show wpAny _ _ (exec (Stmt.While _ _ _ _) _) _ _ _) | (with_reducible show wpAny _ _ (exec (Stmt.For _ _ _ _ _) _) _ _ _) | (with_reducible show wpAny _ _ (pyIter _) _ _ _) | (with_reducible show wpAny _ _ (call (Value.builtin "list.append") _) _ _ _) | (with_reducible show wpAny _ _ (eval (Expr.ListComp _ _ _ _) _) _ _ _) | (with_reducible show wpAny _ _ (exec (Stmt.Assign _ (Expr.ListComp _ _ _ _) _) _) _ _ _) | (with_reducible show wpAny _ _ (compareOp CmpOp.NotEq (Value.ref _) (Value.ref _)) _ _ _) | (with_reducible show wpAny _ _ (compareOp CmpOp.Eq (Value.ref _) (Value.ref _)) _ _ _) | (with_reducible show wpAny _ _ (compareOp CmpOp.In _ (Value.ref _)) _ _ _) | (with_reducible show wpAny _ _ (compareOp CmpOp.NotIn _ (Value.ref _)) _ _ _))); (first | walk1 | (dsimp only; walk1)))))
    first | with_reducible rename Fr _ _ _ _ => F' | rename Fr _ _ _ _ => F'
    with_unfolding_all refine For_invVF F' (by rfl) (by rfl) ?_
    (repeat' (first | (k_unfold; (try dsimp only)) | ((fail_if_success (first | (with_reducible show wpAny _ _ (setItem _ _ _) _ _ _) | (with_reducible show wpAny _ _ (call (Value.builtin "dict.get") _) _ _ _) | (with_reducible show wpAny _ _ (exec (Stmt.While _ _ _ _) _) _ _ _) | (with_reducible show wpAny _ _ (exec (Stmt.For _ _ _ _ _) _) _ _ _) | (with_reducible show wpAny _ _ (pyIter _) _ _ _) | (with_reducible show wpAny _ _ (call (Value.builtin "list.append") _) _ _ _) | (with_reducible show wpAny _ _ (eval (Expr.ListComp _ _ _ _) _) _ _ _) | (with_reducible show wpAny _ _ (exec (Stmt.Assign _ (Expr.ListComp _ _ _ _) _) _) _ _ _) | (with_reducible show wpAny _ _ (compareOp CmpOp.NotEq (Value.ref _) (Value.ref _)) _ _ _) | (with_reducible show wpAny _ _ (compareOp CmpOp.Eq (Value.ref _) (Value.ref _)) _ _ _) | (with_reducible show wpAny _ _ (compareOp CmpOp.In _ (Value.ref _)) _ _ _) | (with_reducible show wpAny _ _ (compareOp CmpOp.NotIn _ (Value.ref _)) _ _ _))); (first | walk1 | (dsimp only; walk1)))))
    first | with_reducible rename Fr _ _ _ _ => F' | rename Fr _ _ _ _ => F'
    first | with_reducible rename News _ _ _ (_ :: _ :: _ :: (dT, _) :: news) => N' | rename News _ _ _ (_ :: _ :: _ :: (dT, _) :: news) => N'
    rename_i dS _ oS _ _ loS hsS _ _ _ l1S _ dC _ oC loC hsC _ _ _ l1C _ dF _ l1F _
    have hFC : dF ≠ dC := Nat.ne_of_gt l1F.1
    have hFS : dF ≠ dS := Nat.ne_of_gt l1F.2.1
    have hFT : dF ≠ dT := Nat.ne_of_gt l1F.2.2.1
    have hCS : dC ≠ dS := Nat.ne_of_gt l1C.1
    have hCT : dC ≠ dT := Nat.ne_of_gt l1C.2.1
    have hTS : dT ≠ dS := Nat.ne_of_lt l1S.1
    have hnT : ∀ p ∈ news, p.1 ≠ dT := fun p hp => Nat.ne_of_lt (l1 p hp)
    have hnS : ∀ p ∈ news, p.1 ≠ dS := fun p hp => Nat.ne_of_lt (ktn_ltOf l1S.2 p hp)
    have hnC : ∀ p ∈ news, p.1 ≠ dC := fun p hp => Nat.ne_of_lt (ktn_ltOf l1C.2.2 p hp)
    have hnF : ∀ p ∈ news, p.1 ≠ dF := fun p hp => Nat.ne_of_lt (ktn_ltOf l1F.2.2.2 p hp)
    with_unfolding_all refine kd_listL (σ := M2) (ds := xs.map Dat.str) (fun c => [(dF, listOf c.fv.toArray c.fk), (dC, c.oC), (dS, c.oS), (dT, c.oT)]) news (fun _ => []) (fun _ c => c.oT.IsDictOf (PySem.strKind Challenge.rw_pq1321_01.row.prog w) c.kT ∧ c.oS.IsDictOf (PySem.strKind Challenge.rw_pq1321_01.row.prog w) c.kS ∧ c.oC.IsDictOf (PySem.strKind Challenge.rw_pq1321_01.row.prog w) c.kC ∧ DatAll [] c.fv (c.us.map Dat.str)) [Str.ofString "number", Str.ofString "fresh"] (fun pre c => ∃ px : List Str, pre = px.map Dat.str ∧ MuInv xs px (keysOf c.kT) (keysOf c.kS) c.kC c.us) (dF :: dC :: dS :: dT :: news.map (·.1)) ⟨c.o, oS, oC, c.kv, [], [], [], [], 0⟩ (by rfl) hl (hx.mono (by intro _ h; cases h)) F' N' ?_ (fun _ => rfl) ⟨hf, hsS, hsC, DatAll.nil⟩ (by intro _ h; cases h) ⟨[], rfl, MuInv.start hT0 hTl⟩ ?_ ?_
    · intro p hp; simpa using hp
    · clear F' N'
      intro c tl pre d post v u h tk own hds hd' hv hsep hoff ⟨hfT, hfS, hfC, hfF⟩ ⟨px, hpx, I⟩ F₁ N₁
      subst hpx
      simp only [List.cons_append, List.nil_append] at N₁
      obtain ⟨x, post', rfl, hxs⟩ := map_str_split hds
      rcases hv with _ | _ | _ | ⟨_, tx⟩ | _ | _ | _
      have hxx : x ∈ xs := by rw [hxs]; simp
      have hpl : px.length ≤ 6 := by have := congrArg List.length hxs; simp at this; omega
      (repeat' (first | (k_unfold; (try dsimp only)) | ((fail_if_success (first | (with_reducible show wpAny _ _ (setItem _ _ _) _ _ _) | (with_reducible show wpAny _ _ (call (Value.builtin "dict.get") _) _ _ _) | (with_reducible show wpAny _ _ (exec (Stmt.While _ _ _ _) _) _ _ _) | (with_reducible show wpAny _ _ (exec (Stmt.For _ _ _ _ _) _) _ _ _) | (with_reducible show wpAny _ _ (pyIter _) _ _ _) | (with_reducible show wpAny _ _ (call (Value.builtin "list.append") _) _ _ _) | (with_reducible show wpAny _ _ (eval (Expr.ListComp _ _ _ _) _) _ _ _) | (with_reducible show wpAny _ _ (exec (Stmt.Assign _ (Expr.ListComp _ _ _ _) _) _) _ _ _) | (with_reducible show wpAny _ _ (compareOp CmpOp.NotEq (Value.ref _) (Value.ref _)) _ _ _) | (with_reducible show wpAny _ _ (compareOp CmpOp.Eq (Value.ref _) (Value.ref _)) _ _ _) | (with_reducible show wpAny _ _ (compareOp CmpOp.In _ (Value.ref _)) _ _ _) | (with_reducible show wpAny _ _ (compareOp CmpOp.NotIn _ (Value.ref _)) _ _ _))); (first | walk1 | (dsimp only; walk1)))))
      first | with_reducible rename News _ _ _ ((dF, _) :: (dC, _) :: _) => N' | rename News _ _ _ ((dF, _) :: (dC, _) :: _) => N'
      by_cases hn : x ∈ keysOf c.kS
      · k_dflt (refine' kdg_notin (k := x) N' (by simp) hfS loS ?hk true ?hb ?_; (case hk => exact strKind_is _ _ _ _); (case hb => rw [valueAt_isSome]; exact decide_eq_true hn))
        (repeat' (first | (k_unfold; (try dsimp only)) | ((fail_if_success (first | (with_reducible show wpAny _ _ (setItem _ _ _) _ _ _) | (with_reducible show wpAny _ _ (call (Value.builtin "dict.get") _) _ _ _) | (with_reducible show wpAny _ _ (exec (Stmt.While _ _ _ _) _) _ _ _) | (with_reducible show wpAny _ _ (exec (Stmt.For _ _ _ _ _) _) _ _ _) | (with_reducible show wpAny _ _ (pyIter _) _ _ _) | (with_reducible show wpAny _ _ (call (Value.builtin "list.append") _) _ _ _) | (with_reducible show wpAny _ _ (eval (Expr.ListComp _ _ _ _) _) _ _ _) | (with_reducible show wpAny _ _ (exec (Stmt.Assign _ (Expr.ListComp _ _ _ _) _) _) _ _ _) | (with_reducible show wpAny _ _ (compareOp CmpOp.NotEq (Value.ref _) (Value.ref _)) _ _ _) | (with_reducible show wpAny _ _ (compareOp CmpOp.Eq (Value.ref _) (Value.ref _)) _ _ _) | (with_reducible show wpAny _ _ (compareOp CmpOp.In _ (Value.ref _)) _ _ _) | (with_reducible show wpAny _ _ (compareOp CmpOp.NotIn _ (Value.ref _)) _ _ _))); (first | walk1 | (dsimp only; walk1)))))
        have hg : ∀ tk : Tok, ∃ (n0 : Int) (tn : Tok), (valueAt c.kC x).getD (Value.int 1 tk) = Value.int n0 tn ∧ 1 ≤ n0 ∧ n0 ≤ 1 + 15 * (px.length : Int) := by
          intro tk
          cases hv : valueAt c.kC x with
          | none => exact ⟨1, tk, rfl, by omega, by omega⟩
          | some v => obtain ⟨n, t, e, h1, h2⟩ := I.cnt x v hv; exact ⟨n, t, e, h1, h2⟩
        k_dflt (refine' kdg_get2 (k := x) N' (by simp) hfC loC ?hk _ rfl ?_; (case hk => exact strKind_is _ _ _ _))
        obtain ⟨n0, tn, hget, hn1, hn2⟩ := hg _
        rw [hget]
        clear hg hget
        have hTlen : (keysOf c.kT).length ≤ 13 := by have := I.tlen; omega
        obtain ⟨kk, hk1, hk2, hk3⟩ := first_free x (keysOf c.kT) n0 hn1 (by omega) (by omega)
        (repeat' (first | (k_unfold; (try dsimp only)) | ((fail_if_success (first | (with_reducible show wpAny _ _ (setItem _ _ _) _ _ _) | (with_reducible show wpAny _ _ (call (Value.builtin "dict.get") _) _ _ _) | (with_reducible show wpAny _ _ (exec (Stmt.While _ _ _ _) _) _ _ _) | (with_reducible show wpAny _ _ (exec (Stmt.For _ _ _ _ _) _) _ _ _) | (with_reducible show wpAny _ _ (pyIter _) _ _ _) | (with_reducible show wpAny _ _ (call (Value.builtin "list.append") _) _ _ _) | (with_reducible show wpAny _ _ (eval (Expr.ListComp _ _ _ _) _) _ _ _) | (with_reducible show wpAny _ _ (exec (Stmt.Assign _ (Expr.ListComp _ _ _ _) _) _) _ _ _) | (with_reducible show wpAny _ _ (compareOp CmpOp.NotEq (Value.ref _) (Value.ref _)) _ _ _) | (with_reducible show wpAny _ _ (compareOp CmpOp.Eq (Value.ref _) (Value.ref _)) _ _ _) | (with_reducible show wpAny _ _ (compareOp CmpOp.In _ (Value.ref _)) _ _ _) | (with_reducible show wpAny _ _ (compareOp CmpOp.NotIn _ (Value.ref _)) _ _ _))); (first | walk1 | (dsimp only; walk1)))))
        first | with_reducible rename Fr _ _ _ _ => F' | rename Fr _ _ _ _ => F'
        first | with_reducible rename News _ _ _ ((dF, _) :: (dC, _) :: _) => N' | rename News _ _ _ ((dF, _) :: (dC, _) :: _) => N'
        with_unfolding_all refine while_num (nstar := n0 + kk) F' N' (by omega) ?_
        · clear F' N'
          intro n t1 h1 tk1 hn3 hn4 F' N'
          have hA1 : x.length + (Str.ofString ".").length ≤ sizeLine := by rw [PySem.sizeLine_eq]; have := hsz x hxx; have : (Str.ofString ".").length = 1 := rfl; omega
          have hA2 : (x ++ Str.ofString ".").length + (Str.ofString (toString n)).length ≤ sizeLine := by rw [PySem.sizeLine_eq, Str.length_append]; have := hsz x hxx; have : (Str.ofString ".").length = 1 := rfl; have := KT.len_num (n := n) (by omega) (by omega); omega
          (repeat' (first | (k_unfold; (try dsimp only)) | ((fail_if_success (first | (with_reducible show wpAny _ _ (setItem _ _ _) _ _ _) | (with_reducible show wpAny _ _ (call (Value.builtin "dict.get") _) _ _ _) | (with_reducible show wpAny _ _ (exec (Stmt.While _ _ _ _) _) _ _ _) | (with_reducible show wpAny _ _ (exec (Stmt.For _ _ _ _ _) _) _ _ _) | (with_reducible show wpAny _ _ (pyIter _) _ _ _) | (with_reducible show wpAny _ _ (call (Value.builtin "list.append") _) _ _ _) | (with_reducible show wpAny _ _ (eval (Expr.ListComp _ _ _ _) _) _ _ _) | (with_reducible show wpAny _ _ (exec (Stmt.Assign _ (Expr.ListComp _ _ _ _) _) _) _ _ _) | (with_reducible show wpAny _ _ (compareOp CmpOp.NotEq (Value.ref _) (Value.ref _)) _ _ _) | (with_reducible show wpAny _ _ (compareOp CmpOp.Eq (Value.ref _) (Value.ref _)) _ _ _) | (with_reducible show wpAny _ _ (compareOp CmpOp.In _ (Value.ref _)) _ _ _) | (with_reducible show wpAny _ _ (compareOp CmpOp.NotIn _ (Value.ref _)) _ _ _))); (first | walk1 | (dsimp only; walk1)))))
          first | with_reducible rename News _ _ _ ((dF, _) :: (dC, _) :: _) => N' | rename News _ _ _ ((dF, _) :: (dC, _) :: _) => N'
          by_cases hin : freshOf x n ∈ keysOf c.kT
          · k_dflt (refine' kda_in (k := freshOf x n) N' (by simp) hfT loT ?hk true ?hb ?_; (case hk => exact strKind_is _ _ _ _); (case hb => rw [valueAt_isSome]; exact decide_eq_true hin))
            have hlt : n < n0 + kk := by
              rcases Int.lt_or_le n (n0 + kk) with h | h
              · exact h
              · exact absurd (show freshOf x (n0 + kk) ∈ _ by rw [show n0 + (kk : Int) = n by omega]; exact hin) hk2
            (repeat' (first | (k_unfold; (try dsimp only)) | ((fail_if_success (first | (with_reducible show wpAny _ _ (setItem _ _ _) _ _ _) | (with_reducible show wpAny _ _ (call (Value.builtin "dict.get") _) _ _ _) | (with_reducible show wpAny _ _ (exec (Stmt.While _ _ _ _) _) _ _ _) | (with_reducible show wpAny _ _ (exec (Stmt.For _ _ _ _ _) _) _ _ _) | (with_reducible show wpAny _ _ (pyIter _) _ _ _) | (with_reducible show wpAny _ _ (call (Value.builtin "list.append") _) _ _ _) | (with_reducible show wpAny _ _ (eval (Expr.ListComp _ _ _ _) _) _ _ _) | (with_reducible show wpAny _ _ (exec (Stmt.Assign _ (Expr.ListComp _ _ _ _) _) _) _ _ _) | (with_reducible show wpAny _ _ (compareOp CmpOp.NotEq (Value.ref _) (Value.ref _)) _ _ _) | (with_reducible show wpAny _ _ (compareOp CmpOp.Eq (Value.ref _) (Value.ref _)) _ _ _) | (with_reducible show wpAny _ _ (compareOp CmpOp.In _ (Value.ref _)) _ _ _) | (with_reducible show wpAny _ _ (compareOp CmpOp.NotIn _ (Value.ref _)) _ _ _))); (first | walk1 | (dsimp only; walk1)))))
            first | with_reducible rename Fr _ _ _ _ => F' | rename Fr _ _ _ _ => F'
            exact .mk (fr_twice F') (by assumption)
          · k_dflt (refine' kda_in (k := freshOf x n) N' (by simp) hfT loT ?hk false ?hb ?_; (case hk => exact strKind_is _ _ _ _); (case hb => rw [valueAt_isSome]; exact decide_eq_false hin))
            (repeat' (first | (k_unfold; (try dsimp only)) | ((fail_if_success (first | (with_reducible show wpAny _ _ (setItem _ _ _) _ _ _) | (with_reducible show wpAny _ _ (call (Value.builtin "dict.get") _) _ _ _) | (with_reducible show wpAny _ _ (exec (Stmt.While _ _ _ _) _) _ _ _) | (with_reducible show wpAny _ _ (exec (Stmt.For _ _ _ _ _) _) _ _ _) | (with_reducible show wpAny _ _ (pyIter _) _ _ _) | (with_reducible show wpAny _ _ (call (Value.builtin "list.append") _) _ _ _) | (with_reducible show wpAny _ _ (eval (Expr.ListComp _ _ _ _) _) _ _ _) | (with_reducible show wpAny _ _ (exec (Stmt.Assign _ (Expr.ListComp _ _ _ _) _) _) _ _ _) | (with_reducible show wpAny _ _ (compareOp CmpOp.NotEq (Value.ref _) (Value.ref _)) _ _ _) | (with_reducible show wpAny _ _ (compareOp CmpOp.Eq (Value.ref _) (Value.ref _)) _ _ _) | (with_reducible show wpAny _ _ (compareOp CmpOp.In _ (Value.ref _)) _ _ _) | (with_reducible show wpAny _ _ (compareOp CmpOp.NotIn _ (Value.ref _)) _ _ _))); (first | walk1 | (dsimp only; walk1)))))
            have hkl : n ≤ 15 * ((px.length : Int) + 1) := by have := I.tlen; omega
            first | with_reducible rename Fr _ _ _ _ => F' | rename Fr _ _ _ _ => F'
            first | with_reducible rename News _ _ _ ((dF, _) :: (dC, _) :: _) => N' | rename News _ _ _ ((dF, _) :: (dC, _) :: _) => N'
            k_dflt (refine' kda_set (k := x) F' N' (UpdF.tail hFC (UpdF.head (List.forall_mem_cons.mpr ⟨Ne.symm hCS, List.forall_mem_cons.mpr ⟨Ne.symm hCT, upd_sep hnC hsep (by simp)⟩⟩))) hfC ?hk ?hz ?_; (case hk => exact strKind_is _ _ _ _); (case hz => rw [PySem.sizeLine_eq]; have := I.clen; omega))
            intro h2 oC' F' N' hfC'
            obtain ⟨tc, hfC'⟩ : ∃ t, oC'.IsDictOf (PySem.strKind Challenge.rw_pq1321_01.row.prog w) (PySem.stored c.kC x (.int (n + 1) t)) := ⟨_, hfC'⟩
            (repeat' (first | (k_unfold; (try dsimp only)) | ((fail_if_success (first | (with_reducible show wpAny _ _ (setItem _ _ _) _ _ _) | (with_reducible show wpAny _ _ (call (Value.builtin "dict.get") _) _ _ _) | (with_reducible show wpAny _ _ (exec (Stmt.While _ _ _ _) _) _ _ _) | (with_reducible show wpAny _ _ (exec (Stmt.For _ _ _ _ _) _) _ _ _) | (with_reducible show wpAny _ _ (pyIter _) _ _ _) | (with_reducible show wpAny _ _ (call (Value.builtin "list.append") _) _ _ _) | (with_reducible show wpAny _ _ (eval (Expr.ListComp _ _ _ _) _) _ _ _) | (with_reducible show wpAny _ _ (exec (Stmt.Assign _ (Expr.ListComp _ _ _ _) _) _) _ _ _) | (with_reducible show wpAny _ _ (compareOp CmpOp.NotEq (Value.ref _) (Value.ref _)) _ _ _) | (with_reducible show wpAny _ _ (compareOp CmpOp.Eq (Value.ref _) (Value.ref _)) _ _ _) | (with_reducible show wpAny _ _ (compareOp CmpOp.In _ (Value.ref _)) _ _ _) | (with_reducible show wpAny _ _ (compareOp CmpOp.NotIn _ (Value.ref _)) _ _ _))); (first | walk1 | (dsimp only; walk1)))))
            first | with_reducible rename Fr _ _ _ _ => F' | rename Fr _ _ _ _ => F'
            first | with_reducible rename News _ _ _ ((dF, _) :: (dC, _) :: _) => N' | rename News _ _ _ ((dF, _) :: (dC, _) :: _) => N'
            k_dflt (refine' kda_set (k := freshOf x n) F' N' (UpdF.tail hFT (UpdF.tail hCT (UpdF.tail (Ne.symm hTS) (UpdF.head (upd_sep hnT hsep (by simp)))))) hfT ?hk ?hz ?_; (case hk => exact strKind_is _ _ _ _); (case hz => rw [PySem.sizeLine_eq]; have := I.tlen; simp only [keysOf, List.length_map] at this; omega))
            intro h3 oT' F' N' hfT'
            (repeat' (first | (k_unfold; (try dsimp only)) | ((fail_if_success (first | (with_reducible show wpAny _ _ (setItem _ _ _) _ _ _) | (with_reducible show wpAny _ _ (call (Value.builtin "dict.get") _) _ _ _) | (with_reducible show wpAny _ _ (exec (Stmt.While _ _ _ _) _) _ _ _) | (with_reducible show wpAny _ _ (exec (Stmt.For _ _ _ _ _) _) _ _ _) | (with_reducible show wpAny _ _ (pyIter _) _ _ _) | (with_reducible show wpAny _ _ (call (Value.builtin "list.append") _) _ _ _) | (with_reducible show wpAny _ _ (eval (Expr.ListComp _ _ _ _) _) _ _ _) | (with_reducible show wpAny _ _ (exec (Stmt.Assign _ (Expr.ListComp _ _ _ _) _) _) _ _ _) | (with_reducible show wpAny _ _ (compareOp CmpOp.NotEq (Value.ref _) (Value.ref _)) _ _ _) | (with_reducible show wpAny _ _ (compareOp CmpOp.Eq (Value.ref _) (Value.ref _)) _ _ _) | (with_reducible show wpAny _ _ (compareOp CmpOp.In _ (Value.ref _)) _ _ _) | (with_reducible show wpAny _ _ (compareOp CmpOp.NotIn _ (Value.ref _)) _ _ _))); (first | walk1 | (dsimp only; walk1)))))
            first | with_reducible rename Fr _ _ _ _ => F' | rename Fr _ _ _ _ => F'
            first | with_reducible rename News _ _ _ ((dF, _) :: (dC, _) :: _) => N' | rename News _ _ _ ((dF, _) :: (dC, _) :: _) => N'
            k_dflt (refine' kda_set (k := freshOf x n) F' N' (UpdF.tail hFS (UpdF.tail hCS (UpdF.head (List.forall_mem_cons.mpr ⟨hTS, upd_sep hnS hsep (by simp)⟩)))) hfS ?hk ?hz ?_; (case hk => exact strKind_is _ _ _ _); (case hz => rw [PySem.sizeLine_eq]; have := I.slen; simp only [keysOf, List.length_map] at this; omega))
            intro h4 oS' F' N' hfS'
            (repeat' (first | (k_unfold; (try dsimp only)) | ((fail_if_success (first | (with_reducible show wpAny _ _ (setItem _ _ _) _ _ _) | (with_reducible show wpAny _ _ (call (Value.builtin "dict.get") _) _ _ _) | (with_reducible show wpAny _ _ (exec (Stmt.While _ _ _ _) _) _ _ _) | (with_reducible show wpAny _ _ (exec (Stmt.For _ _ _ _ _) _) _ _ _) | (with_reducible show wpAny _ _ (pyIter _) _ _ _) | (with_reducible show wpAny _ _ (call (Value.builtin "list.append") _) _ _ _) | (with_reducible show wpAny _ _ (eval (Expr.ListComp _ _ _ _) _) _ _ _) | (with_reducible show wpAny _ _ (exec (Stmt.Assign _ (Expr.ListComp _ _ _ _) _) _) _ _ _) | (with_reducible show wpAny _ _ (compareOp CmpOp.NotEq (Value.ref _) (Value.ref _)) _ _ _) | (with_reducible show wpAny _ _ (compareOp CmpOp.Eq (Value.ref _) (Value.ref _)) _ _ _) | (with_reducible show wpAny _ _ (compareOp CmpOp.In _ (Value.ref _)) _ _ _) | (with_reducible show wpAny _ _ (compareOp CmpOp.NotIn _ (Value.ref _)) _ _ _))); (first | walk1 | (dsimp only; walk1)))))
            first | with_reducible rename Fr _ _ _ _ => F' | rename Fr _ _ _ _ => F'
            first | with_reducible rename News _ _ _ ((dF, _) :: (dC, _) :: _) => N' | rename News _ _ _ ((dF, _) :: (dC, _) :: _) => N'
            k_dflt (refine' append_K F' N' (Upd.head (List.forall_mem_cons.mpr ⟨Ne.symm hFC, List.forall_mem_cons.mpr ⟨Ne.symm hFS, List.forall_mem_cons.mpr ⟨Ne.symm hFT, upd_sep hnF hsep (by simp)⟩⟩⟩)) ?_ ?hz; (case hz => rw [List.size_toArray, hfF.length, List.length_map, I.len, PySem.sizeLine_eq]; omega))
            intro h5 F' N'
            (repeat' (first | (k_unfold; (try dsimp only)) | ((fail_if_success (first | (with_reducible show wpAny _ _ (setItem _ _ _) _ _ _) | (with_reducible show wpAny _ _ (call (Value.builtin "dict.get") _) _ _ _) | (with_reducible show wpAny _ _ (exec (Stmt.While _ _ _ _) _) _ _ _) | (with_reducible show wpAny _ _ (exec (Stmt.For _ _ _ _ _) _) _ _ _) | (with_reducible show wpAny _ _ (pyIter _) _ _ _) | (with_reducible show wpAny _ _ (call (Value.builtin "list.append") _) _ _ _) | (with_reducible show wpAny _ _ (eval (Expr.ListComp _ _ _ _) _) _ _ _) | (with_reducible show wpAny _ _ (exec (Stmt.Assign _ (Expr.ListComp _ _ _ _) _) _) _ _ _) | (with_reducible show wpAny _ _ (compareOp CmpOp.NotEq (Value.ref _) (Value.ref _)) _ _ _) | (with_reducible show wpAny _ _ (compareOp CmpOp.Eq (Value.ref _) (Value.ref _)) _ _ _) | (with_reducible show wpAny _ _ (compareOp CmpOp.In _ (Value.ref _)) _ _ _) | (with_reducible show wpAny _ _ (compareOp CmpOp.NotIn _ (Value.ref _)) _ _ _))); (first | walk1 | (dsimp only; walk1)))))
            rw [List.push_toArray] at N'
            obtain ⟨vf, hvf, N'⟩ := led_name (e := Dat.str (freshOf x n)) N' (.str _ _)
            refine kd_end { c with oT := oT', oS := oS', oC := oC', kT := PySem.stored c.kT (freshOf x n) (.bool true), kS := PySem.stored c.kS (freshOf x n) (.bool true), kC := PySem.stored c.kC x (.int (n + 1) tc), us := c.us ++ [freshOf x n], fv := c.fv ++ [vf], fk := c.fk + 1 } [] hsep (by assumption) N' ?_ ?_ rfl (by intro _ h; cases h) (by intro _ h; cases h) (by intro _ h; cases h) ?_ ⟨hfT', hfS', hfC', ?_⟩ ⟨px ++ [x], by simp, I.again hxx hn (by omega) hkl (by omega) hin (fun y => stored_keys _ _ _ _) (by simp only [keysOf, List.length_map]; exact stored_len _ _ _) (fun y => stored_keys _ _ _ _) (by simp only [keysOf, List.length_map]; exact stored_len _ _ _) (fun y => stored_at _ _ _ _) (stored_len _ _ _)⟩
            · intro p hp; grind
            · intro p hp; grind
            · intro z h1 _ h3; simp at h3; simp [h1, h3, kstB]
            · rw [List.map_append]; exact hfF.append (.one hvf)
      · k_dflt (refine' kdg_notin (k := x) N' (by simp) hfS loS ?hk false ?hb ?_; (case hk => exact strKind_is _ _ _ _); (case hb => rw [valueAt_isSome]; exact decide_eq_false hn))
        (repeat' (first | (k_unfold; (try dsimp only)) | ((fail_if_success (first | (with_reducible show wpAny _ _ (setItem _ _ _) _ _ _) | (with_reducible show wpAny _ _ (call (Value.builtin "dict.get") _) _ _ _) | (with_reducible show wpAny _ _ (exec (Stmt.While _ _ _ _) _) _ _ _) | (with_reducible show wpAny _ _ (exec (Stmt.For _ _ _ _ _) _) _ _ _) | (with_reducible show wpAny _ _ (pyIter _) _ _ _) | (with_reducible show wpAny _ _ (call (Value.builtin "list.append") _) _ _ _) | (with_reducible show wpAny _ _ (eval (Expr.ListComp _ _ _ _) _) _ _ _) | (with_reducible show wpAny _ _ (exec (Stmt.Assign _ (Expr.ListComp _ _ _ _) _) _) _ _ _) | (with_reducible show wpAny _ _ (compareOp CmpOp.NotEq (Value.ref _) (Value.ref _)) _ _ _) | (with_reducible show wpAny _ _ (compareOp CmpOp.Eq (Value.ref _) (Value.ref _)) _ _ _) | (with_reducible show wpAny _ _ (compareOp CmpOp.In _ (Value.ref _)) _ _ _) | (with_reducible show wpAny _ _ (compareOp CmpOp.NotIn _ (Value.ref _)) _ _ _))); (first | walk1 | (dsimp only; walk1)))))
        first | with_reducible rename Fr _ _ _ _ => F' | rename Fr _ _ _ _ => F'
        k_dflt (refine' kda_set (k := x) F' N' (UpdF.tail hFS (UpdF.tail hCS (UpdF.head (List.forall_mem_cons.mpr ⟨hTS, upd_sep hnS hsep (by simp)⟩)))) hfS ?hk ?hz ?_; (case hk => exact strKind_is _ _ _ _); (case hz => rw [PySem.sizeLine_eq]; have := I.slen; simp only [keysOf, List.length_map] at this; omega))
        intro h' o' F' N' hf'
        (repeat' (first | (k_unfold; (try dsimp only)) | ((fail_if_success (first | (with_reducible show wpAny _ _ (setItem _ _ _) _ _ _) | (with_reducible show wpAny _ _ (call (Value.builtin "dict.get") _) _ _ _) | (with_reducible show wpAny _ _ (exec (Stmt.While _ _ _ _) _) _ _ _) | (with_reducible show wpAny _ _ (exec (Stmt.For _ _ _ _ _) _) _ _ _) | (with_reducible show wpAny _ _ (pyIter _) _ _ _) | (with_reducible show wpAny _ _ (call (Value.builtin "list.append") _) _ _ _) | (with_reducible show wpAny _ _ (eval (Expr.ListComp _ _ _ _) _) _ _ _) | (with_reducible show wpAny _ _ (exec (Stmt.Assign _ (Expr.ListComp _ _ _ _) _) _) _ _ _) | (with_reducible show wpAny _ _ (compareOp CmpOp.NotEq (Value.ref _) (Value.ref _)) _ _ _) | (with_reducible show wpAny _ _ (compareOp CmpOp.Eq (Value.ref _) (Value.ref _)) _ _ _) | (with_reducible show wpAny _ _ (compareOp CmpOp.In _ (Value.ref _)) _ _ _) | (with_reducible show wpAny _ _ (compareOp CmpOp.NotIn _ (Value.ref _)) _ _ _))); (first | walk1 | (dsimp only; walk1)))))
        first | with_reducible rename Fr _ _ _ _ => F' | rename Fr _ _ _ _ => F'
        first | with_reducible rename News _ _ _ ((dF, _) :: (dC, _) :: _) => N' | rename News _ _ _ ((dF, _) :: (dC, _) :: _) => N'
        k_dflt (refine' append_K F' N' (Upd.head (List.forall_mem_cons.mpr ⟨Ne.symm hFC, List.forall_mem_cons.mpr ⟨Ne.symm hFS, List.forall_mem_cons.mpr ⟨Ne.symm hFT, upd_sep hnF hsep (by simp)⟩⟩⟩)) ?_ ?hz; (case hz => rw [List.size_toArray, hfF.length, List.length_map, I.len, PySem.sizeLine_eq]; omega))
        intro h' F' N'
        (repeat' (first | (k_unfold; (try dsimp only)) | ((fail_if_success (first | (with_reducible show wpAny _ _ (setItem _ _ _) _ _ _) | (with_reducible show wpAny _ _ (call (Value.builtin "dict.get") _) _ _ _) | (with_reducible show wpAny _ _ (exec (Stmt.While _ _ _ _) _) _ _ _) | (with_reducible show wpAny _ _ (exec (Stmt.For _ _ _ _ _) _) _ _ _) | (with_reducible show wpAny _ _ (pyIter _) _ _ _) | (with_reducible show wpAny _ _ (call (Value.builtin "list.append") _) _ _ _) | (with_reducible show wpAny _ _ (eval (Expr.ListComp _ _ _ _) _) _ _ _) | (with_reducible show wpAny _ _ (exec (Stmt.Assign _ (Expr.ListComp _ _ _ _) _) _) _ _ _) | (with_reducible show wpAny _ _ (compareOp CmpOp.NotEq (Value.ref _) (Value.ref _)) _ _ _) | (with_reducible show wpAny _ _ (compareOp CmpOp.Eq (Value.ref _) (Value.ref _)) _ _ _) | (with_reducible show wpAny _ _ (compareOp CmpOp.In _ (Value.ref _)) _ _ _) | (with_reducible show wpAny _ _ (compareOp CmpOp.NotIn _ (Value.ref _)) _ _ _))); (first | walk1 | (dsimp only; walk1)))))
        rw [List.push_toArray] at N'
        refine kd_end { c with oS := o', kS := PySem.stored c.kS x (.bool true), us := c.us ++ [x], fv := c.fv ++ [.str x tx], fk := c.fk + 1 } [] hsep (by assumption) N' ?_ ?_ rfl (by intro _ h; cases h) (by intro _ h; cases h) (by intro _ h; cases h) ?_ ⟨hfT, hf', hfC, ?_⟩ ⟨px ++ [x], by simp, I.fresh hxx hn (fun y => stored_keys _ _ _ _) (by simp only [keysOf, List.length_map]; exact stored_len _ _ _)⟩
        · intro p hp; grind
        · intro p hp; grind
        · intro z h1 _ h3; simp only [if_neg h1, kstB, h3]; rfl
        · rw [List.map_append]; exact hfF.append (.one (.str _ _))
    · intro c tl u h tk hoff ⟨hfT, hfS, hfC, hfF⟩ ⟨px, hpx, I⟩ F₁ N₁
      have hpx := map_str_inj hpx
      subst hpx
      simp only [List.cons_append, List.nil_append] at N₁
      (repeat' (first | (k_unfold; (try dsimp only)) | ((fail_if_success (first | (with_reducible show wpAny _ _ (setItem _ _ _) _ _ _) | (with_reducible show wpAny _ _ (call (Value.builtin "dict.get") _) _ _ _) | (with_reducible show wpAny _ _ (exec (Stmt.While _ _ _ _) _) _ _ _) | (with_reducible show wpAny _ _ (exec (Stmt.For _ _ _ _ _) _) _ _ _) | (with_reducible show wpAny _ _ (pyIter _) _ _ _) | (with_reducible show wpAny _ _ (call (Value.builtin "list.append") _) _ _ _) | (with_reducible show wpAny _ _ (eval (Expr.ListComp _ _ _ _) _) _ _ _) | (with_reducible show wpAny _ _ (exec (Stmt.Assign _ (Expr.ListComp _ _ _ _) _) _) _ _ _) | (with_reducible show wpAny _ _ (compareOp CmpOp.NotEq (Value.ref _) (Value.ref _)) _ _ _) | (with_reducible show wpAny _ _ (compareOp CmpOp.Eq (Value.ref _) (Value.ref _)) _ _ _) | (with_reducible show wpAny _ _ (compareOp CmpOp.In _ (Value.ref _)) _ _ _) | (with_reducible show wpAny _ _ (compareOp CmpOp.NotIn _ (Value.ref _)) _ _ _))); (first | walk1 | (dsimp only; walk1)))))
      first | with_reducible rename News h₀ L _ _ => kN | rename News h₀ L _ _ => kN
      exact ret dF c.us c.fv c.fk _ _ (by assumption) (cb_drop kN (by intro p hp; grind)) (ktn_ltOf l1F.2.2.2) hfF I.ok

end


abbrev vecEs (w : World) (kind : Str) (t0 : Tok) (it : Value) (at_ : Value) (sh lo : Bool) (t1 t2 t3 t4 t5 : Tok) : List DictEntry :=
  [⟨PyData.keyHash w.params (Str.ofString "kind"), .str (Str.ofString "kind") t1, .str kind t0⟩, ⟨PyData.keyHash w.params (Str.ofString "items"), .str (Str.ofString "items") t2, it⟩,
   ⟨PyData.keyHash w.params (Str.ofString "attrs"), .str (Str.ofString "attrs") t3, at_⟩, ⟨PyData.keyHash w.params (Str.ofString "shared"), .str (Str.ofString "shared") t4, .bool sh⟩,
   ⟨PyData.keyHash w.params (Str.ofString "loose"), .str (Str.ofString "loose") t5, .bool lo⟩]
theorem item_M {prog : Program} {w : World} {A : Around} {E : Value → Shared → Prop} {s : Shared} {h₀ : Heap} {L : Addr} {news : List (Addr × Obj)} {value slice : PySem.Expr} {l : Addr} {vs : List Value} {n : Nat} {k : Int} {u : Tok} {v : Value} {Q : Value → Shared → Prop}
    (N : News h₀ L s.heap news) (hm : (l, listOf vs.toArray n) ∈ news) (h0 : 0 ≤ k) (hfit : k < 2 ^ 63) (hv : vs[k.toNat]? = some v) (h : Q v s)
    (hs : subscripted slice false (.ref l) (.int k u) = operate [.ref l, .int k u] (getItem (.ref l) (.int k u)) := by with_unfolding_all rfl) :
    wpAny (model prog w) A (subscriptTail value slice (.ref l) (.int k u)) Q E s := by
  have hl : s.heap.IsList l vs.toArray := ⟨_, (N _ hm).1, rfl, n, rfl⟩
  exact tail_any hl.typeIs slot_list_getitem.lookup (wpAny_getItem_list hl h0 hfit (by simpa using hv) h) hs
theorem len_M {prog : Program} {w : World} {A : Around} {E : Value → Shared → Prop} {s : Shared} {h₀ : Heap} {L : Addr} {news : List (Addr × Obj)} {l : Addr} {us : List Value} {n : Nat} {Q : Value → Shared → Prop}
    (N : News h₀ L s.heap news) (hm : (l, listOf us.toArray n) ∈ news) (hfit : us.length ≤ 1000) (h : Q (.int (us.length : Int) (s.toks + 1)) { s with toks := s.toks + 1 + 1 }) : wpAny (model prog w) A (call (.builtin "len") [.ref l]) Q E s := by
  have hl : s.heap.IsList l us.toArray := ⟨_, (N _ hm).1, rfl, n, rfl⟩
  have e : us.toArray.size = us.length := by rw [List.size_toArray]
  exact len_list hl (by rw [e]; omega) (by rw [e]; exact h)
def plD : Option Int → Dat
  | none => Dat.none
  | some i => Dat.int i
def pickD (cv : List Value) : Dat → Value
  | .int i => if i < (cv.length : Int) then (cv[i.toNat]?).getD .none else .none
  | _ => .none
structure SV where
  vs : List Value
  k : Nat
structure NotAt (d : Addr) (news : List (Addr × Obj)) : Prop where
  out : ∀ p ∈ news, p.1 ≠ d
theorem news_cut2 {h₀ h : Heap} {L : Addr} {A B : Addr × Obj} {news tl : List (Addr × Obj)} (N : News h₀ L h (A :: B :: (news ++ tl))) : News h₀ L h (A :: B :: news) := cb_drop N (by intro p hp; grind)
theorem news_cut3 {h₀ h : Heap} {L : Addr} {A B C : Addr × Obj} {news tl : List (Addr × Obj)} (N : News h₀ L h (A :: B :: C :: (news ++ tl))) : News h₀ L h (A :: B :: C :: news) := cb_drop N (by intro p hp; grind)
theorem fr_int {h₀ h : Heap} {L : Addr} {x : Str} {b : Int} {t : Tok} {m : Str → Option Value} (F : Fr h₀ L h (fun y => if y = x then some (.int b t) else m y)) : ∃ b t, Fr h₀ L h (fun y => if y = x then some (.int b t) else m y) := ⟨b, t, F⟩


local macro_rules | `(tactic| walk_at "call builtin:len") => `(tactic| (k_here; (with_reducible show wpAny _ _ (call (Value.builtin "len") [Value.ref _]) _ _ _); k_dflt (refine' len_M ?N ?m ?z ?_; (case N => k_asm); (case m => k_mem); (case z => first | with_reducible assumption | omega))))

set_option maxRecDepth 100000 in
set_option maxHeartbeats 8000000 in
theorem pick_items_tell {w : World} {mean : ExcName → Option Value} {mg mb : Str → Option Value} {dp un : Nat} {gd : Option (List Code)} {cn : Str} {cs : Scope} {a : Addr} {ccd : Value} {cl : List (Str × Addr)} {outer : List Env} {A₀ : Around} {base h₀ : Heap} {L : Addr} {m : Str → Option Value} {s : Shared} {Q E : Value → Shared → Prop} {c dc li pl : Addr} {cv pv : List Value} {lk pk : Nat} {ps : List (Option Int)} {t0 t1 t2 t3 t4 t5 : Tok} {sh lo : Bool} {news : List (Addr × Obj)}
    (B : Below A₀ base outer h₀) (F : Fr h₀ L s.heap m) (X : (Mine.K w.params).In h₀) (T : Top Mine.q (looseW Mine.q Mine.lo) mean mg mb h₀) (hk : cs.kind = .function)
    (hd : dp + 8 < recursionLimit) (hu : un + 400 < cLine) (N : News h₀ L s.heap news)
    (hc : (c, instObj 164 dc) ∈ news) (hdc : (dc, dictOf (vecEs w (Str.ofString "integer") t0 (.ref li) .none sh lo t1 t2 t3 t4 t5) 5) ∈ news) (hli : (li, listOf cv.toArray lk) ∈ news) (hcl : cv.length ≤ 1000)
    (hpl : (pl, listOf pv.toArray pk) ∈ news) (hpv : DatAll [] pv (ps.map plD)) (hps : ps.length ≤ 1000) (hp0 : ∀ i, some i ∈ ps → 0 ≤ i)
    (ret : ∀ r dr lr k a0 a1 a2 a3 a4 a5 h' tk', Fr h₀ L h' m → News h₀ L h' ((r, instObj 164 dr) :: (dr, dictOf (vecEs w (Str.ofString "integer") a0 (.ref lr) .none false false a1 a2 a3 a4 a5) 5) :: (lr, listOf ((ps.map plD).map (pickD cv)).toArray k) :: news) → (∀ p ∈ news, p.1 < lr) → @LT.lt Nat _ lr dr → @LT.lt Nat _ dr r → Q (.ref r) { s with heap := h', toks := tk' }) :
    wpAny (model Challenge.rw_pq1321_01.row.prog w) (ktrTop dp un gd cn cs L a ccd cl outer) (call (.ref 291) [.ref c, .ref pl]) Q E s := by
  refine wpAny_call ?_
  k_dflt cell_enter
  (repeat' (first | (k_unfold; (try dsimp only)) | ((fail_if_success (first | (with_reducible show wpAny _ _ (setItem _ _ _) _ _ _) | (with_reducible show wpAny _ _ (call (Value.builtin "dict.get") _) _ _ _) | (with_reducible show wpAny _ _ (exec (Stmt.While _ _ _ _) _) _ _ _) | (with_reducible show wpAny _ _ (exec (Stmt.For _ _ _ _ _) _) _ _ _) | (with_reducible show wpAny _ _ (pyIter _) _ _ _) | (with_reducible show wpAny _ _ (call (Value.builtin "list.append") _) _ _ _) | (with_reducible show wpAny _ _ (eval (Expr.ListComp _ _ _ _) _) _ _ _) | (with_reducible show wpAny _ _ (exec (Stmt.Assign _ (Expr.ListComp _ _ _ _) _) _) _ _ _) | (with_reducible show wpAny _ _ (compareOp CmpOp.NotEq (Value.ref _) (Value.ref _)) _ _ _) | (with_reducible show wpAny _ _ (compareOp CmpOp.Eq (Value.ref _) (Value.ref _)) _ _ _) | (with_reducible show wpAny _ _ (compareOp CmpOp.In _ (Value.ref _)) _ _ _) | (with_reducible show wpAny _ _ (compareOp CmpOp.NotIn _ (Value.ref _)) _ _ _))); (first | walk1 | (dsimp only; walk1)))))
  first | with_reducible rename Fr _ _ _ _ => F0 | rename Fr _ _ _ _ => F0
  with_unfolding_all refine For_invVF F0 (by rfl) (by rfl) ?_
  (repeat' (first | (k_unfold; (try dsimp only)) | ((fail_if_success (first | (with_reducible show wpAny _ _ (setItem _ _ _) _ _ _) | (with_reducible show wpAny _ _ (call (Value.builtin "dict.get") _) _ _ _) | (with_reducible show wpAny _ _ (exec (Stmt.While _ _ _ _) _) _ _ _) | (with_reducible show wpAny _ _ (exec (Stmt.For _ _ _ _ _) _) _ _ _) | (with_reducible show wpAny _ _ (pyIter _) _ _ _) | (with_reducible show wpAny _ _ (call (Value.builtin "list.append") _) _ _ _) | (with_reducible show wpAny _ _ (eval (Expr.ListComp _ _ _ _) _) _ _ _) | (with_reducible show wpAny _ _ (exec (Stmt.Assign _ (Expr.ListComp _ _ _ _) _) _) _ _ _) | (with_reducible show wpAny _ _ (compareOp CmpOp.NotEq (Value.ref _) (Value.ref _)) _ _ _) | (with_reducible show wpAny _ _ (compareOp CmpOp.Eq (Value.ref _) (Value.ref _)) _ _ _) | (with_reducible show wpAny _ _ (compareOp CmpOp.In _ (Value.ref _)) _ _ _) | (with_reducible show wpAny _ _ (compareOp CmpOp.NotIn _ (Value.ref _)) _ _ _))); (first | walk1 | (dsimp only; walk1)))))
  first | with_reducible rename Fr _ _ _ _ => F' | rename Fr _ _ _ _ => F'
  first | with_reducible rename News _ _ _ ((_, listOf _ _) :: news) => N' | rename News _ _ _ ((_, listOf _ _) :: news) => N'
  rename_i lr _ l1 _ _ _
  have hn1 : ∀ p ∈ news, p.1 ≠ lr := fun p hp => Nat.ne_of_lt (l1 p hp)
  with_unfolding_all refine kd_listL (σ := SV) (ds := ps.map plD) (fun c => [(lr, listOf c.vs.toArray c.k)]) news (fun _ => []) (fun _ c => True) [] (fun pre c => c.vs = pre.map (pickD cv)) (lr :: news.map (·.1)) ⟨[], 0⟩ (by rfl) hpl (hpv.mono (by intro _ h; cases h)) F' N' ?_ (fun _ => rfl) trivial (by intro _ h; cases h) rfl ?_ ?_
  · intro p hp; simpa using hp
  · clear F' N'
    intro c tl pre d post v u h tk own hds hd' hv hsep hoff _ hp F₁ N₁
    simp only [List.cons_append, List.nil_append] at N₁
    have hpl : pre.length ≤ 1000 := by have := congrArg List.length hds; simp at this; omega
    have hvl : c.vs.length ≤ 1000 := by rw [hp, List.length_map]; exact hpl
    obtain ⟨q, hq, rfl⟩ := List.mem_map.mp hd'
    cases q with
    | none =>
      rcases hv with _ | _ | _ | _ | _ | _ | _
      have hcv : pickD cv (plD none) = .none := rfl
      (repeat' (first | (k_unfold; (try dsimp only)) | ((fail_if_success (first | (with_reducible show wpAny _ _ (setItem _ _ _) _ _ _) | (with_reducible show wpAny _ _ (call (Value.builtin "dict.get") _) _ _ _) | (with_reducible show wpAny _ _ (exec (Stmt.While _ _ _ _) _) _ _ _) | (with_reducible show wpAny _ _ (exec (Stmt.For _ _ _ _ _) _) _ _ _) | (with_reducible show wpAny _ _ (pyIter _) _ _ _) | (with_reducible show wpAny _ _ (call (Value.builtin "list.append") _) _ _ _) | (with_reducible show wpAny _ _ (eval (Expr.ListComp _ _ _ _) _) _ _ _) | (with_reducible show wpAny _ _ (exec (Stmt.Assign _ (Expr.ListComp _ _ _ _) _) _) _ _ _) | (with_reducible show wpAny _ _ (compareOp CmpOp.NotEq (Value.ref _) (Value.ref _)) _ _ _) | (with_reducible show wpAny _ _ (compareOp CmpOp.Eq (Value.ref _) (Value.ref _)) _ _ _) | (with_reducible show wpAny _ _ (subscriptTail _ _ (Value.ref _) (Value.int _ _)) _ _ _))); (first | walk1 | (dsimp only; walk1)))))
      k_dflt (refine' append_K ?F ?N ?U ?_ ?hz; (case F => k_asm); (case N => k_asm); (case U => first | exact Upd.head (upd_sep hn1 hsep (by simp)) | exact Upd.tail (by k_ne) (Upd.head (upd_sep hn1 hsep (by simp)))); (case hz => rw [List.size_toArray, PySem.sizeLine_eq]; omega))
      intro h' F' N'
      (repeat' (first | (k_unfold; (try dsimp only)) | ((fail_if_success (first | (with_reducible show wpAny _ _ (setItem _ _ _) _ _ _) | (with_reducible show wpAny _ _ (call (Value.builtin "dict.get") _) _ _ _) | (with_reducible show wpAny _ _ (exec (Stmt.While _ _ _ _) _) _ _ _) | (with_reducible show wpAny _ _ (exec (Stmt.For _ _ _ _ _) _) _ _ _) | (with_reducible show wpAny _ _ (pyIter _) _ _ _) | (with_reducible show wpAny _ _ (call (Value.builtin "list.append") _) _ _ _) | (with_reducible show wpAny _ _ (eval (Expr.ListComp _ _ _ _) _) _ _ _) | (with_reducible show wpAny _ _ (exec (Stmt.Assign _ (Expr.ListComp _ _ _ _) _) _) _ _ _) | (with_reducible show wpAny _ _ (compareOp CmpOp.NotEq (Value.ref _) (Value.ref _)) _ _ _) | (with_reducible show wpAny _ _ (compareOp CmpOp.Eq (Value.ref _) (Value.ref _)) _ _ _) | (with_reducible show wpAny _ _ (subscriptTail _ _ (Value.ref _) (Value.int _ _)) _ _ _))); (first | walk1 | (dsimp only; walk1)))))
      rw [List.push_toArray] at N'
      refine kd_end ⟨c.vs ++ [.none], c.k + 1⟩ [] hsep (by assumption) (N') ?_ ?_ rfl (by intro _ h; cases h) (by intro _ h; cases h) (by intro _ h; cases h) ?_ trivial (by rw [hp, List.map_append]; simp only [List.map_cons, List.map_nil]; try rw [hcv])
      · intro p hp; grind
      · intro p hp; grind
      · intro z h1 _ h3; simp only [if_neg h1, kstB, h3]; rfl
    | some i =>
      rcases hv with _ | _ | ⟨_, ti⟩ | _ | _ | _ | _
      have hi0 := hp0 i hq
      by_cases hi : i < (cv.length : Int)
      · have hcv : cv[i.toNat]? = some (pickD cv (plD (some i))) := by
          simp only [plD, pickD, if_pos hi]
          rw [List.getElem?_eq_getElem (by omega)]; rfl
        (repeat' (first | (k_unfold; (try dsimp only)) | ((fail_if_success (first | (with_reducible show wpAny _ _ (setItem _ _ _) _ _ _) | (with_reducible show wpAny _ _ (call (Value.builtin "dict.get") _) _ _ _) | (with_reducible show wpAny _ _ (exec (Stmt.While _ _ _ _) _) _ _ _) | (with_reducible show wpAny _ _ (exec (Stmt.For _ _ _ _ _) _) _ _ _) | (with_reducible show wpAny _ _ (pyIter _) _ _ _) | (with_reducible show wpAny _ _ (call (Value.builtin "list.append") _) _ _ _) | (with_reducible show wpAny _ _ (eval (Expr.ListComp _ _ _ _) _) _ _ _) | (with_reducible show wpAny _ _ (exec (Stmt.Assign _ (Expr.ListComp _ _ _ _) _) _) _ _ _) | (with_reducible show wpAny _ _ (compareOp CmpOp.NotEq (Value.ref _) (Value.ref _)) _ _ _) | (with_reducible show wpAny _ _ (compareOp CmpOp.Eq (Value.ref _) (Value.ref _)) _ _ _) | (with_reducible show wpAny _ _ (subscriptTail _ _ (Value.ref _) (Value.int _ _)) _ _ _))); (first | walk1 | (dsimp only; walk1)))))
        k_dflt (refine' item_M ?N ?m hi0 ?f hcv ?_ ?hs; (case N => k_asm); (case m => k_mem); (case f => omega); (case hs => with_unfolding_all rfl))
        (repeat' (first | (k_unfold; (try dsimp only)) | ((fail_if_success (first | (with_reducible show wpAny _ _ (setItem _ _ _) _ _ _) | (with_reducible show wpAny _ _ (call (Value.builtin "dict.get") _) _ _ _) | (with_reducible show wpAny _ _ (exec (Stmt.While _ _ _ _) _) _ _ _) | (with_reducible show wpAny _ _ (exec (Stmt.For _ _ _ _ _) _) _ _ _) | (with_reducible show wpAny _ _ (pyIter _) _ _ _) | (with_reducible show wpAny _ _ (call (Value.builtin "list.append") _) _ _ _) | (with_reducible show wpAny _ _ (eval (Expr.ListComp _ _ _ _) _) _ _ _) | (with_reducible show wpAny _ _ (exec (Stmt.Assign _ (Expr.ListComp _ _ _ _) _) _) _ _ _) | (with_reducible show wpAny _ _ (compareOp CmpOp.NotEq (Value.ref _) (Value.ref _)) _ _ _) | (with_reducible show wpAny _ _ (compareOp CmpOp.Eq (Value.ref _) (Value.ref _)) _ _ _) | (with_reducible show wpAny _ _ (subscriptTail _ _ (Value.ref _) (Value.int _ _)) _ _ _))); (first | walk1 | (dsimp only; walk1)))))
        k_dflt (refine' append_K ?F ?N ?U ?_ ?hz; (case F => k_asm); (case N => k_asm); (case U => first | exact Upd.head (upd_sep hn1 hsep (by simp)) | exact Upd.tail (by k_ne) (Upd.head (upd_sep hn1 hsep (by simp)))); (case hz => rw [List.size_toArray, PySem.sizeLine_eq]; omega))
        intro h' F' N'
        (repeat' (first | (k_unfold; (try dsimp only)) | ((fail_if_success (first | (with_reducible show wpAny _ _ (setItem _ _ _) _ _ _) | (with_reducible show wpAny _ _ (call (Value.builtin "dict.get") _) _ _ _) | (with_reducible show wpAny _ _ (exec (Stmt.While _ _ _ _) _) _ _ _) | (with_reducible show wpAny _ _ (exec (Stmt.For _ _ _ _ _) _) _ _ _) | (with_reducible show wpAny _ _ (pyIter _) _ _ _) | (with_reducible show wpAny _ _ (call (Value.builtin "list.append") _) _ _ _) | (with_reducible show wpAny _ _ (eval (Expr.ListComp _ _ _ _) _) _ _ _) | (with_reducible show wpAny _ _ (exec (Stmt.Assign _ (Expr.ListComp _ _ _ _) _) _) _ _ _) | (with_reducible show wpAny _ _ (compareOp CmpOp.NotEq (Value.ref _) (Value.ref _)) _ _ _) | (with_reducible show wpAny _ _ (compareOp CmpOp.Eq (Value.ref _) (Value.ref _)) _ _ _) | (with_reducible show wpAny _ _ (subscriptTail _ _ (Value.ref _) (Value.int _ _)) _ _ _))); (first | walk1 | (dsimp only; walk1)))))
        rw [List.push_toArray] at N'
        refine kd_end ⟨c.vs ++ [pickD cv (plD (some i))], c.k + 1⟩ [] hsep (by assumption) (N') ?_ ?_ rfl (by intro _ h; cases h) (by intro _ h; cases h) (by intro _ h; cases h) ?_ trivial (by rw [hp, List.map_append]; simp only [List.map_cons, List.map_nil]; try rw [hcv])
        · intro p hp; grind
        · intro p hp; grind
        · intro z h1 _ h3; simp only [if_neg h1, kstB, h3]; rfl
      · have hcv : pickD cv (plD (some i)) = .none := by simp only [plD, pickD, if_neg hi]
        (repeat' (first | (k_unfold; (try dsimp only)) | ((fail_if_success (first | (with_reducible show wpAny _ _ (setItem _ _ _) _ _ _) | (with_reducible show wpAny _ _ (call (Value.builtin "dict.get") _) _ _ _) | (with_reducible show wpAny _ _ (exec (Stmt.While _ _ _ _) _) _ _ _) | (with_reducible show wpAny _ _ (exec (Stmt.For _ _ _ _ _) _) _ _ _) | (with_reducible show wpAny _ _ (pyIter _) _ _ _) | (with_reducible show wpAny _ _ (call (Value.builtin "list.append") _) _ _ _) | (with_reducible show wpAny _ _ (eval (Expr.ListComp _ _ _ _) _) _ _ _) | (with_reducible show wpAny _ _ (exec (Stmt.Assign _ (Expr.ListComp _ _ _ _) _) _) _ _ _) | (with_reducible show wpAny _ _ (compareOp CmpOp.NotEq (Value.ref _) (Value.ref _)) _ _ _) | (with_reducible show wpAny _ _ (compareOp CmpOp.Eq (Value.ref _) (Value.ref _)) _ _ _) | (with_reducible show wpAny _ _ (subscriptTail _ _ (Value.ref _) (Value.int _ _)) _ _ _))); (first | walk1 | (dsimp only; walk1)))))
        k_dflt (refine' append_K ?F ?N ?U ?_ ?hz; (case F => k_asm); (case N => k_asm); (case U => first | exact Upd.head (upd_sep hn1 hsep (by simp)) | exact Upd.tail (by k_ne) (Upd.head (upd_sep hn1 hsep (by simp)))); (case hz => rw [List.size_toArray, PySem.sizeLine_eq]; omega))
        intro h' F' N'
        (repeat' (first | (k_unfold; (try dsimp only)) | ((fail_if_success (first | (with_reducible show wpAny _ _ (setItem _ _ _) _ _ _) | (with_reducible show wpAny _ _ (call (Value.builtin "dict.get") _) _ _ _) | (with_reducible show wpAny _ _ (exec (Stmt.While _ _ _ _) _) _ _ _) | (with_reducible show wpAny _ _ (exec (Stmt.For _ _ _ _ _) _) _ _ _) | (with_reducible show wpAny _ _ (pyIter _) _ _ _) | (with_reducible show wpAny _ _ (call (Value.builtin "list.append") _) _ _ _) | (with_reducible show wpAny _ _ (eval (Expr.ListComp _ _ _ _) _) _ _ _) | (with_reducible show wpAny _ _ (exec (Stmt.Assign _ (Expr.ListComp _ _ _ _) _) _) _ _ _) | (with_reducible show wpAny _ _ (compareOp CmpOp.NotEq (Value.ref _) (Value.ref _)) _ _ _) | (with_reducible show wpAny _ _ (compareOp CmpOp.Eq (Value.ref _) (Value.ref _)) _ _ _) | (with_reducible show wpAny _ _ (subscriptTail _ _ (Value.ref _) (Value.int _ _)) _ _ _))); (first | walk1 | (dsimp only; walk1)))))
        rw [List.push_toArray] at N'
        refine kd_end ⟨c.vs ++ [.none], c.k + 1⟩ [] hsep (by assumption) (N') ?_ ?_ rfl (by intro _ h; cases h) (by intro _ h; cases h) (by intro _ h; cases h) ?_ trivial (by rw [hp, List.map_append]; simp only [List.map_cons, List.map_nil]; try rw [hcv])
        · intro p hp; grind
        · intro p hp; grind
        · intro z h1 _ h3; simp only [if_neg h1, kstB, h3]; rfl
  · rintro ⟨_, ck⟩ tl u h tk hoff _ rfl F₁ N₁
    simp only [List.cons_append, List.nil_append] at N₁
    (repeat' (first | (k_unfold; (try dsimp only)) | ((fail_if_success (first | (with_reducible show wpAny _ _ (setItem _ _ _) _ _ _) | (with_reducible show wpAny _ _ (call (Value.builtin "dict.get") _) _ _ _) | (with_reducible show wpAny _ _ (exec (Stmt.While _ _ _ _) _) _ _ _) | (with_reducible show wpAny _ _ (exec (Stmt.For _ _ _ _ _) _) _ _ _) | (with_reducible show wpAny _ _ (pyIter _) _ _ _) | (with_reducible show wpAny _ _ (call (Value.builtin "list.append") _) _ _ _) | (with_reducible show wpAny _ _ (eval (Expr.ListComp _ _ _ _) _) _ _ _) | (with_reducible show wpAny _ _ (exec (Stmt.Assign _ (Expr.ListComp _ _ _ _) _) _) _ _ _) | (with_reducible show wpAny _ _ (compareOp CmpOp.NotEq (Value.ref _) (Value.ref _)) _ _ _) | (with_reducible show wpAny _ _ (compareOp CmpOp.Eq (Value.ref _) (Value.ref _)) _ _ _) | (with_reducible show wpAny _ _ (compareOp CmpOp.In _ (Value.ref _)) _ _ _) | (with_reducible show wpAny _ _ (compareOp CmpOp.NotIn _ (Value.ref _)) _ _ _))); (first | walk1 | (dsimp only; walk1)))))
    first | with_reducible rename News h₀ L _ _ => kN | rename News h₀ L _ _ => kN
    refine ret _ _ lr ck _ _ _ _ _ _ _ _ ?_ (news_cut3 kN) l1 ?_ ?_
    · assumption
    · first | assumption | omega
    · first | assumption | omega



theorem ints_reverse {vs : List Value} {ns : List Int} (h : IntsAre vs ns) : IntsAre vs.reverse ns.reverse := by
  induction h with
  | nil => exact .nil
  | cons n t _ ih => rw [List.reverse_cons, List.reverse_cons]; exact ih.append (.cons n t .nil)
structure CV where
  vs : List Value
  k : Nat
  ns : List Int
structure CVB where
  vs : List Value
  k : Nat
  ns : List Int
  b : Int
  tb : Tok
set_option maxRecDepth 100000 in
set_option maxHeartbeats 8000000 in
theorem cards_tell {w : World} {mean : ExcName → Option Value} {mg mb : Str → Option Value} {dp un : Nat} {gd : Option (List Code)} {cn : Str} {cs : Scope} {a : Addr} {ccd : Value} {cl : List (Str × Addr)} {outer : List Env} {A₀ : Around} {base h₀ : Heap} {L : Addr} {m : Str → Option Value} {s : Shared} {Q E : Value → Shared → Prop} {l : Addr} {vs : List Value} {ns : List Int} {news : List (Addr × Obj)}
    (B : Below A₀ base outer h₀) (F : Fr h₀ L s.heap m) (X : (Mine.K w.params).In h₀) (T : Top Mine.q (looseW Mine.q Mine.lo) mean mg mb h₀) (hk : cs.kind = .function)
    (hd : dp + 8 < recursionLimit) (hu : un + 400 < cLine) (N : News h₀ L s.heap news)
    (hl : base.IsList l vs.toArray) (hi : IntsAre vs ns) (hn : ns.length ≤ 63)
    (ret : ∀ r cv ci k h' tk', Fr h₀ L h' m → News h₀ L h' ((r, listOf cv.toArray k) :: news) → (∀ p ∈ news, p.1 < r) → IntsAre cv ci → ci.length ≤ 140 → Q (.ref r) { s with heap := h', toks := tk' }) :
    wpAny (model Challenge.rw_pq1321_01.row.prog w) (ktrTop dp un gd cn cs L a ccd cl outer) (call (.ref 308) [.ref l]) Q E s := by
  refine wpAny_call ?_
  k_dflt cell_enter
  (repeat' (first | (k_unfold; (try dsimp only)) | ((fail_if_success (first | (with_reducible show wpAny _ _ (setItem _ _ _) _ _ _) | (with_reducible show wpAny _ _ (call (Value.builtin "dict.get") _) _ _ _) | (with_reducible show wpAny _ _ (exec (Stmt.While _ _ _ _) _) _ _ _) | (with_reducible show wpAny _ _ (exec (Stmt.For _ _ _ _ _) _) _ _ _) | (with_reducible show wpAny _ _ (pyIter _) _ _ _) | (with_reducible show wpAny _ _ (call (Value.builtin "list.append") _) _ _ _) | (with_reducible show wpAny _ _ (eval (Expr.ListComp _ _ _ _) _) _ _ _) | (with_reducible show wpAny _ _ (exec (Stmt.Assign _ (Expr.ListComp _ _ _ _) _) _) _ _ _) | (with_reducible show wpAny _ _ (compareOp CmpOp.NotEq (Value.ref _) (Value.ref _)) _ _ _) | (with_reducible show wpAny _ _ (compareOp CmpOp.Eq (Value.ref _) (Value.ref _)) _ _ _) | (with_reducible show wpAny _ _ (compareOp CmpOp.In _ (Value.ref _)) _ _ _) | (with_reducible show wpAny _ _ (compareOp CmpOp.NotIn _ (Value.ref _)) _ _ _))); (first | walk1 | (dsimp only; walk1)))))
  first | with_reducible rename Fr _ _ _ _ => F0 | rename Fr _ _ _ _ => F0
  with_unfolding_all refine For_invVF F0 (by rfl) (by rfl) ?_
  (repeat' (first | (k_unfold; (try dsimp only)) | ((fail_if_success (first | (with_reducible show wpAny _ _ (setItem _ _ _) _ _ _) | (with_reducible show wpAny _ _ (call (Value.builtin "dict.get") _) _ _ _) | (with_reducible show wpAny _ _ (exec (Stmt.While _ _ _ _) _) _ _ _) | (with_reducible show wpAny _ _ (exec (Stmt.For _ _ _ _ _) _) _ _ _) | (with_reducible show wpAny _ _ (pyIter _) _ _ _) | (with_reducible show wpAny _ _ (call (Value.builtin "list.append") _) _ _ _) | (with_reducible show wpAny _ _ (eval (Expr.ListComp _ _ _ _) _) _ _ _) | (with_reducible show wpAny _ _ (exec (Stmt.Assign _ (Expr.ListComp _ _ _ _) _) _) _ _ _) | (with_reducible show wpAny _ _ (compareOp CmpOp.NotEq (Value.ref _) (Value.ref _)) _ _ _) | (with_reducible show wpAny _ _ (compareOp CmpOp.Eq (Value.ref _) (Value.ref _)) _ _ _) | (with_reducible show wpAny _ _ (compareOp CmpOp.In _ (Value.ref _)) _ _ _) | (with_reducible show wpAny _ _ (compareOp CmpOp.NotIn _ (Value.ref _)) _ _ _))); (first | walk1 | (dsimp only; walk1)))))
  first | with_reducible rename Fr _ _ _ _ => F' | rename Fr _ _ _ _ => F'
  first | with_reducible rename News _ _ _ ((_, listOf _ _) :: (_, listOf _ _) :: news) => N' | rename News _ _ _ ((_, listOf _ _) :: (_, listOf _ _) :: news) => N'
  first | with_reducible rename IntsAre _ (List.take 50 ns) => hI | rename IntsAre _ (List.take 50 ns) => hI
  first | with_reducible rename (_ ∧ AllLt _ news) => l1D | rename (_ ∧ AllLt _ news) => l1D
  rename ∀ p ∈ news, p.1 < _ => l1
  rename (List.take 50 ns).length = _ => hC
  rename_i dc _ _ D ws _ _
  have hnc : ∀ p ∈ news, p.1 ≠ dc := fun p hp => Nat.ne_of_lt (l1 p hp)
  have hnD : ∀ p ∈ news, p.1 ≠ D := fun p hp => Nat.ne_of_lt (ktn_ltOf l1D.2 p hp)
  have hcD : dc ≠ D := Nat.ne_of_lt l1D.1
  have hncD : ∀ p ∈ (D, listOf ws.toArray 0) :: news, p.1 ≠ dc := List.forall_mem_cons.mpr ⟨Ne.symm hcD, hnc⟩
  have hdat : ∀ L9, DatAll L9 ws ((List.take 50 ns).map Dat.int) := fun _ => ints_dat hI
  with_unfolding_all refine kd_listL (σ := CV) (ds := (List.take 50 ns).map Dat.int) (fun c => [(dc, listOf c.vs.toArray c.k)]) ((D, listOf ws.toArray 0) :: news) (fun _ => []) (fun _ c => IntsAre c.vs c.ns) [Str.ofString "bunch", Str.ofString "lap"] (fun pre c => c.ns.length ≤ 12 * pre.length) (dc :: D :: news.map (·.1)) ⟨[], 0, []⟩ (by rfl) (List.mem_cons_self) (hdat _) F' N' ?_ (fun _ => rfl) .nil (by intro _ h; cases h) (Nat.zero_le _) ?_ ?_
  · intro p hp; grind
  · clear F' N'
    intro c tl pre d post v u h tk own hds hd' hv hsep hoff hf hp F₁ N₁
    simp only [List.cons_append, List.nil_append] at N₁
    have hpl : pre.length ≤ 49 := by have := congrArg List.length hds; simp at this; omega
    obtain ⟨q, hq, rfl⟩ := List.mem_map.mp hd'
    rcases hv with _ | _ | ⟨_, ti⟩ | _ | _ | _ | _
    (repeat' (first | (k_unfold; (try dsimp only)) | ((fail_if_success (first | (with_reducible show wpAny _ _ (setItem _ _ _) _ _ _) | (with_reducible show wpAny _ _ (call (Value.builtin "dict.get") _) _ _ _) | (with_reducible show wpAny _ _ (exec (Stmt.While _ _ _ _) _) _ _ _) | (with_reducible show wpAny _ _ (exec (Stmt.For _ _ _ _ _) _) _ _ _) | (with_reducible show wpAny _ _ (pyIter _) _ _ _) | (with_reducible show wpAny _ _ (call (Value.builtin "list.append") _) _ _ _) | (with_reducible show wpAny _ _ (eval (Expr.ListComp _ _ _ _) _) _ _ _) | (with_reducible show wpAny _ _ (exec (Stmt.Assign _ (Expr.ListComp _ _ _ _) _) _) _ _ _) | (with_reducible show wpAny _ _ (compareOp CmpOp.NotEq (Value.ref _) (Value.ref _)) _ _ _) | (with_reducible show wpAny _ _ (compareOp CmpOp.Eq (Value.ref _) (Value.ref _)) _ _ _) | (with_reducible show wpAny _ _ (compareOp CmpOp.In _ (Value.ref _)) _ _ _) | (with_reducible show wpAny _ _ (compareOp CmpOp.NotIn _ (Value.ref _)) _ _ _))); (first | walk1 | (dsimp only; walk1)))))
    all_goals (
      first | with_reducible rename Fr _ _ _ _ => F0 | rename Fr _ _ _ _ => F0
      with_unfolding_all refine For_invVF F0 (by rfl) (by rfl) ?_
      (repeat' (first | (k_unfold; (try dsimp only)) | ((fail_if_success (first | (with_reducible show wpAny _ _ (setItem _ _ _) _ _ _) | (with_reducible show wpAny _ _ (call (Value.builtin "dict.get") _) _ _ _) | (with_reducible show wpAny _ _ (exec (Stmt.While _ _ _ _) _) _ _ _) | (with_reducible show wpAny _ _ (exec (Stmt.For _ _ _ _ _) _) _ _ _) | (with_reducible show wpAny _ _ (pyIter _) _ _ _) | (with_reducible show wpAny _ _ (call (Value.builtin "list.append") _) _ _ _) | (with_reducible show wpAny _ _ (eval (Expr.ListComp _ _ _ _) _) _ _ _) | (with_reducible show wpAny _ _ (exec (Stmt.Assign _ (Expr.ListComp _ _ _ _) _) _) _ _ _) | (with_reducible show wpAny _ _ (compareOp CmpOp.NotEq (Value.ref _) (Value.ref _)) _ _ _) | (with_reducible show wpAny _ _ (compareOp CmpOp.Eq (Value.ref _) (Value.ref _)) _ _ _) | (with_reducible show wpAny _ _ (compareOp CmpOp.In _ (Value.ref _)) _ _ _) | (with_reducible show wpAny _ _ (compareOp CmpOp.NotIn _ (Value.ref _)) _ _ _))); (first | walk1 | (dsimp only; walk1)))))
      have hin : ∀ p ∈ (D, listOf ws.toArray 0) :: (news ++ (tl ++ own)), p.1 ≠ dc := List.forall_mem_cons.mpr ⟨Ne.symm hcD, upd_sep hnc hsep (by simp)⟩
      first | with_reducible rename Fr _ _ _ _ => F' | rename Fr _ _ _ _ => F'
      first | with_reducible rename News _ _ _ ((dc, listOf _ _) :: _) => N' | rename News _ _ _ ((dc, listOf _ _) :: _) => N'
      first | with_reducible rename IsRange _ _ _ _ _ _ _ _ => hR | rename IsRange _ _ _ _ _ _ _ _ => hR
      obtain ⟨b, tb, F'⟩ := fr_int (x := Str.ofString "bunch") F'
      with_unfolding_all refine kd_range (σ := CVB) (n := 12) (fun c => [(dc, listOf c.vs.toArray c.k)]) ((D, listOf ws.toArray 0) :: (news ++ (tl ++ own))) (fun c => [(Str.ofString "bunch", Value.int c.b c.tb)]) (fun _ c => IntsAre c.vs c.ns) [] (fun pre d => d.ns.length ≤ c.ns.length + pre.length) (dc :: D :: (news ++ (tl ++ own)).map (·.1)) ⟨c.vs, c.k, c.ns, b, tb⟩ (by rfl) hR (by rfl) (by rfl) F' N' ?_ (fun _ => rfl) hf ?_ (Nat.le_refl c.ns.length) ?_ ?_
      · intro p hp; grind
      · intro p hp; simp only [List.mem_singleton] at hp; subst hp; rfl
      · clear F' N' hR
        intro c2 tl2 pre2 k2 t2 u2 h2 tk2 own2 hk2 hpl2 hsep2 hoff2 hf2 hp2 F₂ N₂
        simp only [List.cons_append, List.nil_append] at N₂
        (repeat' (first | (k_unfold; (try dsimp only)) | ((fail_if_success (first | (with_reducible show wpAny _ _ (setItem _ _ _) _ _ _) | (with_reducible show wpAny _ _ (call (Value.builtin "dict.get") _) _ _ _) | (with_reducible show wpAny _ _ (exec (Stmt.While _ _ _ _) _) _ _ _) | (with_reducible show wpAny _ _ (exec (Stmt.For _ _ _ _ _) _) _ _ _) | (with_reducible show wpAny _ _ (pyIter _) _ _ _) | (with_reducible show wpAny _ _ (call (Value.builtin "list.append") _) _ _ _) | (with_reducible show wpAny _ _ (eval (Expr.ListComp _ _ _ _) _) _ _ _) | (with_reducible show wpAny _ _ (exec (Stmt.Assign _ (Expr.ListComp _ _ _ _) _) _) _ _ _) | (with_reducible show wpAny _ _ (compareOp CmpOp.NotEq (Value.ref _) (Value.ref _)) _ _ _) | (with_reducible show wpAny _ _ (compareOp CmpOp.Eq (Value.ref _) (Value.ref _)) _ _ _) | (with_reducible show wpAny _ _ (compareOp CmpOp.In _ (Value.ref _)) _ _ _) | (with_reducible show wpAny _ _ (compareOp CmpOp.NotIn _ (Value.ref _)) _ _ _))); (first | walk1 | (dsimp only; walk1)))))
        have hvl : c2.vs.length ≤ 1000 := by rw [hf2.length]; have := hp2; omega
        k_dflt (refine' append_K ?F ?N ?U ?_ ?hz; (case F => k_asm); (case N => k_asm); (case U => exact Upd.head (upd_sep hin hsep2 (by simp))); (case hz => rw [List.size_toArray, PySem.sizeLine_eq]; omega))
        intro h' F' N'
        rw [List.push_toArray] at N'
        obtain ⟨vf, hvf, N'⟩ := led_name (e := Dat.int (c2.b.fmod 260)) N' (.int _ _)
        rcases hvf with _ | _ | ⟨_, tf⟩ | _ | _ | _ | _
        have hf3 : IntsAre (c2.vs ++ [.int (c2.b.fmod 260) tf]) (c2.ns ++ [c2.b.fmod 260]) := hf2.append (.cons _ _ .nil)
        (repeat' (first | (k_unfold; (try dsimp only)) | ((fail_if_success (first | (with_reducible show wpAny _ _ (setItem _ _ _) _ _ _) | (with_reducible show wpAny _ _ (call (Value.builtin "dict.get") _) _ _ _) | (with_reducible show wpAny _ _ (exec (Stmt.While _ _ _ _) _) _ _ _) | (with_reducible show wpAny _ _ (exec (Stmt.For _ _ _ _ _) _) _ _ _) | (with_reducible show wpAny _ _ (pyIter _) _ _ _) | (with_reducible show wpAny _ _ (call (Value.builtin "list.append") _) _ _ _) | (with_reducible show wpAny _ _ (eval (Expr.ListComp _ _ _ _) _) _ _ _) | (with_reducible show wpAny _ _ (exec (Stmt.Assign _ (Expr.ListComp _ _ _ _) _) _) _ _ _) | (with_reducible show wpAny _ _ (compareOp CmpOp.NotEq (Value.ref _) (Value.ref _)) _ _ _) | (with_reducible show wpAny _ _ (compareOp CmpOp.Eq (Value.ref _) (Value.ref _)) _ _ _) | (with_reducible show wpAny _ _ (compareOp CmpOp.In _ (Value.ref _)) _ _ _) | (with_reducible show wpAny _ _ (compareOp CmpOp.NotIn _ (Value.ref _)) _ _ _))); (first | walk1 | (dsimp only; walk1)))))
        · refine kd_end ⟨c2.vs ++ [.int (c2.b.fmod 260) tf], c2.k + 1, c2.ns ++ [c2.b.fmod 260]⟩ [] hsep (by assumption) (by assumption) ?_ ?_ rfl (by intro _ h; cases h) (by intro _ h; cases h) (by intro _ h; cases h) ?_ hf3 ?_
          · intro p hp; grind
          · intro p hp; grind
          · intro z h1 _ h3; simp at h3; simp [h1, h3, kstB]
          · simp only [List.length_append, List.length_singleton]; omega
        · first | with_reducible rename Fr _ _ _ _ => F' | rename Fr _ _ _ _ => F'
          obtain ⟨b', tb', F'⟩ := fr_int (x := Str.ofString "bunch") F'
          refine kd_end ⟨c2.vs ++ [.int (c2.b.fmod 260) tf], c2.k + 1, c2.ns ++ [c2.b.fmod 260], b', tb'⟩ [] hsep2 F' (by assumption) ?_ ?_ rfl (by intro _ h; cases h) (by intro _ h; cases h) ?_ ?_ hf3 ?_
          · intro p hp; grind
          · intro p hp; grind
          · intro p hp; simp only [List.mem_singleton] at hp; subst hp; rfl
          · intro z h1 h2 h3
            have h2 : z ≠ Str.ofString "bunch" := h2 _ (List.mem_singleton.mpr rfl)
            simp [h1, h2, kstB]
          · simp only [List.length_append, List.length_singleton]; omega
      · intro c2 tl2 u2 h2 tk2 hoff2 hf2 hp2 F₂ N₂
        rw [rangeKs_length] at hp2
        (repeat' (first | (k_unfold; (try dsimp only)) | ((fail_if_success (first | (with_reducible show wpAny _ _ (setItem _ _ _) _ _ _) | (with_reducible show wpAny _ _ (call (Value.builtin "dict.get") _) _ _ _) | (with_reducible show wpAny _ _ (exec (Stmt.While _ _ _ _) _) _ _ _) | (with_reducible show wpAny _ _ (exec (Stmt.For _ _ _ _ _) _) _ _ _) | (with_reducible show wpAny _ _ (pyIter _) _ _ _) | (with_reducible show wpAny _ _ (call (Value.builtin "list.append") _) _ _ _) | (with_reducible show wpAny _ _ (eval (Expr.ListComp _ _ _ _) _) _ _ _) | (with_reducible show wpAny _ _ (exec (Stmt.Assign _ (Expr.ListComp _ _ _ _) _) _) _ _ _) | (with_reducible show wpAny _ _ (compareOp CmpOp.NotEq (Value.ref _) (Value.ref _)) _ _ _) | (with_reducible show wpAny _ _ (compareOp CmpOp.Eq (Value.ref _) (Value.ref _)) _ _ _) | (with_reducible show wpAny _ _ (compareOp CmpOp.In _ (Value.ref _)) _ _ _) | (with_reducible show wpAny _ _ (compareOp CmpOp.NotIn _ (Value.ref _)) _ _ _))); (first | walk1 | (dsimp only; walk1)))))
        refine kd_end ⟨c2.vs, c2.k, c2.ns⟩ [] hsep (by assumption) (by assumption) ?_ ?_ rfl (by intro _ h; cases h) (by intro _ h; cases h) (by intro _ h; cases h) ?_ hf2 ?_
        · intro p hp; grind
        · intro p hp; grind
        · intro z h1 _ h3; simp at h3; simp [h1, h3, kstB]
        · simp only [List.length_append, List.length_singleton]; omega)
  · intro c tl u h tk hoff hf hp F₁ N₁
    simp only [List.cons_append, List.nil_append] at N₁
    have hcl : c.ns.length ≤ 600 := by simp only [List.length_map, hC] at hp; omega
    (repeat' (first | (k_unfold; (try dsimp only)) | ((fail_if_success (first | (with_reducible show wpAny _ _ (setItem _ _ _) _ _ _) | (with_reducible show wpAny _ _ (call (Value.builtin "dict.get") _) _ _ _) | (with_reducible show wpAny _ _ (exec (Stmt.While _ _ _ _) _) _ _ _) | (with_reducible show wpAny _ _ (exec (Stmt.For _ _ _ _ _) _) _ _ _) | (with_reducible show wpAny _ _ (pyIter _) _ _ _) | (with_reducible show wpAny _ _ (call (Value.builtin "list.append") _) _ _ _) | (with_reducible show wpAny _ _ (eval (Expr.ListComp _ _ _ _) _) _ _ _) | (with_reducible show wpAny _ _ (exec (Stmt.Assign _ (Expr.ListComp _ _ _ _) _) _) _ _ _) | (with_reducible show wpAny _ _ (compareOp CmpOp.NotEq (Value.ref _) (Value.ref _)) _ _ _) | (with_reducible show wpAny _ _ (compareOp CmpOp.Eq (Value.ref _) (Value.ref _)) _ _ _) | (with_reducible show wpAny _ _ (compareOp CmpOp.In _ (Value.ref _)) _ _ _) | (with_reducible show wpAny _ _ (compareOp CmpOp.NotIn _ (Value.ref _)) _ _ _))); (first | walk1 | (dsimp only; walk1)))))
    first | with_reducible rename IntsAre _ (List.take 140 c.ns) => hI2 | rename IntsAre _ (List.take 140 c.ns) => hI2
    rename (List.take 140 c.ns).length = _ => hC2
    first | with_reducible rename (_ ∧ _ ∧ AllLt _ (news ++ tl)) => l1E | rename (_ ∧ _ ∧ AllLt _ (news ++ tl)) => l1E
    rename_i D2 ws2 _ _ _ _ _ _ _
    have hln := hI2.length
    have hrest : ∀ p ∈ (dc, listOf c.vs.toArray c.k) :: (D, listOf ws.toArray 0) :: (news ++ tl), p.1 ≠ D2 := List.forall_mem_cons.mpr ⟨Nat.ne_of_lt l1E.1, List.forall_mem_cons.mpr ⟨Nat.ne_of_lt l1E.2.1, fun p hp => Nat.ne_of_lt (ktn_ltOf l1E.2.2 p hp)⟩⟩
    k_dflt (refine' kl_reverse (l := ws2.reverse) ?F ?N ?e ?U ?z ?_; (case F => k_asm); (case N => k_asm); (case U => exact Upd.head hrest); (case e => simp); (case z => (rw [PySem.sizeLine_eq]; simp; omega)))
    intro h' F' N'
    (repeat' (first | (k_unfold; (try dsimp only)) | ((fail_if_success (first | (with_reducible show wpAny _ _ (setItem _ _ _) _ _ _) | (with_reducible show wpAny _ _ (call (Value.builtin "dict.get") _) _ _ _) | (with_reducible show wpAny _ _ (exec (Stmt.While _ _ _ _) _) _ _ _) | (with_reducible show wpAny _ _ (exec (Stmt.For _ _ _ _ _) _) _ _ _) | (with_reducible show wpAny _ _ (pyIter _) _ _ _) | (with_reducible show wpAny _ _ (call (Value.builtin "list.append") _) _ _ _) | (with_reducible show wpAny _ _ (eval (Expr.ListComp _ _ _ _) _) _ _ _) | (with_reducible show wpAny _ _ (exec (Stmt.Assign _ (Expr.ListComp _ _ _ _) _) _) _ _ _) | (with_reducible show wpAny _ _ (compareOp CmpOp.NotEq (Value.ref _) (Value.ref _)) _ _ _) | (with_reducible show wpAny _ _ (compareOp CmpOp.Eq (Value.ref _) (Value.ref _)) _ _ _) | (with_reducible show wpAny _ _ (compareOp CmpOp.In _ (Value.ref _)) _ _ _) | (with_reducible show wpAny _ _ (compareOp CmpOp.NotIn _ (Value.ref _)) _ _ _))); (first | walk1 | (dsimp only; walk1)))))
    first | with_reducible rename News h₀ L _ _ => kN | rename News h₀ L _ _ => kN
    refine ret _ ws2.reverse (List.take 140 c.ns).reverse 0 _ _ ?_ (cb_drop kN (by intro p hp; grind)) (fun p hp => ktn_ltOf l1E.2.2 p (List.mem_append.mpr (.inl hp))) hI2.reverse (by rw [List.length_reverse, hC2]; omega)
    assumption


section
variable {prog : Program} {w : World} {A : Around} {h₀ : Heap} {L : Addr} {m : Str → Option Value} {env : Env} {elt : PySem.Expr} {x : Str} {scope : Scope} {cl : List (Str × Addr)} {s : Shared} {S : List (Addr × Obj) → Prop} {P : Nat → Value → Prop} {Fin : List Value → List (Addr × Obj) → Prop} {news : List (Addr × Obj)}
/-- a block's turns by what holds of what was made -/
theorem comp_led {n : Nat} (J : Nat → List Value → List (Addr × Obj) → Prop) (h0 : J 0 [] news)
    (turn : ∀ i v nx I oI C oC D m₂ ys h tk (E' : Value → Shared → Prop), i < n → P i v → J i ys nx → LCg.NsObj oC m₂ → m₂ x = some v → Fr h₀ L h m → News h₀ L h ((I, oI) :: (C, oC) :: (D, LCg.lst ys) :: nx) → LCg.Off3 I C D nx → ((@Ne Nat I C) ∧ (@Ne Nat I D) ∧ (@Ne Nat C D)) →
      wpAny (model prog w) A (eval elt (compEnvC scope cl C env)) (LCg.CompEnd h₀ L m { s with heap := h, toks := tk } I oI C oC D (LCg.lst ys) S (fun y nx' => J (i + 1) (ys ++ [y]) nx')) E' { s with heap := h, toks := tk })
    (fin : ∀ ys nx, J n ys nx → Fin ys nx) : LCg.CompRest prog w A h₀ L m env elt x scope cl s S P Fin n 0 [] news := by
  have key : ∀ (j i : Nat) (ys : List Value) nx, i + j = n → J i ys nx → LCg.CompRest prog w A h₀ L m env elt x scope cl s S P Fin j i ys nx := by
    intro j
    induction j with
    | zero => intro i ys nx hi hy; have e : i = n := by omega
              subst e; exact LCg.CompRest.zero (fin ys nx hy)
    | succ j ih =>
      intro i ys nx hi hy
      refine LCg.CompRest.succ ?_
      intro v I oI C oC D m₂ h tk E' hv hC hx F N off ne
      refine wpAny_mono (turn i v nx I oI C oC D m₂ ys h tk E' (by omega) hv hy hC hx F N off ne) (fun y s₂ hq => ?_) fun _ _ e => e
      obtain ⟨h', tk', nw, e, F', N', off', hS, hJ⟩ := hq
      exact ⟨h', tk', nw, e, F', N', off', hS, ih (i + 1) _ _ (by omega) hJ⟩
  exact key n 0 [] news (by omega) h0
theorem dat_at {vs : List Value} {ds : List Dat} (hd : DatAll [] vs ds) {i : Nat} {v : Value} (hv : vs.toArray[i]? = some v) : ∃ d, ds[i]? = some d ∧ d ∈ ds ∧ DatIn [] v d := by
  have hv : vs[i]? = some v := by simpa using hv
  have hi : i < vs.length := (List.getElem?_eq_some_iff.mp hv).1
  obtain ⟨v', hv', hD⟩ := hd.get (k := i) (by rw [← hd.length]; exact hi)
  rw [hv] at hv'
  cases hv'
  exact ⟨_, List.getElem?_eq_getElem (by rw [← hd.length]; exact hi), List.getElem_mem _, hD⟩
abbrev CompQ (news : List (Addr × Obj)) (G : Value → Prop) : Value → List (Addr × Obj) → Prop := fun y nx => nx = news ∧ G y
theorem comp_dat {vs : List Value} {ds : List Dat} (g : Dat → Dat) (hd : DatAll [] vs ds)
    (turn : ∀ d v I oI C oC D m₂ ys h tk (E' : Value → Shared → Prop), d ∈ ds → DatIn [] v d → LCg.NsObj oC m₂ → m₂ x = some v → Fr h₀ L h m → News h₀ L h ((I, oI) :: (C, oC) :: (D, LCg.lst ys) :: news) → LCg.Off3 I C D news → ((@Ne Nat I C) ∧ (@Ne Nat I D) ∧ (@Ne Nat C D)) →
      wpAny (model prog w) A (eval elt (compEnvC scope cl C env)) (LCg.CompEnd h₀ L m { s with heap := h, toks := tk } I oI C oC D (LCg.lst ys) S (CompQ news fun y => DatIn [] y (g d))) E' { s with heap := h, toks := tk })
    (fin : ∀ ys, DatAll [] ys (ds.map g) → Fin ys news) : LCg.CompRest prog w A h₀ L m env elt x scope cl s S (fun i v => vs.toArray[i]? = some v) Fin vs.toArray.size 0 [] news := by
  refine comp_led (fun i ys nx => nx = news ∧ DatAll [] ys ((ds.take i).map g)) ⟨rfl, by simpa using DatAll.nil⟩ ?_ ?_
  · rintro i v nx I oI C oC D m₂ ys h tk E' hi hv ⟨rfl, hy⟩ hC hx F N off ne
    obtain ⟨d, h1, h2, h3⟩ := dat_at hd hv
    refine wpAny_mono (turn d v I oI C oC D m₂ ys h tk E' h2 h3 hC hx F N off ne) (fun y s₂ hq => ?_) fun _ _ e => e
    obtain ⟨h', tk', nw, e, F', N', off', hS, e2, hy'⟩ := hq
    refine ⟨h', tk', nw, e, F', N', off', hS, e2, ?_⟩
    rw [List.take_add_one, h1, List.map_append]
    exact hy.append (.one hy')
  · rintro ys nx ⟨rfl, hy⟩
    rw [List.size_toArray, hd.length, List.take_length] at hy
    exact fin ys hy
theorem comp_val {vs : List Value} {ds : List Dat} (f : Dat → Value) (hd : DatAll [] vs ds)
    (turn : ∀ d v I oI C oC D m₂ ys h tk (E' : Value → Shared → Prop), d ∈ ds → DatIn [] v d → LCg.NsObj oC m₂ → m₂ x = some v → Fr h₀ L h m → News h₀ L h ((I, oI) :: (C, oC) :: (D, LCg.lst ys) :: news) → LCg.Off3 I C D news → ((@Ne Nat I C) ∧ (@Ne Nat I D) ∧ (@Ne Nat C D)) →
      wpAny (model prog w) A (eval elt (compEnvC scope cl C env)) (LCg.CompEnd h₀ L m { s with heap := h, toks := tk } I oI C oC D (LCg.lst ys) S (CompQ news fun y => y = f d)) E' { s with heap := h, toks := tk })
    (fin : Fin (ds.map f) news) : LCg.CompRest prog w A h₀ L m env elt x scope cl s S (fun i v => vs.toArray[i]? = some v) Fin vs.toArray.size 0 [] news := by
  refine comp_led (fun i ys nx => nx = news ∧ ys = (ds.take i).map f) ⟨rfl, rfl⟩ ?_ ?_
  · rintro i v nx I oI C oC D m₂ ys h tk E' hi hv ⟨rfl, hy⟩ hC hx F N off ne
    obtain ⟨d, h1, h2, h3⟩ := dat_at hd hv
    refine wpAny_mono (turn d v I oI C oC D m₂ ys h tk E' h2 h3 hC hx F N off ne) (fun y s₂ hq => ?_) fun _ _ e => e
    obtain ⟨h', tk', nw, e, F', N', off', hS, e2, hy'⟩ := hq
    refine ⟨h', tk', nw, e, F', N', off', hS, e2, ?_⟩
    rw [List.take_add_one, h1, List.map_append, hy, hy']; rfl
  · rintro ys nx ⟨rfl, hy⟩
    rw [List.size_toArray, hd.length, List.take_length] at hy
    subst hy; exact fin
/-- an element's end: the ledger is what it was, with what may be dropped ahead -/
theorem comp_end {I C D : Addr} {oI oC oD : Obj} {s₁ : Shared} {G : Value → Prop} {y : Value} {h' : Heap} {tk : Nat} {news' : List (Addr × Obj)}
    (F : Fr h₀ L h' m) (N : News h₀ L h' news') (hs : ∀ p ∈ (I, oI) :: (C, oC) :: (D, oD) :: news, p ∈ news') (off : LCg.Off3 I C D news) (hS : S news) (hG : G y) :
    LCg.CompEnd h₀ L m s₁ I oI C oC D oD S (CompQ news G) y { s₁ with heap := h', toks := tk } := LCg.CompEnd.intro F N news hs off hS ⟨rfl, hG⟩
end
theorem off1_mem {D : Addr} : ∀ {l : List (Addr × Obj)}, LCg.Off1 D l → ∀ p ∈ l, p.1 ≠ D
  | [], _, _, h => nomatch h
  | _ :: _, x, p, h => by
    rcases List.mem_cons.mp h with rfl | h
    · exact x.1
    · exact off1_mem x.2 p h
theorem news_drop1 {h₀ h : Heap} {L : Addr} {A B : Addr × Obj} {news : List (Addr × Obj)} (N : News h₀ L h (A :: B :: news)) : News h₀ L h (A :: news) := cb_drop N (by intro p hp; grind)
theorem news_drop2 {h₀ h : Heap} {L : Addr} {A B C : Addr × Obj} {news : List (Addr × Obj)} (N : News h₀ L h (A :: B :: C :: news)) : News h₀ L h (A :: news) := cb_drop N (by intro p hp; grind)
theorem src_ledger {h₀ : Heap} {ax : Addr} {its : Array Value} {k : Nat} {news : List (Addr × Obj)} (h : (ax, ({ cls := .type "list", data := .seq its k } : Obj)) ∈ news) : LCg.SrcAt h₀ ax its news := Or.inr ⟨_, h, rfl, _, rfl⟩


open PySem in
def isPl : Option Int → Value → Bool
  | none, .none => true
  | some i, v => Value.isInt i v
  | _, _ => false
theorem isPl_shape {k : Option Int} {v : Value} (h : isPl k v = true) : (k = none ∧ v = .none) ∨ ∃ i t, k = some i ∧ v = .int i t := by
  cases k with
  | none => cases v <;> simp_all [isPl]
  | some i => obtain ⟨t, e⟩ := Value.isInt_shape (show Value.isInt i v = true from h); exact .inr ⟨i, t, rfl, e⟩
def hashPl : Option Int → Int
  | none => reduceHash 4238894112
  | some i => hashInt i
section
variable {prog : Program} {w : World} {A : Around} {E : Value → Shared → Prop} {s : Shared}
theorem pyHash_none1 {Q : Int → Shared → Prop} (h : Q (reduceHash 4238894112) { s with toks := s.toks + 1 }) : wpAny (model prog w) A (PySem.pyHash .none) Q E s :=
  pyHash_slot (T := "NoneType") rfl F.slot_NoneType_hash F.entry_NoneType_hash (F.args_NoneType_hash_1 _) (beq_builtin_none _) (.inl rfl) (wpAny_bind (wpAny_pure (wpAny_bind (wpAny_mkInt (wpAny_pure ⟨_, _, rfl, h⟩)))))
theorem eqBool_none_none {Q : Bool → Shared → Prop} (h : Q true s) : wpAny (model prog w) A (PySem.eqBool .none .none) Q E s := by
  change wpAny (model prog w) A (do rule "eq-bool.same-object"; pure true) Q E s
  exact wpAny_bind (wpAny_rule (wpAny_pure h))
theorem eqBool_none_int {b : Int} {u : Tok} {Q : Bool → Shared → Prop} (h : Q false s) : wpAny (model prog w) A (PySem.eqBool .none (.int b u)) Q E s := by
  change wpAny (model prog w) A (do let r ← richCompare CmpOp.Eq Value.none (Value.int b u); truthOfDropped r) Q E s
  exact wpAny_bind (EqNone.eq_none_int (wpAny_truthy_bool h))
theorem eqBool_int_none {b : Int} {u : Tok} {Q : Bool → Shared → Prop} (h : Q false s) : wpAny (model prog w) A (PySem.eqBool (.int b u) .none) Q E s := by
  change wpAny (model prog w) A (do let r ← richCompare CmpOp.Eq (Value.int b u) Value.none; truthOfDropped r) Q E s
  exact wpAny_bind (EqNone.eq_int_none (wpAny_truthy_bool h))
end
def plKind (prog : Program) (w : World) : PySem.KeyKind prog w (Option Int) where
  is := isPl
  hash := hashPl
  inj := fun v a b ha hb => by
    rcases isPl_shape ha with ⟨rfl, rfl⟩ | ⟨i, t, rfl, rfl⟩ <;> rcases isPl_shape hb with ⟨rfl, h⟩ | ⟨j, u, rfl, h⟩ <;> simp_all
  byValue := fun k v h => by rcases isPl_shape h with ⟨rfl, rfl⟩ | ⟨i, t, rfl, rfl⟩ <;> rfl
  pyHash := fun hv h => by
    rcases isPl_shape hv with ⟨rfl, rfl⟩ | ⟨i, t, rfl, rfl⟩
    · exact pyHash_none1 h
    · exact wpAny_pyHash_int h
  eqBool := fun hu hv h => by
    rcases isPl_shape hu with ⟨rfl, rfl⟩ | ⟨i, t, rfl, rfl⟩ <;> rcases isPl_shape hv with ⟨rfl, rfl⟩ | ⟨j, u, rfl, rfl⟩
    · exact eqBool_none_none (by simpa using h)
    · exact eqBool_none_int (by simpa using h)
    · exact eqBool_int_none (by simpa using h)
    · exact wpAny_eqBool_int (by have e : (i == j) = decide (some i = some j) := by { by_cases h : i = j <;> simp [h] }
                                 rw [e]; exact h)
  «strs» := fun k x t v h => by rcases isPl_shape h with ⟨_, h⟩ | ⟨_, _, _, h⟩ <;> cases h
theorem empty_kind {prog : Program} {w : World} {K K' : Type} [DecidableEq K] [DecidableEq K'] {k1 : PySem.KeyKind prog w K} {k2 : PySem.KeyKind prog w K'} {o : Obj} (h : o.IsDictOf k1 []) : o.IsDictOf k2 [] := by
  unfold Obj.IsDictOf at h ⊢
  obtain ⟨es, ep, h1, h2, h3, h4, h5⟩ := h
  have he : es = #[] := by
    rcases es with ⟨l⟩
    cases l with
    | nil => rfl
    | cons e r => cases h4
  subst he
  exact ⟨#[], ep, h1, h2, fun e he => absurd he (by simp), .nil, List.nodup_nil⟩
theorem plKind_none {prog : Program} {w : World} : (plKind prog w).is none .none = true := rfl
theorem plKind_int {prog : Program} {w : World} {i : Int} {t : Tok} : (plKind prog w).is (some i) (.int i t) = true := by simp [plKind, isPl, Value.isInt]



def labelD : Dat → Dat
  | .int i => Dat.str (Str.ofString (toString i))
  | d => d
set_option maxRecDepth 100000 in
set_option maxHeartbeats 8000000 in
theorem labels_int_tell {w : World} {mean : ExcName → Option Value} {mg mb : Str → Option Value} {dp un : Nat} {gd : Option (List Code)} {cn : Str} {cs : Scope} {a : Addr} {ccd : Value} {cl : List (Str × Addr)} {outer : List Env} {A₀ : Around} {base h₀ : Heap} {L : Addr} {m : Str → Option Value} {s : Shared} {Q E : Value → Shared → Prop} {v dv lv : Addr} {mv : List Value} {k : Nat} {is : List Int} {t0 t1 t2 t3 t4 t5 : Tok} {sh lo : Bool} {news : List (Addr × Obj)}
    (B : Below A₀ base outer h₀) (F : Fr h₀ L s.heap m) (X : (Mine.K w.params).In h₀) (T : Top Mine.q (looseW Mine.q Mine.lo) mean mg mb h₀) (hk : cs.kind = .function)
    (hd : dp + 8 < recursionLimit) (hu : un + 400 < cLine) (N : News h₀ L s.heap news)
    (hv : (v, instObj 164 dv) ∈ news) (hdv : (dv, dictOf (vecEs w (Str.ofString "integer") t0 (.ref lv) .none sh lo t1 t2 t3 t4 t5) 5) ∈ news) (hlv : (lv, listOf mv.toArray k) ∈ news)
    (hmv : DatAll [] mv (is.map Dat.int)) (hml : mv.length ≤ 1000) (hi0 : ∀ i ∈ is, 0 ≤ i ∧ i ≤ 1000)
    (ret : ∀ r tv k h' tk', Fr h₀ L h' m → News h₀ L h' ((r, listOf tv.toArray k) :: news) → (∀ p ∈ news, p.1 ≠ r) → DatAll [] tv ((is.map Dat.int).map labelD) → Q (.ref r) { s with heap := h', toks := tk' }) :
    wpAny (model Challenge.rw_pq1321_01.row.prog w) (ktrTop dp un gd cn cs L a ccd cl outer) (call (.ref 215) [.ref v]) Q E s := by
  refine wpAny_call ?_
  k_dflt (refine' code_defC ?k1 ?k2 ?k3 ?k4 ?k5 ?kA ?kF ?kK ?k6 ?k7 ?k8 ?k9 ?kB ?kD ?_ ?c2 ?c3 ?c4; (case kA => exact rfl); (case kF => exact rfl); (case kK => first | assumption | exact rfl); (case k1 => k_asm); (case k2 => k_asm); (case k3 => k_asm); (case k4 => k_asm); (case k5 => k_asm); (case k6 => k_is); (case k7 => k_is); (case k8 => ktr_room); (case k9 => first | exact BindsTo.of_eq rfl | exact binds_K (by k_in) rfl (by k_is) rfl rfl rfl); (case kB => exact rfl); (case kD => decide +kernel); (case c2 => exact rfl); (case c3 => exact rfl); (case c4 => exact rfl); k_whole; intro g' L' h' tk' cells' FG' F' N' Y' B' X' T' l1; (try k_lt l1); k_cells Y'; (try simp only [List.cons_append, List.nil_append] at N'); (try dsimp only); (try k_lift B'); (try k_fold))
  (repeat' (first | (k_unfold; (try dsimp only)) | ((fail_if_success (first | (with_reducible show wpAny _ _ (setItem _ _ _) _ _ _) | (with_reducible show wpAny _ _ (call (Value.builtin "dict.get") _) _ _ _) | (with_reducible show wpAny _ _ (exec (Stmt.While _ _ _ _) _) _ _ _) | (with_reducible show wpAny _ _ (exec (Stmt.For _ _ _ _ _) _) _ _ _) | (with_reducible show wpAny _ _ (pyIter _) _ _ _) | (with_reducible show wpAny _ _ (call (Value.builtin "list.append") _) _ _ _) | (with_reducible show wpAny _ _ (eval (Expr.ListComp _ _ _ _) _) _ _ _) | (with_reducible show wpAny _ _ (exec (Stmt.Assign _ (Expr.ListComp _ _ _ _) _) _) _ _ _) | (with_reducible show wpAny _ _ (compareOp CmpOp.NotEq (Value.ref _) (Value.ref _)) _ _ _) | (with_reducible show wpAny _ _ (compareOp CmpOp.Eq (Value.ref _) (Value.ref _)) _ _ _) | (with_reducible show wpAny _ _ (compareOp CmpOp.In _ (Value.ref _)) _ _ _) | (with_reducible show wpAny _ _ (compareOp CmpOp.NotIn _ (Value.ref _)) _ _ _))); (first | walk1 | (dsimp only; walk1)))))
  k_dflt (refine LCg.ListComp_U (F₀ := by k_asm) (by with_unfolding_all rfl) (by decide) (by rfl) (by decide) (by rfl) ?_)
  (repeat' (first | (k_unfold; (try dsimp only)) | ((fail_if_success (first | (with_reducible show wpAny _ _ (setItem _ _ _) _ _ _) | (with_reducible show wpAny _ _ (call (Value.builtin "dict.get") _) _ _ _) | (with_reducible show wpAny _ _ (exec (Stmt.While _ _ _ _) _) _ _ _) | (with_reducible show wpAny _ _ (exec (Stmt.For _ _ _ _ _) _) _ _ _) | (with_reducible show wpAny _ _ (pyIter _) _ _ _) | (with_reducible show wpAny _ _ (call (Value.builtin "list.append") _) _ _ _) | (with_reducible show wpAny _ _ (eval (Expr.ListComp _ _ _ _) _) _ _ _) | (with_reducible show wpAny _ _ (exec (Stmt.Assign _ (Expr.ListComp _ _ _ _) _) _) _ _ _) | (with_reducible show wpAny _ _ (compareOp CmpOp.NotEq (Value.ref _) (Value.ref _)) _ _ _) | (with_reducible show wpAny _ _ (compareOp CmpOp.Eq (Value.ref _) (Value.ref _)) _ _ _) | (with_reducible show wpAny _ _ (compareOp CmpOp.In _ (Value.ref _)) _ _ _) | (with_reducible show wpAny _ _ (compareOp CmpOp.NotIn _ (Value.ref _)) _ _ _))); (first | walk1 | (dsimp only; walk1)))))
  k_dflt (refine LCg.CompSrc.ledger (its := mv.toArray) (by rfl) (by k_asm) (by k_asm) (by k_mem) (by rw [List.size_toArray, PySem.sizeLine_eq]; omega) ?_)
  intro g2
  refine comp_dat labelD hmv ?_ ?_
  · intro d x I oI C oC D m₂ ys h tk E' hd' hx hC hm2 F₃ N₃ off ne
    obtain ⟨i, hi, rfl⟩ := List.mem_map.mp hd'
    rcases hx with _ | _ | ⟨_, ti⟩ | _ | _ | _ | _
    have hib := hi0 i hi
    (repeat' (first | (k_unfold; (try dsimp only)) | ((fail_if_success (first | (with_reducible show wpAny _ _ (setItem _ _ _) _ _ _) | (with_reducible show wpAny _ _ (call (Value.builtin "dict.get") _) _ _ _) | (with_reducible show wpAny _ _ (exec (Stmt.While _ _ _ _) _) _ _ _) | (with_reducible show wpAny _ _ (exec (Stmt.For _ _ _ _ _) _) _ _ _) | (with_reducible show wpAny _ _ (pyIter _) _ _ _) | (with_reducible show wpAny _ _ (call (Value.builtin "list.append") _) _ _ _) | (with_reducible show wpAny _ _ (eval (Expr.ListComp _ _ _ _) _) _ _ _) | (with_reducible show wpAny _ _ (exec (Stmt.Assign _ (Expr.ListComp _ _ _ _) _) _) _ _ _) | (with_reducible show wpAny _ _ (compareOp CmpOp.NotEq (Value.ref _) (Value.ref _)) _ _ _) | (with_reducible show wpAny _ _ (compareOp CmpOp.Eq (Value.ref _) (Value.ref _)) _ _ _) | (with_reducible show wpAny _ _ (compareOp CmpOp.In _ (Value.ref _)) _ _ _) | (with_reducible show wpAny _ _ (compareOp CmpOp.NotIn _ (Value.ref _)) _ _ _))); (first | walk1 | (dsimp only; walk1)))))
    refine comp_end (by k_asm) (by k_asm) ?_ off ?_ (.str _ _)
    · intro p hp; grind
    · exact src_ledger (by k_mem)
  · intro tv htv
    (repeat' (first | (k_unfold; (try dsimp only)) | ((fail_if_success (first | (with_reducible show wpAny _ _ (setItem _ _ _) _ _ _) | (with_reducible show wpAny _ _ (call (Value.builtin "dict.get") _) _ _ _) | (with_reducible show wpAny _ _ (exec (Stmt.While _ _ _ _) _) _ _ _) | (with_reducible show wpAny _ _ (exec (Stmt.For _ _ _ _ _) _) _ _ _) | (with_reducible show wpAny _ _ (pyIter _) _ _ _) | (with_reducible show wpAny _ _ (call (Value.builtin "list.append") _) _ _ _) | (with_reducible show wpAny _ _ (eval (Expr.ListComp _ _ _ _) _) _ _ _) | (with_reducible show wpAny _ _ (exec (Stmt.Assign _ (Expr.ListComp _ _ _ _) _) _) _ _ _) | (with_reducible show wpAny _ _ (compareOp CmpOp.NotEq (Value.ref _) (Value.ref _)) _ _ _) | (with_reducible show wpAny _ _ (compareOp CmpOp.Eq (Value.ref _) (Value.ref _)) _ _ _) | (with_reducible show wpAny _ _ (compareOp CmpOp.In _ (Value.ref _)) _ _ _) | (with_reducible show wpAny _ _ (compareOp CmpOp.NotIn _ (Value.ref _)) _ _ _))); (first | walk1 | (dsimp only; walk1)))))
    first | with_reducible rename News h₀ L _ _ => kN | rename News h₀ L _ _ => kN
    first | with_reducible rename (_ ∧ _ ∧ LCg.Off1 _ news) => o1 | rename (_ ∧ _ ∧ LCg.Off1 _ news) => o1
    refine ret _ _ _ _ _ ?_ (news_drop2 kN) (off1_mem o1.2.2) htv
    assumption
set_option maxRecDepth 100000 in
set_option maxHeartbeats 8000000 in
theorem labels_str_tell {w : World} {mean : ExcName → Option Value} {mg mb : Str → Option Value} {dp un : Nat} {gd : Option (List Code)} {cn : Str} {cs : Scope} {a : Addr} {ccd : Value} {cl : List (Str × Addr)} {outer : List Env} {A₀ : Around} {base h₀ : Heap} {L : Addr} {m : Str → Option Value} {s : Shared} {Q E : Value → Shared → Prop} {v dv lv : Addr} {mv : List Value} {k : Nat} {xs : List Str} {t0 t1 t2 t3 t4 t5 : Tok} {sh lo : Bool} {news : List (Addr × Obj)}
    (B : Below A₀ base outer h₀) (F : Fr h₀ L s.heap m) (X : (Mine.K w.params).In h₀) (T : Top Mine.q (looseW Mine.q Mine.lo) mean mg mb h₀) (hk : cs.kind = .function)
    (hd : dp + 8 < recursionLimit) (hu : un + 400 < cLine) (N : News h₀ L s.heap news)
    (hv : (v, instObj 164 dv) ∈ news) (hdv : (dv, dictOf (vecEs w (Str.ofString "character") t0 (.ref lv) .none sh lo t1 t2 t3 t4 t5) 5) ∈ news) (hlv : (lv, listOf mv.toArray k) ∈ news)
    (hmv : DatAll [] mv (xs.map Dat.str)) (hml : mv.length ≤ 1000)
    (ret : ∀ r tv k h' tk', Fr h₀ L h' m → News h₀ L h' ((r, listOf tv.toArray k) :: news) → (∀ p ∈ news, p.1 ≠ r) → DatAll [] tv ((xs.map Dat.str).map labelD) → Q (.ref r) { s with heap := h', toks := tk' }) :
    wpAny (model Challenge.rw_pq1321_01.row.prog w) (ktrTop dp un gd cn cs L a ccd cl outer) (call (.ref 215) [.ref v]) Q E s := by
  refine wpAny_call ?_
  k_dflt (refine' code_defC ?k1 ?k2 ?k3 ?k4 ?k5 ?kA ?kF ?kK ?k6 ?k7 ?k8 ?k9 ?kB ?kD ?_ ?c2 ?c3 ?c4; (case kA => exact rfl); (case kF => exact rfl); (case kK => first | assumption | exact rfl); (case k1 => k_asm); (case k2 => k_asm); (case k3 => k_asm); (case k4 => k_asm); (case k5 => k_asm); (case k6 => k_is); (case k7 => k_is); (case k8 => ktr_room); (case k9 => first | exact BindsTo.of_eq rfl | exact binds_K (by k_in) rfl (by k_is) rfl rfl rfl); (case kB => exact rfl); (case kD => decide +kernel); (case c2 => exact rfl); (case c3 => exact rfl); (case c4 => exact rfl); k_whole; intro g' L' h' tk' cells' FG' F' N' Y' B' X' T' l1; (try k_lt l1); k_cells Y'; (try simp only [List.cons_append, List.nil_append] at N'); (try dsimp only); (try k_lift B'); (try k_fold))
  (repeat' (first | (k_unfold; (try dsimp only)) | ((fail_if_success (first | (with_reducible show wpAny _ _ (setItem _ _ _) _ _ _) | (with_reducible show wpAny _ _ (call (Value.builtin "dict.get") _) _ _ _) | (with_reducible show wpAny _ _ (exec (Stmt.While _ _ _ _) _) _ _ _) | (with_reducible show wpAny _ _ (exec (Stmt.For _ _ _ _ _) _) _ _ _) | (with_reducible show wpAny _ _ (pyIter _) _ _ _) | (with_reducible show wpAny _ _ (call (Value.builtin "list.append") _) _ _ _) | (with_reducible show wpAny _ _ (eval (Expr.ListComp _ _ _ _) _) _ _ _) | (with_reducible show wpAny _ _ (exec (Stmt.Assign _ (Expr.ListComp _ _ _ _) _) _) _ _ _) | (with_reducible show wpAny _ _ (compareOp CmpOp.NotEq (Value.ref _) (Value.ref _)) _ _ _) | (with_reducible show wpAny _ _ (compareOp CmpOp.Eq (Value.ref _) (Value.ref _)) _ _ _) | (with_reducible show wpAny _ _ (compareOp CmpOp.In _ (Value.ref _)) _ _ _) | (with_reducible show wpAny _ _ (compareOp CmpOp.NotIn _ (Value.ref _)) _ _ _))); (first | walk1 | (dsimp only; walk1)))))
  k_dflt (refine LCg.ListComp_U (F₀ := by k_asm) (by with_unfolding_all rfl) (by decide) (by rfl) (by decide) (by rfl) ?_)
  (repeat' (first | (k_unfold; (try dsimp only)) | ((fail_if_success (first | (with_reducible show wpAny _ _ (setItem _ _ _) _ _ _) | (with_reducible show wpAny _ _ (call (Value.builtin "dict.get") _) _ _ _) | (with_reducible show wpAny _ _ (exec (Stmt.While _ _ _ _) _) _ _ _) | (with_reducible show wpAny _ _ (exec (Stmt.For _ _ _ _ _) _) _ _ _) | (with_reducible show wpAny _ _ (pyIter _) _ _ _) | (with_reducible show wpAny _ _ (call (Value.builtin "list.append") _) _ _ _) | (with_reducible show wpAny _ _ (eval (Expr.ListComp _ _ _ _) _) _ _ _) | (with_reducible show wpAny _ _ (exec (Stmt.Assign _ (Expr.ListComp _ _ _ _) _) _) _ _ _) | (with_reducible show wpAny _ _ (compareOp CmpOp.NotEq (Value.ref _) (Value.ref _)) _ _ _) | (with_reducible show wpAny _ _ (compareOp CmpOp.Eq (Value.ref _) (Value.ref _)) _ _ _) | (with_reducible show wpAny _ _ (compareOp CmpOp.In _ (Value.ref _)) _ _ _) | (with_reducible show wpAny _ _ (compareOp CmpOp.NotIn _ (Value.ref _)) _ _ _))); (first | walk1 | (dsimp only; walk1)))))
  k_dflt (refine LCg.CompSrc.ledger (its := mv.toArray) (by rfl) (by k_asm) (by k_asm) (by k_mem) (by rw [List.size_toArray, PySem.sizeLine_eq]; omega) ?_)
  intro g2
  refine comp_dat labelD hmv ?_ ?_
  · intro d x I oI C oC D m₂ ys h tk E' hd' hx hC hm2 F₃ N₃ off ne
    obtain ⟨i, hi, rfl⟩ := List.mem_map.mp hd'
    rcases hx with _ | _ | _ | ⟨_, ti⟩ | _ | _ | _
    (repeat' (first | (k_unfold; (try dsimp only)) | ((fail_if_success (first | (with_reducible show wpAny _ _ (setItem _ _ _) _ _ _) | (with_reducible show wpAny _ _ (call (Value.builtin "dict.get") _) _ _ _) | (with_reducible show wpAny _ _ (exec (Stmt.While _ _ _ _) _) _ _ _) | (with_reducible show wpAny _ _ (exec (Stmt.For _ _ _ _ _) _) _ _ _) | (with_reducible show wpAny _ _ (pyIter _) _ _ _) | (with_reducible show wpAny _ _ (call (Value.builtin "list.append") _) _ _ _) | (with_reducible show wpAny _ _ (eval (Expr.ListComp _ _ _ _) _) _ _ _) | (with_reducible show wpAny _ _ (exec (Stmt.Assign _ (Expr.ListComp _ _ _ _) _) _) _ _ _) | (with_reducible show wpAny _ _ (compareOp CmpOp.NotEq (Value.ref _) (Value.ref _)) _ _ _) | (with_reducible show wpAny _ _ (compareOp CmpOp.Eq (Value.ref _) (Value.ref _)) _ _ _) | (with_reducible show wpAny _ _ (compareOp CmpOp.In _ (Value.ref _)) _ _ _) | (with_reducible show wpAny _ _ (compareOp CmpOp.NotIn _ (Value.ref _)) _ _ _))); (first | walk1 | (dsimp only; walk1)))))
    refine comp_end (by k_asm) (by k_asm) ?_ off ?_ (.str _ _)
    · intro p hp; grind
    · exact src_ledger (by k_mem)
  · intro tv htv
    (repeat' (first | (k_unfold; (try dsimp only)) | ((fail_if_success (first | (with_reducible show wpAny _ _ (setItem _ _ _) _ _ _) | (with_reducible show wpAny _ _ (call (Value.builtin "dict.get") _) _ _ _) | (with_reducible show wpAny _ _ (exec (Stmt.While _ _ _ _) _) _ _ _) | (with_reducible show wpAny _ _ (exec (Stmt.For _ _ _ _ _) _) _ _ _) | (with_reducible show wpAny _ _ (pyIter _) _ _ _) | (with_reducible show wpAny _ _ (call (Value.builtin "list.append") _) _ _ _) | (with_reducible show wpAny _ _ (eval (Expr.ListComp _ _ _ _) _) _ _ _) | (with_reducible show wpAny _ _ (exec (Stmt.Assign _ (Expr.ListComp _ _ _ _) _) _) _ _ _) | (with_reducible show wpAny _ _ (compareOp CmpOp.NotEq (Value.ref _) (Value.ref _)) _ _ _) | (with_reducible show wpAny _ _ (compareOp CmpOp.Eq (Value.ref _) (Value.ref _)) _ _ _) | (with_reducible show wpAny _ _ (compareOp CmpOp.In _ (Value.ref _)) _ _ _) | (with_reducible show wpAny _ _ (compareOp CmpOp.NotIn _ (Value.ref _)) _ _ _))); (first | walk1 | (dsimp only; walk1)))))
    first | with_reducible rename News h₀ L _ _ => kN | rename News h₀ L _ _ => kN
    first | with_reducible rename (_ ∧ _ ∧ LCg.Off1 _ news) => o1 | rename (_ ∧ _ ∧ LCg.Off1 _ news) => o1
    refine ret _ _ _ _ _ ?_ (news_drop2 kN) (off1_mem o1.2.2) htv
    assumption
inductive LabOk : Str → List Dat → List Str → Prop
  | int (is : List Int) : (∀ i ∈ is, 0 ≤ i ∧ i ≤ 1000) → LabOk (Str.ofString "integer") (is.map Dat.int) (is.map fun i => Str.ofString (toString i))
  | str (xs : List Str) : LabOk (Str.ofString "character") (xs.map Dat.str) xs
theorem LabOk.len {kd : Str} {md : List Dat} {lt : List Str} (h : LabOk kd md lt) : lt.length = md.length := by cases h <;> simp
theorem labels_tell {w : World} {mean : ExcName → Option Value} {mg mb : Str → Option Value} {dp un : Nat} {gd : Option (List Code)} {cn : Str} {cs : Scope} {a : Addr} {ccd : Value} {cl : List (Str × Addr)} {outer : List Env} {A₀ : Around} {base h₀ : Heap} {L : Addr} {m : Str → Option Value} {s : Shared} {Q E : Value → Shared → Prop} {v dv lv : Addr} {mv : List Value} {k : Nat} {kd : Str} {md : List Dat} {lt : List Str} {t0 t1 t2 t3 t4 t5 : Tok} {sh lo : Bool} {news : List (Addr × Obj)}
    (B : Below A₀ base outer h₀) (F : Fr h₀ L s.heap m) (X : (Mine.K w.params).In h₀) (T : Top Mine.q (looseW Mine.q Mine.lo) mean mg mb h₀) (hk : cs.kind = .function)
    (hd : dp + 8 < recursionLimit) (hu : un + 400 < cLine) (N : News h₀ L s.heap news)
    (hv : (v, instObj 164 dv) ∈ news) (hdv : (dv, dictOf (vecEs w kd t0 (.ref lv) .none sh lo t1 t2 t3 t4 t5) 5) ∈ news) (hlv : (lv, listOf mv.toArray k) ∈ news)
    (hmv : DatAll [] mv md) (hml : mv.length ≤ 1000) (hL : LabOk kd md lt)
    (ret : ∀ r tv k h' tk', Fr h₀ L h' m → News h₀ L h' ((r, listOf tv.toArray k) :: news) → (∀ p ∈ news, p.1 ≠ r) → DatAll [] tv (lt.map Dat.str) → Q (.ref r) { s with heap := h', toks := tk' }) :
    wpAny (model Challenge.rw_pq1321_01.row.prog w) (ktrTop dp un gd cn cs L a ccd cl outer) (call (.ref 215) [.ref v]) Q E s := by
  cases hL with
  | int is hi => exact labels_int_tell B F X T hk hd hu N hv hdv hlv hmv hml hi (fun r tv k h' tk' F' N' hn ht => ret r tv k h' tk' F' N' hn (by rw [List.map_map] at ht ⊢; exact ht))
  | str xs => exact labels_str_tell B F X T hk hd hu N hv hdv hlv hmv hml (fun r tv k h' tk' F' N' hn ht => ret r tv k h' tk' F' N' hn (by rw [List.map_map] at ht; exact ht))


section
variable {prog : Program} {w : World} {A : Around} {E : Value → Shared → Prop} {s : Shared} {h₀ : Heap} {L d : Addr} {news : List (Addr × Obj)} {o : Obj} {kvs : List (Str × Value)} {k : Str} {tk : Tok} {v : Value}
theorem get1_some {Q : Value → Shared → Prop} (N : News h₀ L s.heap news) (hp : (d, o) ∈ news) (hd : o.IsDictOf (PySem.strKind prog w) kvs) (lo : (d == sysModules) = false) (hl : valueAt kvs k = some v) (h : Q v { s with toks := s.toks + 1 }) :
    wpAny (model prog w) A (call (.builtin "dict.get") [.ref d, .str k tk]) Q E s := kdg_get1 N hp hd lo (strKind_is _ _ _ _) _ hl h
theorem get1_none {Q : Value → Shared → Prop} (N : News h₀ L s.heap news) (hp : (d, o) ∈ news) (hd : o.IsDictOf (PySem.strKind prog w) kvs) (lo : (d == sysModules) = false) (hl : valueAt kvs k = none) (h : Q .none { s with toks := s.toks + 1 }) :
    wpAny (model prog w) A (call (.builtin "dict.get") [.ref d, .str k tk]) Q E s := kdg_get1 N hp hd lo (strKind_is _ _ _ _) _ hl h
end
def LacksP (n : Int) (qs : List (Option Int)) : Prop := none ∈ qs ∨ (∃ j, some j ∈ qs ∧ n ≤ j) ∨ ¬ qs.Nodup
theorem lacks_snoc {n : Int} {qs : List (Option Int)} {q : Option Int} : LacksP n (qs ++ [q]) ↔ LacksP n qs ∨ q = none ∨ (∃ j, q = some j ∧ n ≤ j) ∨ q ∈ qs := by
  unfold LacksP
  have e : ¬ (qs ++ [q]).Nodup ↔ ¬ qs.Nodup ∨ q ∈ qs := by
    rw [List.nodup_append]
    by_cases h1 : qs.Nodup
    · by_cases h2 : q ∈ qs
      · simp [h1, h2]
      · simp [h1, h2]
    · simp [h1]
  rw [e]
  simp only [List.mem_append, List.mem_singleton]
  constructor
  · rintro ((h | h) | ⟨j, (h | h), hj⟩ | h | h)
    · exact .inl (.inl h)
    · exact .inr (.inl h.symm)
    · exact .inl (.inr (.inl ⟨j, h, hj⟩))
    · exact .inr (.inr (.inl ⟨j, h.symm, hj⟩))
    · exact .inl (.inr (.inr h))
    · exact .inr (.inr (.inr h))
  · rintro ((h | ⟨j, h, hj⟩ | h) | h | ⟨j, h, hj⟩ | h)
    · exact .inl (.inl h)
    · exact .inr (.inl ⟨j, .inl h, hj⟩)
    · exact .inr (.inr (.inl h))
    · exact .inl (.inr h.symm)
    · exact .inr (.inl ⟨j, .inr h.symm, hj⟩)
    · exact .inr (.inr (.inr h))
def foundT (lt : List Str) : Option Int → Str
  | none => Str.ofString "NA"
  | some i => if i < (lt.length : Int) then (lt[i.toNat]?).getD (Str.ofString "NA") else Str.ofString "NA"
theorem plD_inj : ∀ {a b : Option Int}, plD a = plD b → a = b
  | none, none, _ => rfl
  | some _, some _, h => by simp only [plD, Dat.int.injEq] at h; rw [h]
  | none, some _, h => by cases h
  | some _, none, h => by cases h
theorem map_pl_split : ∀ {xs px : List (Option Int)} {d : Dat} {post : List Dat}, xs.map plD = px.map plD ++ d :: post → ∃ x post', d = plD x ∧ xs = px ++ x :: post'
  | [], [], _, _, h => by cases h
  | [], _ :: _, _, _, h => by cases h
  | x :: xs, [], d, post, h => by
    simp only [List.map_cons, List.map_nil, List.nil_append, List.cons.injEq] at h
    exact ⟨x, xs, h.1.symm, rfl⟩
  | x :: xs, y :: px, d, post, h => by
    simp only [List.map_cons, List.cons_append, List.cons.injEq] at h
    obtain ⟨z, post', e, q⟩ := map_pl_split h.2
    exact ⟨z, post', e, by rw [plD_inj h.1, q]; rfl⟩
theorem map_pl_inj : ∀ {xs ys : List (Option Int)}, xs.map plD = ys.map plD → xs = ys
  | [], [], _ => rfl
  | [], _ :: _, h => by cases h
  | _ :: _, [], h => by cases h
  | x :: xs, y :: ys, h => by
    simp only [List.map_cons, List.cons.injEq] at h
    rw [plD_inj h.1, map_pl_inj h.2]
theorem at_yes {K : Type} [DecidableEq K] {kvs : List (K × Value)} {k : K} (h : k ∈ kvs.map (·.1)) : (valueAt kvs k).isSome = true := by rw [valueAt_isSome]; exact decide_eq_true h
theorem at_no {K : Type} [DecidableEq K] {kvs : List (K × Value)} {k : K} (h : k ∉ kvs.map (·.1)) : (valueAt kvs k).isSome = false := by rw [valueAt_isSome]; exact decide_eq_false h
theorem news_head3 {h₀ h : Heap} {L : Addr} {A B C : Addr × Obj} {news rest : List (Addr × Obj)} (N : News h₀ L h (A :: B :: C :: rest)) (hs : ∀ p ∈ news, p ∈ rest) : News h₀ L h (A :: B :: C :: news) := cb_drop N (by
  intro p hp
  rcases List.mem_cons.mp hp with h | hp
  · exact h ▸ List.mem_cons_self
  · rcases List.mem_cons.mp hp with h | hp
    · exact h ▸ List.mem_cons_of_mem _ List.mem_cons_self
    · rcases List.mem_cons.mp hp with h | hp
      · exact h ▸ List.mem_cons_of_mem _ (List.mem_cons_of_mem _ List.mem_cons_self)
      · exact List.mem_cons_of_mem _ (List.mem_cons_of_mem _ (List.mem_cons_of_mem _ (hs p hp))))
theorem ne_of_alls {news : List (Addr × Obj)} {d x : Addr} (h : AllLt d news) (l : @LE.le Nat _ d x) : ∀ p ∈ news, p.1 ≠ x := fun p hp => by
  have := ltN (ktn_ltOf h p hp)
  refine neN ?_
  omega
theorem alls_left {d : Addr} : ∀ {a b : List (Addr × Obj)}, AllLt d (a ++ b) → AllLt d a
  | [], _, _ => trivial
  | _ :: _, _, h => ⟨h.1, alls_left h.2⟩


local macro_rules | `(tactic| walk_at "subscriptTail") => `(tactic| (k_here; (with_reducible show wpAny _ _ (subscriptTail _ _ (Value.ref _) (Value.str _ _)) _ _ _); k_dflt (refine' kda_item (knd := PySem.strKind _ _) ?N ?m ?d ?hk ?hl ?_ ?hs ?hg; (case N => k_asm); (case m => k_mem); (case d => with_reducible assumption); (case hk => exact strKind_is _ _ _ _); (case hl => exact rfl); (case hs => with_unfolding_all rfl); (case hg => intro _; with_unfolding_all rfl)); (try dsimp only)))
local macro_rules | `(tactic| walk_at "compareOp NotIn str ref") => `(tactic| (k_here; (with_reducible show wpAny _ _ (compareOp CmpOp.NotIn (Value.str _ _) (Value.ref _)) _ _ _); k_dflt (refine' kdg_notin (knd := PySem.strKind _ _) ?N ?m ?d ?lo ?hk true ?hb ?_; (case N => k_asm); (case m => k_mem); (case d => with_reducible assumption); (case lo => with_reducible assumption); (case hk => exact strKind_is _ _ _ _); (case hb => exact rfl)); try dsimp only [Bool.not_true]))
local macro_rules | `(tactic| walk_at "getMethod ref") => `(tactic| (k_here; (with_reducible show wpAny _ _ (getMethod (Value.ref _) (PySem.Str.ofString "get") _) _ _ _); k_dflt (refine' kdg_method (knd := PySem.strKind _ _) ?N ?m ?d ?_; (case N => k_asm); (case m => k_mem); (case d => with_reducible assumption))))
local macro_rules | `(tactic| walk_at "call builtin:dict.get") => `(tactic| (k_here; (with_reducible show wpAny _ _ (call (Value.builtin _) [Value.ref _, Value.str _ _]) _ _ _); k_dflt (first | (refine' get1_some ?N ?m ?d ?lo ?hl ?_; (case N => k_asm); (case m => k_mem); (case d => with_reducible assumption); (case lo => with_reducible assumption); (case hl => exact rfl)) | (refine' get1_none ?N ?m ?d ?lo ?hl ?_; (case N => k_asm); (case m => k_mem); (case d => with_reducible assumption); (case lo => with_reducible assumption); (case hl => exact rfl))); (try dsimp only)))
local macro_rules | `(tactic| k_all) => `(tactic| ((rename ∀ p ∈ (_ : List (Addr × Obj)), p.1 < _ => lx9); intro p9 hp9; have hq9 := ltN (lx9 p9 hp9); refine neN ?_; (try dsimp only at hq9 ⊢); omega))

structure PL where
  oS : Obj
  kS : List (Option Int × Value)
  lk : Bool
set_option maxRecDepth 100000 in
set_option maxHeartbeats 8000000 in
theorem picked_tell {w : World} {mean : ExcName → Option Value} {mg mb : Str → Option Value} {dp un : Nat} {gd : Option (List Code)} {cn : Str} {cs : Scope} {a : Addr} {ccd : Value} {cl : List (Str × Addr)} {outer : List Env} {A₀ : Around} {base h₀ : Heap} {L : Addr} {m : Str → Option Value} {s : Shared} {Q E : Value → Shared → Prop} {f df il ad nv clv rv drv lv pl : Addr} {oad : Obj} {mv pv : List Value} {k pk nf : Nat} {kd : Str} {md : List Dat} {lt : List Str} {ps : List (Option Int)} {t0 t1 t2 t3 t4 t5 u0 u1 u2 u3 u4 u5 : Tok} {sh lo sh2 lo2 : Bool} {news : List (Addr × Obj)}
    (B : Below A₀ base outer h₀) (F : Fr h₀ L s.heap m) (X : (Mine.K w.params).In h₀) (T : Top Mine.q (looseW Mine.q Mine.lo) mean mg mb h₀) (hk : cs.kind = .function)
    (hd : dp + 20 < recursionLimit) (hu : un + 600 < cLine) (N : News h₀ L s.heap news)
    (hf : (f, instObj 164 df) ∈ news) (hdf : (df, dictOf (vecEs w (Str.ofString "list") t0 (.ref il) (.ref ad) sh lo t1 t2 t3 t4 t5) 5) ∈ news)
    (had : (ad, oad) ∈ news) (hoad : oad.IsDictOf (PySem.strKind Challenge.rw_pq1321_01.row.prog w) [(Str.ofString "names", .ref nv), (Str.ofString "class", .ref clv), (Str.ofString "row.names", .ref rv)]) (load : (ad == sysModules) = false)
    (hrv : (rv, instObj 164 drv) ∈ news) (hdrv : (drv, dictOf (vecEs w kd u0 (.ref lv) .none sh2 lo2 u1 u2 u3 u4 u5) 5) ∈ news) (hlv : (lv, listOf mv.toArray k) ∈ news)
    (hmv : DatAll [] mv md) (hL : LabOk kd md lt) (hls : ∀ x ∈ lt, x.length ≤ 10) (hml : mv.length ≤ 4) (hml1 : 1 ≤ mv.length) 
    (hpl : (pl, listOf pv.toArray pk) ∈ news) (hpv : DatAll [] pv (ps.map plD)) (hps : ps.length ≤ 7) (hp0 : ∀ i, some i ∈ ps → 0 ≤ i)
    (retA : ¬ LacksP (mv.length : Int) ps → ∀ r dr lr k a0 a1 a2 a3 a4 a5 h' tk', Fr h₀ L h' m → News h₀ L h' ((r, instObj 164 dr) :: (dr, dictOf (vecEs w kd a0 (.ref lr) .none false false a1 a2 a3 a4 a5) 5) :: (lr, listOf ((ps.map plD).map (pickD mv)).toArray k) :: news) → (∀ p ∈ news, p.1 ≠ lr) → (∀ p ∈ news, p.1 ≠ dr) → (∀ p ∈ news, p.1 ≠ r) → Q (.ref r) { s with heap := h', toks := tk' })
    (retB : LacksP (mv.length : Int) ps → ∀ r dr lr uv us k a0 a1 a2 a3 a4 a5 h' tk', Fr h₀ L h' m → News h₀ L h' ((r, instObj 164 dr) :: (dr, dictOf (vecEs w (Str.ofString "character") a0 (.ref lr) .none false false a1 a2 a3 a4 a5) 5) :: (lr, listOf uv.toArray k) :: news) → DatAll [] uv (us.map Dat.str) → MuOk (ps.map (foundT lt)) us → (∀ p ∈ news, p.1 ≠ lr) → (∀ p ∈ news, p.1 ≠ dr) → (∀ p ∈ news, p.1 ≠ r) → Q (.ref r) { s with heap := h', toks := tk' }) :
    wpAny (model Challenge.rw_pq1321_01.row.prog w) (ktrTop dp un gd cn cs L a ccd cl outer) (call (.ref 296) [.ref f, .ref pl]) Q E s := by
  refine wpAny_call ?_
  k_dflt (refine' code_defC ?k1 ?k2 ?k3 ?k4 ?k5 ?kA ?kF ?kK ?k6 ?k7 ?k8 ?k9 ?kB ?kD ?_ ?c2 ?c3 ?c4; (case kA => exact rfl); (case kF => exact rfl); (case kK => first | assumption | exact rfl); (case k1 => k_asm); (case k2 => k_asm); (case k3 => k_asm); (case k4 => k_asm); (case k5 => k_asm); (case k6 => k_is); (case k7 => k_is); (case k8 => ktr_room); (case k9 => first | exact BindsTo.of_eq rfl | exact binds_K (by k_in) rfl (by k_is) rfl rfl rfl); (case kB => exact rfl); (case kD => decide +kernel); (case c2 => exact rfl); (case c3 => exact rfl); (case c4 => exact rfl); k_whole; intro g' L' h' tk' cells' FG' F' N' Y' B' X' T' l1; (try k_lt l1); k_cells Y'; (try simp only [List.cons_append, List.nil_append] at N'); (try dsimp only); (try k_lift B'); (try k_fold))
  (repeat' (first | (k_unfold; (try dsimp only)) | ((fail_if_success (first | (with_reducible show wpAny _ _ (setItem _ _ _) _ _ _) | (with_reducible show wpAny _ _ (call (Value.builtin "dict.get") _) _ _ _) | (with_reducible show wpAny _ _ (exec (Stmt.While _ _ _ _) _) _ _ _) | (with_reducible show wpAny _ _ (exec (Stmt.For _ _ _ _ _) _) _ _ _) | (with_reducible show wpAny _ _ (pyIter _) _ _ _) | (with_reducible show wpAny _ _ (call (Value.builtin "list.append") _) _ _ _) | (with_reducible show wpAny _ _ (eval (Expr.ListComp _ _ _ _) _) _ _ _) | (with_reducible show wpAny _ _ (exec (Stmt.Assign _ (Expr.ListComp _ _ _ _) _) _) _ _ _) | (with_reducible show wpAny _ _ (compareOp CmpOp.NotEq (Value.ref _) (Value.ref _)) _ _ _) | (with_reducible show wpAny _ _ (compareOp CmpOp.Eq (Value.ref _) (Value.ref _)) _ _ _) | (with_reducible show wpAny _ _ (compareOp CmpOp.In _ (Value.ref _)) _ _ _) | (with_reducible show wpAny _ _ (compareOp CmpOp.NotIn _ (Value.ref _)) _ _ _))); (first | walk1 | (dsimp only; walk1)))))
  first | with_reducible rename Fr _ _ _ _ => F0 | rename Fr _ _ _ _ => F0
  with_unfolding_all refine For_invVF F0 (by rfl) (by rfl) ?_
  (repeat' (first | (k_unfold; (try dsimp only)) | ((fail_if_success (first | (with_reducible show wpAny _ _ (setItem _ _ _) _ _ _) | (with_reducible show wpAny _ _ (call (Value.builtin "dict.get") _) _ _ _) | (with_reducible show wpAny _ _ (exec (Stmt.While _ _ _ _) _) _ _ _) | (with_reducible show wpAny _ _ (exec (Stmt.For _ _ _ _ _) _) _ _ _) | (with_reducible show wpAny _ _ (pyIter _) _ _ _) | (with_reducible show wpAny _ _ (call (Value.builtin "list.append") _) _ _ _) | (with_reducible show wpAny _ _ (eval (Expr.ListComp _ _ _ _) _) _ _ _) | (with_reducible show wpAny _ _ (exec (Stmt.Assign _ (Expr.ListComp _ _ _ _) _) _) _ _ _) | (with_reducible show wpAny _ _ (compareOp CmpOp.NotEq (Value.ref _) (Value.ref _)) _ _ _) | (with_reducible show wpAny _ _ (compareOp CmpOp.Eq (Value.ref _) (Value.ref _)) _ _ _) | (with_reducible show wpAny _ _ (compareOp CmpOp.In _ (Value.ref _)) _ _ _) | (with_reducible show wpAny _ _ (compareOp CmpOp.NotIn _ (Value.ref _)) _ _ _))); (first | walk1 | (dsimp only; walk1)))))
  first | with_reducible rename Fr _ _ _ _ => F' | rename Fr _ _ _ _ => F'
  first | with_reducible rename News _ _ _ _ => N' | rename News _ _ _ _ => N'
  rename_i oc dcell _ _ dS _ oS loS hsS _ _ _ l1S _ _
  have hcS : @Ne Nat (L' + 1) dS := Nat.ne_of_lt l1S.1
  have hnS : ∀ p ∈ (L' + 1, oc) :: news, p.1 ≠ dS := List.forall_mem_cons.mpr ⟨hcS, fun p hp => Nat.ne_of_lt (ktn_ltOf l1S.2 p hp)⟩
  with_unfolding_all refine kd_listL (σ := PL) (ds := ps.map plD) (fun c => [(dS, c.oS)]) ((L' + 1, oc) :: news) (fun c => [(Str.ofString "lacks", Value.bool c.lk)]) (fun _ c => c.oS.IsDictOf (plKind Challenge.rw_pq1321_01.row.prog w) c.kS) [] (fun pre c => ∃ qs : List (Option Int), pre = qs.map plD ∧ (c.lk = true ↔ LacksP (mv.length : Int) qs) ∧ (∀ x, x ∈ c.kS.map (·.1) ↔ x ∈ qs) ∧ c.kS.length ≤ qs.length) (dS :: (L' + 1) :: news.map (·.1)) ⟨oS, [], false⟩ (by rfl) (List.mem_cons_of_mem _ hpl) (hpv.mono (by intro _ h; cases h)) F' N' ?_ (fun _ => rfl) (empty_kind hsS) ?_ ⟨[], rfl, by simp [LacksP], by simp, Nat.le_refl _⟩ ?_ ?_
  · intro p hp; simpa using hp
  · intro p hp; simp only [List.mem_singleton] at hp; subst hp; rfl
  · clear F' N'
    rintro c tl pre d post v u h tk own hds hd' hv hsep hoff hf ⟨qs, rfl, hlk, hks, hkl⟩ F₁ N₁
    simp only [List.cons_append, List.nil_append] at N₁
    obtain ⟨q, post', rfl, hxs⟩ := map_pl_split hds
    have hql : qs.length ≤ 6 := by have := congrArg List.length hxs; simp at this; omega
    have hqp : q ∈ ps := by rw [hxs]; simp
    cases q with
    | none =>
      rcases hv with _ | _ | _ | _ | _ | _ | _
      (repeat' (first | (k_unfold; (try dsimp only)) | ((fail_if_success (first | (with_reducible show wpAny _ _ (setItem _ _ _) _ _ _) | (with_reducible show wpAny _ _ (call (Value.builtin "dict.get") _) _ _ _) | (with_reducible show wpAny _ _ (exec (Stmt.While _ _ _ _) _) _ _ _) | (with_reducible show wpAny _ _ (exec (Stmt.For _ _ _ _ _) _) _ _ _) | (with_reducible show wpAny _ _ (pyIter _) _ _ _) | (with_reducible show wpAny _ _ (call (Value.builtin "list.append") _) _ _ _) | (with_reducible show wpAny _ _ (eval (Expr.ListComp _ _ _ _) _) _ _ _) | (with_reducible show wpAny _ _ (exec (Stmt.Assign _ (Expr.ListComp _ _ _ _) _) _) _ _ _) | (with_reducible show wpAny _ _ (compareOp CmpOp.NotEq (Value.ref _) (Value.ref _)) _ _ _) | (with_reducible show wpAny _ _ (compareOp CmpOp.Eq (Value.ref _) (Value.ref _)) _ _ _) | (with_reducible show wpAny _ _ (compareOp CmpOp.In _ (Value.ref _)) _ _ _) | (with_reducible show wpAny _ _ (compareOp CmpOp.NotIn _ (Value.ref _)) _ _ _))); (first | walk1 | (dsimp only; walk1)))))
      k_dflt (refine' kda_set (knd := plKind _ _) (k := none) ?F ?N (UpdF.head (upd_sep hnS hsep (by simp))) hf ?hk ?hz ?_; (case F => k_asm); (case N => k_asm); (case hk => exact plKind_none); (case hz => rw [PySem.sizeLine_eq]; omega))
      intro h' o' F' N' hf'
      (repeat' (first | (k_unfold; (try dsimp only)) | ((fail_if_success (first | (with_reducible show wpAny _ _ (setItem _ _ _) _ _ _) | (with_reducible show wpAny _ _ (call (Value.builtin "dict.get") _) _ _ _) | (with_reducible show wpAny _ _ (exec (Stmt.While _ _ _ _) _) _ _ _) | (with_reducible show wpAny _ _ (exec (Stmt.For _ _ _ _ _) _) _ _ _) | (with_reducible show wpAny _ _ (pyIter _) _ _ _) | (with_reducible show wpAny _ _ (call (Value.builtin "list.append") _) _ _ _) | (with_reducible show wpAny _ _ (eval (Expr.ListComp _ _ _ _) _) _ _ _) | (with_reducible show wpAny _ _ (exec (Stmt.Assign _ (Expr.ListComp _ _ _ _) _) _) _ _ _) | (with_reducible show wpAny _ _ (compareOp CmpOp.NotEq (Value.ref _) (Value.ref _)) _ _ _) | (with_reducible show wpAny _ _ (compareOp CmpOp.Eq (Value.ref _) (Value.ref _)) _ _ _) | (with_reducible show wpAny _ _ (compareOp CmpOp.In _ (Value.ref _)) _ _ _) | (with_reducible show wpAny _ _ (compareOp CmpOp.NotIn _ (Value.ref _)) _ _ _))); (first | walk1 | (dsimp only; walk1)))))
      refine kd_end ⟨o', PySem.stored c.kS (none) (.bool true), true⟩ [] hsep (by assumption) (by assumption) ?_ ?_ rfl (by intro _ h; cases h) (by intro _ h; cases h) ?_ ?_ hf' ⟨qs ++ [none], by simp [plD], ?_, ?_, ?_⟩
      · intro p hp; grind
      · intro p hp; grind
      · intro p hp; simp only [List.mem_singleton] at hp; subst hp; rfl
      · intro z h1 h2 h3
        have h2 : z ≠ Str.ofString "lacks" := h2 _ (List.mem_singleton.mpr rfl)
        simp [h1, h2, kstB]
      · rw [lacks_snoc]; simp
      · intro x; rw [stored_keys, hks]; simp [or_comm]
      · have := stored_len c.kS (none) (.bool true); simp; omega
    | some i =>
      rcases hv with _ | _ | ⟨_, ti⟩ | _ | _ | _ | _
      have hi0 := hp0 i hqp
      by_cases hi : i < (mv.length : Int)
      · (repeat' (first | (k_unfold; (try dsimp only)) | ((fail_if_success (first | (with_reducible show wpAny _ _ (setItem _ _ _) _ _ _) | (with_reducible show wpAny _ _ (call (Value.builtin "dict.get") _) _ _ _) | (with_reducible show wpAny _ _ (exec (Stmt.While _ _ _ _) _) _ _ _) | (with_reducible show wpAny _ _ (exec (Stmt.For _ _ _ _ _) _) _ _ _) | (with_reducible show wpAny _ _ (pyIter _) _ _ _) | (with_reducible show wpAny _ _ (call (Value.builtin "list.append") _) _ _ _) | (with_reducible show wpAny _ _ (eval (Expr.ListComp _ _ _ _) _) _ _ _) | (with_reducible show wpAny _ _ (exec (Stmt.Assign _ (Expr.ListComp _ _ _ _) _) _) _ _ _) | (with_reducible show wpAny _ _ (compareOp CmpOp.NotEq (Value.ref _) (Value.ref _)) _ _ _) | (with_reducible show wpAny _ _ (compareOp CmpOp.Eq (Value.ref _) (Value.ref _)) _ _ _) | (with_reducible show wpAny _ _ (compareOp CmpOp.In _ (Value.ref _)) _ _ _) | (with_reducible show wpAny _ _ (compareOp CmpOp.NotIn _ (Value.ref _)) _ _ _))); (first | walk1 | (dsimp only; walk1)))))
        by_cases hq : some i ∈ qs
        · k_dflt (refine' kda_in (knd := plKind _ _) (k := some i) ?N ?m hf loS plKind_int true ?hb ?_; (case N => k_asm); (case m => simp); (case hb => exact at_yes ((hks _).mpr hq)))
          (repeat' (first | (k_unfold; (try dsimp only)) | ((fail_if_success (first | (with_reducible show wpAny _ _ (setItem _ _ _) _ _ _) | (with_reducible show wpAny _ _ (call (Value.builtin "dict.get") _) _ _ _) | (with_reducible show wpAny _ _ (exec (Stmt.While _ _ _ _) _) _ _ _) | (with_reducible show wpAny _ _ (exec (Stmt.For _ _ _ _ _) _) _ _ _) | (with_reducible show wpAny _ _ (pyIter _) _ _ _) | (with_reducible show wpAny _ _ (call (Value.builtin "list.append") _) _ _ _) | (with_reducible show wpAny _ _ (eval (Expr.ListComp _ _ _ _) _) _ _ _) | (with_reducible show wpAny _ _ (exec (Stmt.Assign _ (Expr.ListComp _ _ _ _) _) _) _ _ _) | (with_reducible show wpAny _ _ (compareOp CmpOp.NotEq (Value.ref _) (Value.ref _)) _ _ _) | (with_reducible show wpAny _ _ (compareOp CmpOp.Eq (Value.ref _) (Value.ref _)) _ _ _) | (with_reducible show wpAny _ _ (compareOp CmpOp.In _ (Value.ref _)) _ _ _) | (with_reducible show wpAny _ _ (compareOp CmpOp.NotIn _ (Value.ref _)) _ _ _))); (first | walk1 | (dsimp only; walk1)))))
          k_dflt (refine' kda_set (knd := plKind _ _) (k := some i) ?F ?N (UpdF.head (upd_sep hnS hsep (by simp))) hf ?hk ?hz ?_; (case F => k_asm); (case N => k_asm); (case hk => exact plKind_int); (case hz => rw [PySem.sizeLine_eq]; omega))
          intro h' o' F' N' hf'
          (repeat' (first | (k_unfold; (try dsimp only)) | ((fail_if_success (first | (with_reducible show wpAny _ _ (setItem _ _ _) _ _ _) | (with_reducible show wpAny _ _ (call (Value.builtin "dict.get") _) _ _ _) | (with_reducible show wpAny _ _ (exec (Stmt.While _ _ _ _) _) _ _ _) | (with_reducible show wpAny _ _ (exec (Stmt.For _ _ _ _ _) _) _ _ _) | (with_reducible show wpAny _ _ (pyIter _) _ _ _) | (with_reducible show wpAny _ _ (call (Value.builtin "list.append") _) _ _ _) | (with_reducible show wpAny _ _ (eval (Expr.ListComp _ _ _ _) _) _ _ _) | (with_reducible show wpAny _ _ (exec (Stmt.Assign _ (Expr.ListComp _ _ _ _) _) _) _ _ _) | (with_reducible show wpAny _ _ (compareOp CmpOp.NotEq (Value.ref _) (Value.ref _)) _ _ _) | (with_reducible show wpAny _ _ (compareOp CmpOp.Eq (Value.ref _) (Value.ref _)) _ _ _) | (with_reducible show wpAny _ _ (compareOp CmpOp.In _ (Value.ref _)) _ _ _) | (with_reducible show wpAny _ _ (compareOp CmpOp.NotIn _ (Value.ref _)) _ _ _))); (first | walk1 | (dsimp only; walk1)))))
          refine kd_end ⟨o', PySem.stored c.kS (some i) (.bool true), true⟩ [] hsep (by assumption) (by assumption) ?_ ?_ rfl (by intro _ h; cases h) (by intro _ h; cases h) ?_ ?_ hf' ⟨qs ++ [some i], by simp [plD], ?_, ?_, ?_⟩
          · intro p hp; grind
          · intro p hp; grind
          · intro p hp; simp only [List.mem_singleton] at hp; subst hp; rfl
          · intro z h1 h2 h3
            have h2 : z ≠ Str.ofString "lacks" := h2 _ (List.mem_singleton.mpr rfl)
            simp [h1, h2, kstB]
          · rw [lacks_snoc]; simp [hq]
          · intro x; rw [stored_keys, hks]; simp [or_comm]
          · have := stored_len c.kS (some i) (.bool true); simp; omega
        · k_dflt (refine' kda_in (knd := plKind _ _) (k := some i) ?N ?m hf loS plKind_int false ?hb ?_; (case N => k_asm); (case m => simp); (case hb => exact at_no (fun h => hq ((hks _).mp h))))
          (repeat' (first | (k_unfold; (try dsimp only)) | ((fail_if_success (first | (with_reducible show wpAny _ _ (setItem _ _ _) _ _ _) | (with_reducible show wpAny _ _ (call (Value.builtin "dict.get") _) _ _ _) | (with_reducible show wpAny _ _ (exec (Stmt.While _ _ _ _) _) _ _ _) | (with_reducible show wpAny _ _ (exec (Stmt.For _ _ _ _ _) _) _ _ _) | (with_reducible show wpAny _ _ (pyIter _) _ _ _) | (with_reducible show wpAny _ _ (call (Value.builtin "list.append") _) _ _ _) | (with_reducible show wpAny _ _ (eval (Expr.ListComp _ _ _ _) _) _ _ _) | (with_reducible show wpAny _ _ (exec (Stmt.Assign _ (Expr.ListComp _ _ _ _) _) _) _ _ _) | (with_reducible show wpAny _ _ (compareOp CmpOp.NotEq (Value.ref _) (Value.ref _)) _ _ _) | (with_reducible show wpAny _ _ (compareOp CmpOp.Eq (Value.ref _) (Value.ref _)) _ _ _) | (with_reducible show wpAny _ _ (compareOp CmpOp.In _ (Value.ref _)) _ _ _) | (with_reducible show wpAny _ _ (compareOp CmpOp.NotIn _ (Value.ref _)) _ _ _))); (first | walk1 | (dsimp only; walk1)))))
          k_dflt (refine' kda_set (knd := plKind _ _) (k := some i) ?F ?N (UpdF.head (upd_sep hnS hsep (by simp))) hf ?hk ?hz ?_; (case F => k_asm); (case N => k_asm); (case hk => exact plKind_int); (case hz => rw [PySem.sizeLine_eq]; omega))
          intro h' o' F' N' hf'
          (repeat' (first | (k_unfold; (try dsimp only)) | ((fail_if_success (first | (with_reducible show wpAny _ _ (setItem _ _ _) _ _ _) | (with_reducible show wpAny _ _ (call (Value.builtin "dict.get") _) _ _ _) | (with_reducible show wpAny _ _ (exec (Stmt.While _ _ _ _) _) _ _ _) | (with_reducible show wpAny _ _ (exec (Stmt.For _ _ _ _ _) _) _ _ _) | (with_reducible show wpAny _ _ (pyIter _) _ _ _) | (with_reducible show wpAny _ _ (call (Value.builtin "list.append") _) _ _ _) | (with_reducible show wpAny _ _ (eval (Expr.ListComp _ _ _ _) _) _ _ _) | (with_reducible show wpAny _ _ (exec (Stmt.Assign _ (Expr.ListComp _ _ _ _) _) _) _ _ _) | (with_reducible show wpAny _ _ (compareOp CmpOp.NotEq (Value.ref _) (Value.ref _)) _ _ _) | (with_reducible show wpAny _ _ (compareOp CmpOp.Eq (Value.ref _) (Value.ref _)) _ _ _) | (with_reducible show wpAny _ _ (compareOp CmpOp.In _ (Value.ref _)) _ _ _) | (with_reducible show wpAny _ _ (compareOp CmpOp.NotIn _ (Value.ref _)) _ _ _))); (first | walk1 | (dsimp only; walk1)))))
          refine kd_end ⟨o', PySem.stored c.kS (some i) (.bool true), c.lk⟩ [] hsep (by assumption) (by assumption) ?_ ?_ rfl (by intro _ h; cases h) (by intro _ h; cases h) ?_ ?_ hf' ⟨qs ++ [some i], by simp [plD], ?_, ?_, ?_⟩
          · intro p hp; grind
          · intro p hp; grind
          · intro p hp; simp only [List.mem_singleton] at hp; subst hp; rfl
          · intro z h1 h2 h3
            have h2 : z ≠ Str.ofString "lacks" := h2 _ (List.mem_singleton.mpr rfl)
            simp [h1, h2, kstB]
          · rw [lacks_snoc, hlk]; simp only [hq, or_false, reduceCtorEq, false_or, Option.some.injEq]; constructor; exact .inl; rintro (h | ⟨j, rfl, hj⟩); exact h; omega
          · intro x; rw [stored_keys, hks]; simp [or_comm]
          · have := stored_len c.kS (some i) (.bool true); simp; omega
      · (repeat' (first | (k_unfold; (try dsimp only)) | ((fail_if_success (first | (with_reducible show wpAny _ _ (setItem _ _ _) _ _ _) | (with_reducible show wpAny _ _ (call (Value.builtin "dict.get") _) _ _ _) | (with_reducible show wpAny _ _ (exec (Stmt.While _ _ _ _) _) _ _ _) | (with_reducible show wpAny _ _ (exec (Stmt.For _ _ _ _ _) _) _ _ _) | (with_reducible show wpAny _ _ (pyIter _) _ _ _) | (with_reducible show wpAny _ _ (call (Value.builtin "list.append") _) _ _ _) | (with_reducible show wpAny _ _ (eval (Expr.ListComp _ _ _ _) _) _ _ _) | (with_reducible show wpAny _ _ (exec (Stmt.Assign _ (Expr.ListComp _ _ _ _) _) _) _ _ _) | (with_reducible show wpAny _ _ (compareOp CmpOp.NotEq (Value.ref _) (Value.ref _)) _ _ _) | (with_reducible show wpAny _ _ (compareOp CmpOp.Eq (Value.ref _) (Value.ref _)) _ _ _) | (with_reducible show wpAny _ _ (compareOp CmpOp.In _ (Value.ref _)) _ _ _) | (with_reducible show wpAny _ _ (compareOp CmpOp.NotIn _ (Value.ref _)) _ _ _))); (first | walk1 | (dsimp only; walk1)))))
        k_dflt (refine' kda_set (knd := plKind _ _) (k := some i) ?F ?N (UpdF.head (upd_sep hnS hsep (by simp))) hf ?hk ?hz ?_; (case F => k_asm); (case N => k_asm); (case hk => exact plKind_int); (case hz => rw [PySem.sizeLine_eq]; omega))
        intro h' o' F' N' hf'
        (repeat' (first | (k_unfold; (try dsimp only)) | ((fail_if_success (first | (with_reducible show wpAny _ _ (setItem _ _ _) _ _ _) | (with_reducible show wpAny _ _ (call (Value.builtin "dict.get") _) _ _ _) | (with_reducible show wpAny _ _ (exec (Stmt.While _ _ _ _) _) _ _ _) | (with_reducible show wpAny _ _ (exec (Stmt.For _ _ _ _ _) _) _ _ _) | (with_reducible show wpAny _ _ (pyIter _) _ _ _) | (with_reducible show wpAny _ _ (call (Value.builtin "list.append") _) _ _ _) | (with_reducible show wpAny _ _ (eval (Expr.ListComp _ _ _ _) _) _ _ _) | (with_reducible show wpAny _ _ (exec (Stmt.Assign _ (Expr.ListComp _ _ _ _) _) _) _ _ _) | (with_reducible show wpAny _ _ (compareOp CmpOp.NotEq (Value.ref _) (Value.ref _)) _ _ _) | (with_reducible show wpAny _ _ (compareOp CmpOp.Eq (Value.ref _) (Value.ref _)) _ _ _) | (with_reducible show wpAny _ _ (compareOp CmpOp.In _ (Value.ref _)) _ _ _) | (with_reducible show wpAny _ _ (compareOp CmpOp.NotIn _ (Value.ref _)) _ _ _))); (first | walk1 | (dsimp only; walk1)))))
        refine kd_end ⟨o', PySem.stored c.kS (some i) (.bool true), true⟩ [] hsep (by assumption) (by assumption) ?_ ?_ rfl (by intro _ h; cases h) (by intro _ h; cases h) ?_ ?_ hf' ⟨qs ++ [some i], by simp [plD], ?_, ?_, ?_⟩
        · intro p hp; grind
        · intro p hp; grind
        · intro p hp; simp only [List.mem_singleton] at hp; subst hp; rfl
        · intro z h1 h2 h3
          have h2 : z ≠ Str.ofString "lacks" := h2 _ (List.mem_singleton.mpr rfl)
          simp [h1, h2, kstB]
        · rw [lacks_snoc]; simp; exact .inr (.inl (by omega))
        · intro x; rw [stored_keys, hks]; simp [or_comm]
        · have := stored_len c.kS (some i) (.bool true); simp; omega
  · clear F' N'
    rintro c tl u h tk hoff hf ⟨qs, hqs, hlk, hks, hkl⟩ F₁ N₁
    have hqs := map_pl_inj hqs
    subst hqs
    simp only [List.cons_append, List.nil_append] at N₁
    replace N₁ := news_cut2 N₁
    obtain ⟨oS2, kS2, lk⟩ := c
    dsimp only at hlk F₁ N₁
    cases lk with
    | false =>
      have hnl : ¬ LacksP (mv.length : Int) ps := fun h => by have := hlk.mpr h; cases this
      (repeat' (first | (k_unfold; (try dsimp only)) | ((fail_if_success (first | (with_reducible show wpAny _ _ (setItem _ _ _) _ _ _) | (with_reducible show wpAny _ _ (call (Value.builtin "dict.get") _) _ _ _) | (with_reducible show wpAny _ _ (exec (Stmt.While _ _ _ _) _) _ _ _) | (with_reducible show wpAny _ _ (exec (Stmt.For _ _ _ _ _) _) _ _ _) | (with_reducible show wpAny _ _ (pyIter _) _ _ _) | (with_reducible show wpAny _ _ (call (Value.builtin "list.append") _) _ _ _) | (with_reducible show wpAny _ _ (eval (Expr.ListComp _ _ _ _) _) _ _ _) | (with_reducible show wpAny _ _ (exec (Stmt.Assign _ (Expr.ListComp _ _ _ _) _) _) _ _ _) | (with_reducible show wpAny _ _ (compareOp CmpOp.NotEq (Value.ref _) (Value.ref _)) _ _ _) | (with_reducible show wpAny _ _ (compareOp CmpOp.Eq (Value.ref _) (Value.ref _)) _ _ _) | (with_reducible show wpAny _ _ (compareOp CmpOp.In _ (Value.ref _)) _ _ _) | (with_reducible show wpAny _ _ (compareOp CmpOp.NotIn _ (Value.ref _)) _ _ _))); (first | walk1 | (dsimp only; walk1)))))
      k_dflt (refine LCg.ListComp_U (F₀ := by k_asm) (by with_unfolding_all rfl) (by decide) (by rfl) (by decide) (by rfl) ?_)
      (repeat' (first | (k_unfold; (try dsimp only)) | ((fail_if_success (first | (with_reducible show wpAny _ _ (setItem _ _ _) _ _ _) | (with_reducible show wpAny _ _ (call (Value.builtin "dict.get") _) _ _ _) | (with_reducible show wpAny _ _ (exec (Stmt.While _ _ _ _) _) _ _ _) | (with_reducible show wpAny _ _ (exec (Stmt.For _ _ _ _ _) _) _ _ _) | (with_reducible show wpAny _ _ (pyIter _) _ _ _) | (with_reducible show wpAny _ _ (call (Value.builtin "list.append") _) _ _ _) | (with_reducible show wpAny _ _ (eval (Expr.ListComp _ _ _ _) _) _ _ _) | (with_reducible show wpAny _ _ (exec (Stmt.Assign _ (Expr.ListComp _ _ _ _) _) _) _ _ _) | (with_reducible show wpAny _ _ (compareOp CmpOp.NotEq (Value.ref _) (Value.ref _)) _ _ _) | (with_reducible show wpAny _ _ (compareOp CmpOp.Eq (Value.ref _) (Value.ref _)) _ _ _) | (with_reducible show wpAny _ _ (compareOp CmpOp.In _ (Value.ref _)) _ _ _) | (with_reducible show wpAny _ _ (compareOp CmpOp.NotIn _ (Value.ref _)) _ _ _))); (first | walk1 | (dsimp only; walk1)))))
      k_dflt (refine LCg.CompSrc.ledger (its := pv.toArray) (by rfl) (by k_asm) (by k_asm) (by k_mem) (by rw [List.size_toArray, hpv.length, List.length_map, PySem.sizeLine_eq]; omega) ?_)
      intro g2
      refine comp_val (pickD mv) hpv ?_ ?_
      · intro d x I oI C oC D m₂ ys h tk E' hd' hx hC hm2 F₃ N₃ off ne
        obtain ⟨q, hq, rfl⟩ := List.mem_map.mp hd'
        cases q with
        | none => exact absurd (Or.inl hq) hnl
        | some i =>
          rcases hx with _ | _ | ⟨_, ti⟩ | _ | _ | _ | _
          have hi0 := hp0 i hq
          have hi : i < (mv.length : Int) := by
            rcases Int.lt_or_le i (mv.length : Int) with h | h
            · exact h
            · exact absurd (Or.inr (Or.inl ⟨i, hq, h⟩)) hnl
          have hcv : mv[i.toNat]? = some (pickD mv (plD (some i))) := by
            simp only [plD, pickD, if_pos hi]
            rw [List.getElem?_eq_getElem (by omega)]; rfl
          (repeat' (first | (k_unfold; (try dsimp only)) | ((fail_if_success (first | (with_reducible show wpAny _ _ (setItem _ _ _) _ _ _) | (with_reducible show wpAny _ _ (call (Value.builtin "dict.get") _) _ _ _) | (with_reducible show wpAny _ _ (exec (Stmt.While _ _ _ _) _) _ _ _) | (with_reducible show wpAny _ _ (exec (Stmt.For _ _ _ _ _) _) _ _ _) | (with_reducible show wpAny _ _ (pyIter _) _ _ _) | (with_reducible show wpAny _ _ (call (Value.builtin "list.append") _) _ _ _) | (with_reducible show wpAny _ _ (eval (Expr.ListComp _ _ _ _) _) _ _ _) | (with_reducible show wpAny _ _ (exec (Stmt.Assign _ (Expr.ListComp _ _ _ _) _) _) _ _ _) | (with_reducible show wpAny _ _ (compareOp CmpOp.NotEq (Value.ref _) (Value.ref _)) _ _ _) | (with_reducible show wpAny _ _ (compareOp CmpOp.Eq (Value.ref _) (Value.ref _)) _ _ _) | (with_reducible show wpAny _ _ (subscriptTail _ _ (Value.ref _) (Value.int _ _)) _ _ _))); (first | walk1 | (dsimp only; walk1)))))
          k_dflt (refine' item_M ?N ?m hi0 ?f hcv ?_ ?hs; (case N => k_asm); (case m => k_mem); (case f => omega); (case hs => with_unfolding_all rfl))
          (repeat' (first | (k_unfold; (try dsimp only)) | ((fail_if_success (first | (with_reducible show wpAny _ _ (setItem _ _ _) _ _ _) | (with_reducible show wpAny _ _ (call (Value.builtin "dict.get") _) _ _ _) | (with_reducible show wpAny _ _ (exec (Stmt.While _ _ _ _) _) _ _ _) | (with_reducible show wpAny _ _ (exec (Stmt.For _ _ _ _ _) _) _ _ _) | (with_reducible show wpAny _ _ (pyIter _) _ _ _) | (with_reducible show wpAny _ _ (call (Value.builtin "list.append") _) _ _ _) | (with_reducible show wpAny _ _ (eval (Expr.ListComp _ _ _ _) _) _ _ _) | (with_reducible show wpAny _ _ (exec (Stmt.Assign _ (Expr.ListComp _ _ _ _) _) _) _ _ _) | (with_reducible show wpAny _ _ (compareOp CmpOp.NotEq (Value.ref _) (Value.ref _)) _ _ _) | (with_reducible show wpAny _ _ (compareOp CmpOp.Eq (Value.ref _) (Value.ref _)) _ _ _) | (with_reducible show wpAny _ _ (subscriptTail _ _ (Value.ref _) (Value.int _ _)) _ _ _))); (first | walk1 | (dsimp only; walk1)))))
          refine comp_end (by k_asm) (by k_asm) ?_ off ?_ rfl
          · intro p hp; grind
          · exact src_ledger (by k_mem)
      · (repeat' (first | (k_unfold; (try dsimp only)) | ((fail_if_success (first | (with_reducible show wpAny _ _ (setItem _ _ _) _ _ _) | (with_reducible show wpAny _ _ (call (Value.builtin "dict.get") _) _ _ _) | (with_reducible show wpAny _ _ (exec (Stmt.While _ _ _ _) _) _ _ _) | (with_reducible show wpAny _ _ (exec (Stmt.For _ _ _ _ _) _) _ _ _) | (with_reducible show wpAny _ _ (pyIter _) _ _ _) | (with_reducible show wpAny _ _ (call (Value.builtin "list.append") _) _ _ _) | (with_reducible show wpAny _ _ (eval (Expr.ListComp _ _ _ _) _) _ _ _) | (with_reducible show wpAny _ _ (exec (Stmt.Assign _ (Expr.ListComp _ _ _ _) _) _) _ _ _) | (with_reducible show wpAny _ _ (compareOp CmpOp.NotEq (Value.ref _) (Value.ref _)) _ _ _) | (with_reducible show wpAny _ _ (compareOp CmpOp.Eq (Value.ref _) (Value.ref _)) _ _ _) | (with_reducible show wpAny _ _ (compareOp CmpOp.In _ (Value.ref _)) _ _ _) | (with_reducible show wpAny _ _ (compareOp CmpOp.NotIn _ (Value.ref _)) _ _ _))); (first | walk1 | (dsimp only; walk1)))))
        first | with_reducible rename News h₀ L _ _ => kN | rename News h₀ L _ _ => kN
        first | with_reducible rename (_ ∧ _ ∧ _ ∧ AllLt _ news) => l1D | rename (_ ∧ _ ∧ _ ∧ AllLt _ news) => l1D
        first | with_reducible rename (_ ∧ _ ∧ LCg.Off1 _ news) => o1D | rename (_ ∧ _ ∧ LCg.Off1 _ news) => o1D
        refine retA hnl _ _ _ _ _ _ _ _ _ _ _ _ ?_ (news_head3 kN (by intro p hp; simp [hp])) (off1_mem o1D.2.2) (ne_of_alls l1D.2.2.2 (Nat.le_refl _)) (ne_of_alls l1D.2.2.2 ?_)
        · assumption
        · first | omega | (apply Nat.le_of_lt; assumption)
    | true =>
      (repeat' (first | (k_unfold; (try dsimp only)) | ((fail_if_success (first | (with_reducible show wpAny _ _ (setItem _ _ _) _ _ _) | (with_reducible show wpAny _ _ (exec (Stmt.While _ _ _ _) _) _ _ _) | (with_reducible show wpAny _ _ (exec (Stmt.For _ _ _ _ _) _) _ _ _) | (with_reducible show wpAny _ _ (pyIter _) _ _ _) | (with_reducible show wpAny _ _ (call (Value.builtin "list.append") _) _ _ _) | (with_reducible show wpAny _ _ (eval (Expr.ListComp _ _ _ _) _) _ _ _) | (with_reducible show wpAny _ _ (exec (Stmt.Assign _ (Expr.ListComp _ _ _ _) _) _) _ _ _) | (with_reducible show wpAny _ _ (compareOp CmpOp.NotEq (Value.ref _) (Value.ref _)) _ _ _) | (with_reducible show wpAny _ _ (compareOp CmpOp.Eq (Value.ref _) (Value.ref _)) _ _ _) | (with_reducible show wpAny _ _ (call (Value.ref 215) _) _ _ _) | (with_reducible show wpAny _ _ (call (Value.ref 246) _) _ _ _))); (first | walk1 | (dsimp only; walk1)))))
      · exfalso; omega
      · k_dflt (refine' labels_tell (w := w) (mean := mean) (mg := mg) (mb := mb) ?B ?F ?X ?T ?hk ?hd ?hu ?N ?a1 ?a2 ?a3 hmv ?hml hL ?_; (case B => k_asm); (case F => k_asm); (case X => k_asm); (case T => k_asm); (case hk => exact rfl); (case hd => ktr_room); (case hu => ktr_units); (case N => k_asm); (case a1 => k_mem); (case a2 => k_mem); (case a3 => k_mem); (case hml => omega))
        intro r tv k2 h' tk' F' N' hnr htv
        have hltl : lt.length = mv.length := by rw [hL.len, hmv.length]
        (repeat' (first | (k_unfold; (try dsimp only)) | ((fail_if_success (first | (with_reducible show wpAny _ _ (setItem _ _ _) _ _ _) | (with_reducible show wpAny _ _ (exec (Stmt.While _ _ _ _) _) _ _ _) | (with_reducible show wpAny _ _ (exec (Stmt.For _ _ _ _ _) _) _ _ _) | (with_reducible show wpAny _ _ (pyIter _) _ _ _) | (with_reducible show wpAny _ _ (call (Value.builtin "list.append") _) _ _ _) | (with_reducible show wpAny _ _ (eval (Expr.ListComp _ _ _ _) _) _ _ _) | (with_reducible show wpAny _ _ (exec (Stmt.Assign _ (Expr.ListComp _ _ _ _) _) _) _ _ _) | (with_reducible show wpAny _ _ (compareOp CmpOp.NotEq (Value.ref _) (Value.ref _)) _ _ _) | (with_reducible show wpAny _ _ (compareOp CmpOp.Eq (Value.ref _) (Value.ref _)) _ _ _) | (with_reducible show wpAny _ _ (call (Value.ref 246) _) _ _ _))); (first | walk1 | (dsimp only; walk1)))))
        first | with_reducible rename Fr _ _ _ _ => F0 | rename Fr _ _ _ _ => F0
        with_unfolding_all refine For_invVF F0 (by rfl) (by rfl) ?_
        (repeat' (first | (k_unfold; (try dsimp only)) | ((fail_if_success (first | (with_reducible show wpAny _ _ (setItem _ _ _) _ _ _) | (with_reducible show wpAny _ _ (exec (Stmt.While _ _ _ _) _) _ _ _) | (with_reducible show wpAny _ _ (exec (Stmt.For _ _ _ _ _) _) _ _ _) | (with_reducible show wpAny _ _ (pyIter _) _ _ _) | (with_reducible show wpAny _ _ (call (Value.builtin "list.append") _) _ _ _) | (with_reducible show wpAny _ _ (eval (Expr.ListComp _ _ _ _) _) _ _ _) | (with_reducible show wpAny _ _ (exec (Stmt.Assign _ (Expr.ListComp _ _ _ _) _) _) _ _ _) | (with_reducible show wpAny _ _ (compareOp CmpOp.NotEq (Value.ref _) (Value.ref _)) _ _ _) | (with_reducible show wpAny _ _ (compareOp CmpOp.Eq (Value.ref _) (Value.ref _)) _ _ _) | (with_reducible show wpAny _ _ (call (Value.ref 246) _) _ _ _))); (first | walk1 | (dsimp only; walk1)))))
        first | with_reducible rename Fr _ _ _ _ => F' | rename Fr _ _ _ _ => F'
        first | with_reducible rename News _ _ _ _ => N' | rename News _ _ _ _ => N'
        rename_i dF _ l1F _
        have hnF : ∀ p ∈ (r, listOf tv.toArray k2) :: (dS, oS2) :: (L' + 1, oc) :: news, p.1 ≠ dF := List.forall_mem_cons.mpr ⟨Nat.ne_of_lt l1F.1, List.forall_mem_cons.mpr ⟨Nat.ne_of_lt l1F.2.1, List.forall_mem_cons.mpr ⟨Nat.ne_of_lt l1F.2.2.1, fun p hp => Nat.ne_of_lt (ktn_ltOf l1F.2.2.2 p hp)⟩⟩⟩
        with_unfolding_all refine kd_listL (σ := SV) (ds := ps.map plD) (fun c => [(dF, listOf c.vs.toArray c.k)]) ((r, listOf tv.toArray k2) :: (dS, oS2) :: (L' + 1, oc) :: news) (fun _ => []) (fun _ c => True) [] (fun pre c => ∃ qs : List (Option Int), pre = qs.map plD ∧ DatAll [] c.vs ((qs.map (foundT lt)).map Dat.str)) (dF :: r :: dS :: (L' + 1) :: news.map (·.1)) ⟨[], 0⟩ (by rfl) (List.mem_cons_of_mem _ (List.mem_cons_of_mem _ (List.mem_cons_of_mem _ hpl))) (hpv.mono (by intro _ h; cases h)) F' N' ?_ (fun _ => rfl) trivial (by intro _ h; cases h) ⟨[], rfl, .nil⟩ ?_ ?_
        · intro p hp; simpa using hp
        · clear F' N'
          rintro c tl pre d post v u h tk own hds hd' hv hsep hoff _ ⟨qs, rfl, hfv⟩ F₁ N₁
          simp only [List.cons_append, List.nil_append] at N₁
          obtain ⟨q, post', rfl, hxs⟩ := map_pl_split hds
          have hql : qs.length ≤ 6 := by have := congrArg List.length hxs; simp at this; omega
          have hvl : c.vs.length ≤ 6 := by rw [hfv.length, List.length_map, List.length_map]; exact hql
          have hqp : q ∈ ps := by rw [hxs]; simp
          cases q with
          | none =>
            rcases hv with _ | _ | _ | _ | _ | _ | _
            (repeat' (first | (k_unfold; (try dsimp only)) | ((fail_if_success (first | (with_reducible show wpAny _ _ (setItem _ _ _) _ _ _) | (with_reducible show wpAny _ _ (call (Value.builtin "dict.get") _) _ _ _) | (with_reducible show wpAny _ _ (exec (Stmt.While _ _ _ _) _) _ _ _) | (with_reducible show wpAny _ _ (exec (Stmt.For _ _ _ _ _) _) _ _ _) | (with_reducible show wpAny _ _ (pyIter _) _ _ _) | (with_reducible show wpAny _ _ (call (Value.builtin "list.append") _) _ _ _) | (with_reducible show wpAny _ _ (eval (Expr.ListComp _ _ _ _) _) _ _ _) | (with_reducible show wpAny _ _ (exec (Stmt.Assign _ (Expr.ListComp _ _ _ _) _) _) _ _ _) | (with_reducible show wpAny _ _ (compareOp CmpOp.NotEq (Value.ref _) (Value.ref _)) _ _ _) | (with_reducible show wpAny _ _ (compareOp CmpOp.Eq (Value.ref _) (Value.ref _)) _ _ _) | (with_reducible show wpAny _ _ (compareOp CmpOp.In _ (Value.ref _)) _ _ _) | (with_reducible show wpAny _ _ (compareOp CmpOp.NotIn _ (Value.ref _)) _ _ _))); (first | walk1 | (dsimp only; walk1)))))
            k_dflt (refine' append_K ?F ?N ?U ?_ ?hz; (case F => k_asm); (case N => k_asm); (case U => exact Upd.head (upd_sep hnF hsep (by simp))); (case hz => rw [List.size_toArray, PySem.sizeLine_eq]; omega))
            intro h' F' N'
            (repeat' (first | (k_unfold; (try dsimp only)) | ((fail_if_success (first | (with_reducible show wpAny _ _ (setItem _ _ _) _ _ _) | (with_reducible show wpAny _ _ (call (Value.builtin "dict.get") _) _ _ _) | (with_reducible show wpAny _ _ (exec (Stmt.While _ _ _ _) _) _ _ _) | (with_reducible show wpAny _ _ (exec (Stmt.For _ _ _ _ _) _) _ _ _) | (with_reducible show wpAny _ _ (pyIter _) _ _ _) | (with_reducible show wpAny _ _ (call (Value.builtin "list.append") _) _ _ _) | (with_reducible show wpAny _ _ (eval (Expr.ListComp _ _ _ _) _) _ _ _) | (with_reducible show wpAny _ _ (exec (Stmt.Assign _ (Expr.ListComp _ _ _ _) _) _) _ _ _) | (with_reducible show wpAny _ _ (compareOp CmpOp.NotEq (Value.ref _) (Value.ref _)) _ _ _) | (with_reducible show wpAny _ _ (compareOp CmpOp.Eq (Value.ref _) (Value.ref _)) _ _ _) | (with_reducible show wpAny _ _ (compareOp CmpOp.In _ (Value.ref _)) _ _ _) | (with_reducible show wpAny _ _ (compareOp CmpOp.NotIn _ (Value.ref _)) _ _ _))); (first | walk1 | (dsimp only; walk1)))))
            rw [List.push_toArray] at N'
            obtain ⟨vf, hvf, N'⟩ := led_name (e := Dat.str (foundT lt none)) N' (.str _ _)
            refine kd_end ⟨c.vs ++ [vf], c.k + 1⟩ [] hsep (by assumption) N' ?_ ?_ rfl (by intro _ h; cases h) (by intro _ h; cases h) (by intro _ h; cases h) ?_ trivial ⟨qs ++ [none], by simp [plD], ?_⟩
            · intro p hp; grind
            · intro p hp; grind
            · intro z h1 _ h3; simp only [if_neg h1, kstB, h3]; rfl
            · rw [List.map_append, List.map_append]; exact hfv.append (.one hvf)
          | some i =>
            rcases hv with _ | _ | ⟨_, ti⟩ | _ | _ | _ | _
            have hi0 := hp0 i hqp
            by_cases hi : i < (mv.length : Int)
            · (repeat' (first | (k_unfold; (try dsimp only)) | ((fail_if_success (first | (with_reducible show wpAny _ _ (setItem _ _ _) _ _ _) | (with_reducible show wpAny _ _ (call (Value.builtin "dict.get") _) _ _ _) | (with_reducible show wpAny _ _ (exec (Stmt.While _ _ _ _) _) _ _ _) | (with_reducible show wpAny _ _ (exec (Stmt.For _ _ _ _ _) _) _ _ _) | (with_reducible show wpAny _ _ (pyIter _) _ _ _) | (with_reducible show wpAny _ _ (call (Value.builtin "list.append") _) _ _ _) | (with_reducible show wpAny _ _ (eval (Expr.ListComp _ _ _ _) _) _ _ _) | (with_reducible show wpAny _ _ (exec (Stmt.Assign _ (Expr.ListComp _ _ _ _) _) _) _ _ _) | (with_reducible show wpAny _ _ (compareOp CmpOp.NotEq (Value.ref _) (Value.ref _)) _ _ _) | (with_reducible show wpAny _ _ (compareOp CmpOp.Eq (Value.ref _) (Value.ref _)) _ _ _) | (with_reducible show wpAny _ _ (subscriptTail _ _ (Value.ref _) (Value.int _ _)) _ _ _))); (first | walk1 | (dsimp only; walk1)))))
              k_dflt (refine' kd_item ?N ?m htv hi0 ?hl ?f ?_ ?hs; (case N => k_asm); (case m => k_mem); (case hl => rw [List.length_map, hltl]; exact hi); (case f => omega); (case hs => with_unfolding_all rfl))
              intro v' d' hd1 hd2 hd3
              obtain ⟨x, hx, rfl⟩ := List.mem_map.mp hd2
              rcases hd3 with _ | _ | _ | ⟨_, tx⟩ | _ | _ | _
              have hxf : foundT lt (some i) = x := by
                rw [List.getElem?_map] at hd1
                simp only [foundT]
                rw [if_pos (by rw [hltl]; exact hi)]
                cases hh : lt[i.toNat]? with
                | none => rw [hh] at hd1; cases hd1
                | some y => rw [hh] at hd1; simp only [Option.map_some, Option.some.injEq, Dat.str.injEq] at hd1; rw [hd1]; rfl
              (repeat' (first | (k_unfold; (try dsimp only)) | ((fail_if_success (first | (with_reducible show wpAny _ _ (setItem _ _ _) _ _ _) | (with_reducible show wpAny _ _ (call (Value.builtin "dict.get") _) _ _ _) | (with_reducible show wpAny _ _ (exec (Stmt.While _ _ _ _) _) _ _ _) | (with_reducible show wpAny _ _ (exec (Stmt.For _ _ _ _ _) _) _ _ _) | (with_reducible show wpAny _ _ (pyIter _) _ _ _) | (with_reducible show wpAny _ _ (call (Value.builtin "list.append") _) _ _ _) | (with_reducible show wpAny _ _ (eval (Expr.ListComp _ _ _ _) _) _ _ _) | (with_reducible show wpAny _ _ (exec (Stmt.Assign _ (Expr.ListComp _ _ _ _) _) _) _ _ _) | (with_reducible show wpAny _ _ (compareOp CmpOp.NotEq (Value.ref _) (Value.ref _)) _ _ _) | (with_reducible show wpAny _ _ (compareOp CmpOp.Eq (Value.ref _) (Value.ref _)) _ _ _) | (with_reducible show wpAny _ _ (subscriptTail _ _ (Value.ref _) (Value.int _ _)) _ _ _))); (first | walk1 | (dsimp only; walk1)))))
              k_dflt (refine' append_K ?F ?N ?U ?_ ?hz; (case F => k_asm); (case N => k_asm); (case U => exact Upd.head (upd_sep hnF hsep (by simp))); (case hz => rw [List.size_toArray, PySem.sizeLine_eq]; omega))
              intro h' F' N'
              (repeat' (first | (k_unfold; (try dsimp only)) | ((fail_if_success (first | (with_reducible show wpAny _ _ (setItem _ _ _) _ _ _) | (with_reducible show wpAny _ _ (call (Value.builtin "dict.get") _) _ _ _) | (with_reducible show wpAny _ _ (exec (Stmt.While _ _ _ _) _) _ _ _) | (with_reducible show wpAny _ _ (exec (Stmt.For _ _ _ _ _) _) _ _ _) | (with_reducible show wpAny _ _ (pyIter _) _ _ _) | (with_reducible show wpAny _ _ (call (Value.builtin "list.append") _) _ _ _) | (with_reducible show wpAny _ _ (eval (Expr.ListComp _ _ _ _) _) _ _ _) | (with_reducible show wpAny _ _ (exec (Stmt.Assign _ (Expr.ListComp _ _ _ _) _) _) _ _ _) | (with_reducible show wpAny _ _ (compareOp CmpOp.NotEq (Value.ref _) (Value.ref _)) _ _ _) | (with_reducible show wpAny _ _ (compareOp CmpOp.Eq (Value.ref _) (Value.ref _)) _ _ _) | (with_reducible show wpAny _ _ (compareOp CmpOp.In _ (Value.ref _)) _ _ _) | (with_reducible show wpAny _ _ (compareOp CmpOp.NotIn _ (Value.ref _)) _ _ _))); (first | walk1 | (dsimp only; walk1)))))
              rw [List.push_toArray] at N'
              obtain ⟨vf, hvf, N'⟩ := led_name (e := Dat.str (foundT lt (some i))) N' (by rw [hxf]; exact .str _ _)
              refine kd_end ⟨c.vs ++ [vf], c.k + 1⟩ [] hsep (by assumption) N' ?_ ?_ rfl (by intro _ h; cases h) (by intro _ h; cases h) (by intro _ h; cases h) ?_ trivial ⟨qs ++ [(some i)], by simp [plD], ?_⟩
              · intro p hp; grind
              · intro p hp; grind
              · intro z h1 _ h3; simp only [if_neg h1, kstB, h3]; rfl
              · rw [List.map_append, List.map_append]; exact hfv.append (.one hvf)
            · have hxf : foundT lt (some i) = Str.ofString "NA" := by simp only [foundT]; rw [if_neg (by rw [hltl]; exact hi)]
              (repeat' (first | (k_unfold; (try dsimp only)) | ((fail_if_success (first | (with_reducible show wpAny _ _ (setItem _ _ _) _ _ _) | (with_reducible show wpAny _ _ (call (Value.builtin "dict.get") _) _ _ _) | (with_reducible show wpAny _ _ (exec (Stmt.While _ _ _ _) _) _ _ _) | (with_reducible show wpAny _ _ (exec (Stmt.For _ _ _ _ _) _) _ _ _) | (with_reducible show wpAny _ _ (pyIter _) _ _ _) | (with_reducible show wpAny _ _ (call (Value.builtin "list.append") _) _ _ _) | (with_reducible show wpAny _ _ (eval (Expr.ListComp _ _ _ _) _) _ _ _) | (with_reducible show wpAny _ _ (exec (Stmt.Assign _ (Expr.ListComp _ _ _ _) _) _) _ _ _) | (with_reducible show wpAny _ _ (compareOp CmpOp.NotEq (Value.ref _) (Value.ref _)) _ _ _) | (with_reducible show wpAny _ _ (compareOp CmpOp.Eq (Value.ref _) (Value.ref _)) _ _ _) | (with_reducible show wpAny _ _ (subscriptTail _ _ (Value.ref _) (Value.int _ _)) _ _ _))); (first | walk1 | (dsimp only; walk1)))))
              k_dflt (refine' append_K ?F ?N ?U ?_ ?hz; (case F => k_asm); (case N => k_asm); (case U => exact Upd.head (upd_sep hnF hsep (by simp))); (case hz => rw [List.size_toArray, PySem.sizeLine_eq]; omega))
              intro h' F' N'
              (repeat' (first | (k_unfold; (try dsimp only)) | ((fail_if_success (first | (with_reducible show wpAny _ _ (setItem _ _ _) _ _ _) | (with_reducible show wpAny _ _ (call (Value.builtin "dict.get") _) _ _ _) | (with_reducible show wpAny _ _ (exec (Stmt.While _ _ _ _) _) _ _ _) | (with_reducible show wpAny _ _ (exec (Stmt.For _ _ _ _ _) _) _ _ _) | (with_reducible show wpAny _ _ (pyIter _) _ _ _) | (with_reducible show wpAny _ _ (call (Value.builtin "list.append") _) _ _ _) | (with_reducible show wpAny _ _ (eval (Expr.ListComp _ _ _ _) _) _ _ _) | (with_reducible show wpAny _ _ (exec (Stmt.Assign _ (Expr.ListComp _ _ _ _) _) _) _ _ _) | (with_reducible show wpAny _ _ (compareOp CmpOp.NotEq (Value.ref _) (Value.ref _)) _ _ _) | (with_reducible show wpAny _ _ (compareOp CmpOp.Eq (Value.ref _) (Value.ref _)) _ _ _) | (with_reducible show wpAny _ _ (compareOp CmpOp.In _ (Value.ref _)) _ _ _) | (with_reducible show wpAny _ _ (compareOp CmpOp.NotIn _ (Value.ref _)) _ _ _))); (first | walk1 | (dsimp only; walk1)))))
              rw [List.push_toArray] at N'
              obtain ⟨vf, hvf, N'⟩ := led_name (e := Dat.str (foundT lt (some i))) N' (by rw [hxf]; exact .str _ _)
              refine kd_end ⟨c.vs ++ [vf], c.k + 1⟩ [] hsep (by assumption) N' ?_ ?_ rfl (by intro _ h; cases h) (by intro _ h; cases h) (by intro _ h; cases h) ?_ trivial ⟨qs ++ [(some i)], by simp [plD], ?_⟩
              · intro p hp; grind
              · intro p hp; grind
              · intro z h1 _ h3; simp only [if_neg h1, kstB, h3]; rfl
              · rw [List.map_append, List.map_append]; exact hfv.append (.one hvf)
        · rintro c tl u h tk hoff _ ⟨qs, hqs, hfv⟩ F₁ N₁
          have hqs := map_pl_inj hqs
          subst hqs
          simp only [List.cons_append, List.nil_append] at N₁
          (repeat' (first | (k_unfold; (try dsimp only)) | ((fail_if_success (first | (with_reducible show wpAny _ _ (setItem _ _ _) _ _ _) | (with_reducible show wpAny _ _ (call (Value.builtin "dict.get") _) _ _ _) | (with_reducible show wpAny _ _ (exec (Stmt.While _ _ _ _) _) _ _ _) | (with_reducible show wpAny _ _ (exec (Stmt.For _ _ _ _ _) _) _ _ _) | (with_reducible show wpAny _ _ (pyIter _) _ _ _) | (with_reducible show wpAny _ _ (call (Value.builtin "list.append") _) _ _ _) | (with_reducible show wpAny _ _ (eval (Expr.ListComp _ _ _ _) _) _ _ _) | (with_reducible show wpAny _ _ (exec (Stmt.Assign _ (Expr.ListComp _ _ _ _) _) _) _ _ _) | (with_reducible show wpAny _ _ (compareOp CmpOp.NotEq (Value.ref _) (Value.ref _)) _ _ _) | (with_reducible show wpAny _ _ (compareOp CmpOp.Eq (Value.ref _) (Value.ref _)) _ _ _) | (with_reducible show wpAny _ _ (call (Value.ref 246) _) _ _ _))); (first | walk1 | (dsimp only; walk1)))))
          have hfs : ∀ x ∈ ps.map (foundT lt), x.length ≤ 10 := by
            intro x hx
            obtain ⟨q, _, rfl⟩ := List.mem_map.mp hx
            have hna : (Str.ofString "NA").length ≤ 10 := by decide
            cases q with
            | none => exact hna
            | some i =>
              simp only [foundT]
              split
              · cases hh : lt[i.toNat]? with
                | none => exact hna
                | some y => exact hls y (List.mem_of_getElem? hh)
              · exact hna
          k_dflt (refine' unique_tell (w := w) (mean := mean) (mg := mg) (mb := mb) ?B ?F ?X ?T ?hk ?hd ?hu ?N ?a1 hfv ?hml hfs ?_; (case B => k_asm); (case F => k_asm); (case X => k_asm); (case T => k_asm); (case hk => exact rfl); (case hd => ktr_room); (case hu => ktr_units); (case N => k_asm); (case a1 => k_mem); (case hml => simpa using hps))
          intro r2 us fv2 fk2 h' tk' F' N' hlt2 hfv2 hmu
          have hln2 : fv2.length ≤ 1000 := by rw [hfv2.length, List.length_map, hmu.len, List.length_map]; omega
          have hlt3 : ∀ p ∈ news, @LT.lt Nat _ p.1 r2 := fun p hp => hlt2 p (by simp [hp])
          have l1 : ∀ p ∈ (r2, listOf fv2.toArray fk2) :: news, p.1 < r2 + 1 := List.forall_mem_cons.mpr ⟨Nat.lt_succ_self _, fun p hp => Nat.lt_succ_of_lt (hlt3 p hp)⟩
          (repeat' (first | (k_unfold; (try dsimp only)) | ((fail_if_success (first | (with_reducible show wpAny _ _ (setItem _ _ _) _ _ _) | (with_reducible show wpAny _ _ (call (Value.builtin "dict.get") _) _ _ _) | (with_reducible show wpAny _ _ (exec (Stmt.While _ _ _ _) _) _ _ _) | (with_reducible show wpAny _ _ (exec (Stmt.For _ _ _ _ _) _) _ _ _) | (with_reducible show wpAny _ _ (pyIter _) _ _ _) | (with_reducible show wpAny _ _ (call (Value.builtin "list.append") _) _ _ _) | (with_reducible show wpAny _ _ (eval (Expr.ListComp _ _ _ _) _) _ _ _) | (with_reducible show wpAny _ _ (exec (Stmt.Assign _ (Expr.ListComp _ _ _ _) _) _) _ _ _) | (with_reducible show wpAny _ _ (compareOp CmpOp.NotEq (Value.ref _) (Value.ref _)) _ _ _) | (with_reducible show wpAny _ _ (compareOp CmpOp.Eq (Value.ref _) (Value.ref _)) _ _ _) | (with_reducible show wpAny _ _ (call (Value.ref 246) _) _ _ _))); (first | walk1 | (dsimp only; walk1)))))
          first | with_reducible rename News h₀ L _ _ => kN | rename News h₀ L _ _ => kN
          first | with_reducible rename (_ ∧ _ ∧ _ ∧ _ ∧ _ ∧ AllLt _ (news ++ tl)) => l1C | rename (_ ∧ _ ∧ _ ∧ _ ∧ _ ∧ AllLt _ (news ++ tl)) => l1C
          first | with_reducible rename (_ ∧ _ ∧ _ ∧ _ ∧ _ ∧ _ ∧ AllLt _ (news ++ tl)) => l1D | rename (_ ∧ _ ∧ _ ∧ _ ∧ _ ∧ _ ∧ AllLt _ (news ++ tl)) => l1D
          refine retB (hlk.mp rfl) _ _ _ fv2 us _ _ _ _ _ _ _ _ _ ?_ (news_head3 kN (by intro p hp; simp [hp])) hfv2 hmu (ne_of_alls (alls_left l1C.2.2.2.2.2) (Nat.le_refl _)) (ne_of_alls (alls_left l1D.2.2.2.2.2.2) (Nat.le_refl _)) (ne_of_alls (alls_left l1D.2.2.2.2.2.2) ?_)
          · assumption
          · first | omega | (apply Nat.le_of_lt; assumption)


/-- the row names that picked_labels hands back -/
def LabRes (kd : Str) (mv : List Value) (lt : List Str) (ps : List (Option Int)) (kk : Str) (vals : List Value) : Prop :=
  (¬ LacksP (mv.length : Int) ps ∧ kk = kd ∧ vals = (ps.map plD).map (pickD mv)) ∨ (LacksP (mv.length : Int) ps ∧ kk = Str.ofString "character" ∧ ∃ us : List Str, DatAll [] vals (us.map Dat.str) ∧ MuOk (ps.map (foundT lt)) us)
theorem picked2_tell {w : World} {mean : ExcName → Option Value} {mg mb : Str → Option Value} {dp un : Nat} {gd : Option (List Code)} {cn : Str} {cs : Scope} {a : Addr} {ccd : Value} {cl : List (Str × Addr)} {outer : List Env} {A₀ : Around} {base h₀ : Heap} {L : Addr} {m : Str → Option Value} {s : Shared} {Q E : Value → Shared → Prop} {f df il ad nv clv rv drv lv pl : Addr} {oad : Obj} {mv pv : List Value} {k pk : Nat} {kd : Str} {md : List Dat} {lt : List Str} {ps : List (Option Int)} {t0 t1 t2 t3 t4 t5 u0 u1 u2 u3 u4 u5 : Tok} {sh lo sh2 lo2 : Bool} {news : List (Addr × Obj)}
    (B : Below A₀ base outer h₀) (F : Fr h₀ L s.heap m) (X : (Mine.K w.params).In h₀) (T : Top Mine.q (looseW Mine.q Mine.lo) mean mg mb h₀) (hk : cs.kind = .function)
    (hd : dp + 20 < recursionLimit) (hu : un + 600 < cLine) (N : News h₀ L s.heap news)
    (hf : (f, instObj 164 df) ∈ news) (hdf : (df, dictOf (vecEs w (Str.ofString "list") t0 (.ref il) (.ref ad) sh lo t1 t2 t3 t4 t5) 5) ∈ news)
    (had : (ad, oad) ∈ news) (hoad : oad.IsDictOf (PySem.strKind Challenge.rw_pq1321_01.row.prog w) [(Str.ofString "names", .ref nv), (Str.ofString "class", .ref clv), (Str.ofString "row.names", .ref rv)]) (load : (ad == sysModules) = false)
    (hrv : (rv, instObj 164 drv) ∈ news) (hdrv : (drv, dictOf (vecEs w kd u0 (.ref lv) .none sh2 lo2 u1 u2 u3 u4 u5) 5) ∈ news) (hlv : (lv, listOf mv.toArray k) ∈ news)
    (hmv : DatAll [] mv md) (hL : LabOk kd md lt) (hls : ∀ x ∈ lt, x.length ≤ 10) (hml : mv.length ≤ 4) (hml1 : 1 ≤ mv.length) 
    (hpl : (pl, listOf pv.toArray pk) ∈ news) (hpv : DatAll [] pv (ps.map plD)) (hps : ps.length ≤ 7) (hp0 : ∀ i, some i ∈ ps → 0 ≤ i)
    (ret : ∀ kk vals r dr lr k a0 a1 a2 a3 a4 a5 h' tk', LabRes kd mv lt ps kk vals → Fr h₀ L h' m → News h₀ L h' ((r, instObj 164 dr) :: (dr, dictOf (vecEs w kk a0 (.ref lr) .none false false a1 a2 a3 a4 a5) 5) :: (lr, listOf vals.toArray k) :: news) → (∀ p ∈ news, p.1 ≠ lr) → (∀ p ∈ news, p.1 ≠ dr) → (∀ p ∈ news, p.1 ≠ r) → Q (.ref r) { s with heap := h', toks := tk' }) :
    wpAny (model Challenge.rw_pq1321_01.row.prog w) (ktrTop dp un gd cn cs L a ccd cl outer) (call (.ref 296) [.ref f, .ref pl]) Q E s :=
  picked_tell (nf := 0) B F X T hk hd hu N hf hdf had hoad load hrv hdrv hlv hmv hL hls hml hml1 hpl hpv hps hp0
    (fun hnl r dr lr k a0 a1 a2 a3 a4 a5 h' tk' F' N' x y z => ret kd _ r dr lr k a0 a1 a2 a3 a4 a5 h' tk' (.inl ⟨hnl, rfl, rfl⟩) F' N' x y z)
    (fun hl r dr lr uv us k a0 a1 a2 a3 a4 a5 h' tk' F' N' du mu x y z => ret _ uv r dr lr k a0 a1 a2 a3 a4 a5 h' tk' (.inr ⟨hl, rfl, us, du, mu⟩) F' N' x y z)



/-- what a frame is in a ledger -/
structure FrD where
  (df il ad nv clv dnv nl dcl cll : Addr) (kk k1 k2 : Nat) (oad : Obj) (nvs : List Value) (tf : Tok) (sh lo : Bool) (t0 t1 t2 t3 t4 t5 : Tok) (sh2 lo2 : Bool) (u0 u1 u2 u3 u4 u5 : Tok) (sh3 lo3 : Bool) (v0 v1 v2 v3 v4 v5 : Tok)
structure FrameIn (w : World) (news : List (Addr × Obj)) (f : Addr) (cols : List Addr) (nms : List Str) (rv : Addr) (d : FrD) : Prop where
  a1 : (f, instObj 164 d.df) ∈ news
  a2 : (d.df, dictOf (vecEs w (Str.ofString "list") d.t0 (.ref d.il) (.ref d.ad) d.sh d.lo d.t1 d.t2 d.t3 d.t4 d.t5) 5) ∈ news
  a3 : (d.il, listOf (cols.map Value.ref).toArray d.kk) ∈ news
  a4 : (d.ad, d.oad) ∈ news
  a5 : d.oad.IsDictOf (PySem.strKind Challenge.rw_pq1321_01.row.prog w) [(Str.ofString "names", .ref d.nv), (Str.ofString "class", .ref d.clv), (Str.ofString "row.names", .ref rv)]
  a6 : (d.ad == sysModules) = false
  a7 : (d.nv, instObj 164 d.dnv) ∈ news
  a8 : (d.dnv, dictOf (vecEs w (Str.ofString "character") d.u0 (.ref d.nl) .none d.sh2 d.lo2 d.u1 d.u2 d.u3 d.u4 d.u5) 5) ∈ news
  a9 : (d.nl, listOf d.nvs.toArray d.k1) ∈ news
  a10 : DatAll [] d.nvs (nms.map Dat.str)
  a11 : (d.clv, instObj 164 d.dcl) ∈ news
  a12 : (d.dcl, dictOf (vecEs w (Str.ofString "character") d.v0 (.ref d.cll) .none d.sh3 d.lo3 d.v1 d.v2 d.v3 d.v4 d.v5) 5) ∈ news
  a13 : (d.cll, listOf [.str (Str.ofString "data.frame") d.tf].toArray d.k2) ∈ news
theorem FrameIn.mono {w : World} {news nx : List (Addr × Obj)} {f rv : Addr} {cols : List Addr} {nms : List Str} {d : FrD} (h : FrameIn w news f cols nms rv d) (hs : ∀ p ∈ news, p ∈ nx) : FrameIn w nx f cols nms rv d :=
  ⟨hs _ h.a1, hs _ h.a2, hs _ h.a3, hs _ h.a4, h.a5, h.a6, hs _ h.a7, hs _ h.a8, hs _ h.a9, h.a10, hs _ h.a11, hs _ h.a12, hs _ h.a13⟩
structure VcD where
  (dc lc : Addr) (k : Nat) (sh lo : Bool) (t0 t1 t2 t3 t4 t5 : Tok)
structure VecIn (w : World) (news : List (Addr × Obj)) (c : Addr) (kd : Str) (cv : List Value) (d : VcD) : Prop where
  b1 : (c, instObj 164 d.dc) ∈ news
  b2 : (d.dc, dictOf (vecEs w kd d.t0 (.ref d.lc) .none d.sh d.lo d.t1 d.t2 d.t3 d.t4 d.t5) 5) ∈ news
  b3 : (d.lc, listOf cv.toArray d.k) ∈ news
theorem VecIn.mono {w : World} {news nx : List (Addr × Obj)} {c : Addr} {kd : Str} {cv : List Value} {d : VcD} (h : VecIn w news c kd cv d) (hs : ∀ p ∈ news, p ∈ nx) : VecIn w nx c kd cv d := ⟨hs _ h.b1, hs _ h.b2, hs _ h.b3⟩
set_option maxRecDepth 100000 in
set_option maxHeartbeats 8000000 in
theorem column_names_tell {w : World} {mean : ExcName → Option Value} {mg mb : Str → Option Value} {dp un : Nat} {gd : Option (List Code)} {cn : Str} {cs : Scope} {a : Addr} {ccd : Value} {cl : List (Str × Addr)} {outer : List Env} {A₀ : Around} {base h₀ : Heap} {L : Addr} {m : Str → Option Value} {s : Shared} {Q E : Value → Shared → Prop} {f : Addr} {cols : List Addr} {nms : List Str} {rv : Addr} {d : FrD} {news : List (Addr × Obj)}
    (B : Below A₀ base outer h₀) (F : Fr h₀ L s.heap m) (X : (Mine.K w.params).In h₀) (T : Top Mine.q (looseW Mine.q Mine.lo) mean mg mb h₀) (hk : cs.kind = .function)
    (hd : dp + 20 < recursionLimit) (hu : un + 600 < cLine) (N : News h₀ L s.heap news) (hF : FrameIn w news f cols nms rv d) (hn : nms.length ≤ 4)
    (ret : ∀ r tv k h' tk', Fr h₀ L h' m → News h₀ L h' ((r, listOf tv.toArray k) :: news) → (∀ p ∈ news, p.1 ≠ r) → DatAll [] tv (nms.map Dat.str) → Q (.ref r) { s with heap := h', toks := tk' }) :
    wpAny (model Challenge.rw_pq1321_01.row.prog w) (ktrTop dp un gd cn cs L a ccd cl outer) (call (.ref 263) [.ref f]) Q E s := by
  have a1 := hF.a1
  have a2 := hF.a2
  have a3 := hF.a3
  have a4 := hF.a4
  have a5 := hF.a5
  have a6 := hF.a6
  have a7 := hF.a7
  have a8 := hF.a8
  have a9 := hF.a9
  have a10 := hF.a10
  have hnl : d.nvs.length ≤ 4 := by rw [a10.length, List.length_map]; exact hn
  refine wpAny_call ?_
  k_dflt cell_enter
  (repeat' (first | (k_unfold; (try dsimp only)) | ((fail_if_success (first | (with_reducible show wpAny _ _ (setItem _ _ _) _ _ _) | (with_reducible show wpAny _ _ (exec (Stmt.While _ _ _ _) _) _ _ _) | (with_reducible show wpAny _ _ (exec (Stmt.For _ _ _ _ _) _) _ _ _) | (with_reducible show wpAny _ _ (pyIter _) _ _ _) | (with_reducible show wpAny _ _ (call (Value.builtin "list.append") _) _ _ _) | (with_reducible show wpAny _ _ (eval (Expr.ListComp _ _ _ _) _) _ _ _) | (with_reducible show wpAny _ _ (exec (Stmt.Assign _ (Expr.ListComp _ _ _ _) _) _) _ _ _) | (with_reducible show wpAny _ _ (compareOp CmpOp.NotEq (Value.ref _) (Value.ref _)) _ _ _) | (with_reducible show wpAny _ _ (compareOp CmpOp.Eq (Value.ref _) (Value.ref _)) _ _ _))); (first | walk1 | (dsimp only; walk1)))))
  k_dflt (refine LCg.ListComp_U (F₀ := by k_asm) (by with_unfolding_all rfl) (by decide) (by rfl) (by decide) (by rfl) ?_)
  (repeat' (first | (k_unfold; (try dsimp only)) | ((fail_if_success (first | (with_reducible show wpAny _ _ (setItem _ _ _) _ _ _) | (with_reducible show wpAny _ _ (call (Value.builtin "dict.get") _) _ _ _) | (with_reducible show wpAny _ _ (exec (Stmt.While _ _ _ _) _) _ _ _) | (with_reducible show wpAny _ _ (exec (Stmt.For _ _ _ _ _) _) _ _ _) | (with_reducible show wpAny _ _ (pyIter _) _ _ _) | (with_reducible show wpAny _ _ (call (Value.builtin "list.append") _) _ _ _) | (with_reducible show wpAny _ _ (eval (Expr.ListComp _ _ _ _) _) _ _ _) | (with_reducible show wpAny _ _ (exec (Stmt.Assign _ (Expr.ListComp _ _ _ _) _) _) _ _ _) | (with_reducible show wpAny _ _ (compareOp CmpOp.NotEq (Value.ref _) (Value.ref _)) _ _ _) | (with_reducible show wpAny _ _ (compareOp CmpOp.Eq (Value.ref _) (Value.ref _)) _ _ _) | (with_reducible show wpAny _ _ (compareOp CmpOp.In _ (Value.ref _)) _ _ _) | (with_reducible show wpAny _ _ (compareOp CmpOp.NotIn _ (Value.ref _)) _ _ _))); (first | walk1 | (dsimp only; walk1)))))
  k_dflt (refine LCg.CompSrc.ledger (its := d.nvs.toArray) (by rfl) (by k_asm) (by k_asm) (by k_mem) (by rw [List.size_toArray, PySem.sizeLine_eq]; omega) ?_)
  intro g2
  refine comp_dat id a10 ?_ ?_
  · intro d x I oI C oC D m₂ ys h tk E' hd' hx hC hm2 F₃ N₃ off ne
    obtain ⟨i, hi, rfl⟩ := List.mem_map.mp hd'
    rcases hx with _ | _ | _ | ⟨_, ti⟩ | _ | _ | _
    (repeat' (first | (k_unfold; (try dsimp only)) | ((fail_if_success (first | (with_reducible show wpAny _ _ (setItem _ _ _) _ _ _) | (with_reducible show wpAny _ _ (call (Value.builtin "dict.get") _) _ _ _) | (with_reducible show wpAny _ _ (exec (Stmt.While _ _ _ _) _) _ _ _) | (with_reducible show wpAny _ _ (exec (Stmt.For _ _ _ _ _) _) _ _ _) | (with_reducible show wpAny _ _ (pyIter _) _ _ _) | (with_reducible show wpAny _ _ (call (Value.builtin "list.append") _) _ _ _) | (with_reducible show wpAny _ _ (eval (Expr.ListComp _ _ _ _) _) _ _ _) | (with_reducible show wpAny _ _ (exec (Stmt.Assign _ (Expr.ListComp _ _ _ _) _) _) _ _ _) | (with_reducible show wpAny _ _ (compareOp CmpOp.NotEq (Value.ref _) (Value.ref _)) _ _ _) | (with_reducible show wpAny _ _ (compareOp CmpOp.Eq (Value.ref _) (Value.ref _)) _ _ _) | (with_reducible show wpAny _ _ (compareOp CmpOp.In _ (Value.ref _)) _ _ _) | (with_reducible show wpAny _ _ (compareOp CmpOp.NotIn _ (Value.ref _)) _ _ _))); (first | walk1 | (dsimp only; walk1)))))
    refine comp_end (by k_asm) (by k_asm) ?_ off ?_ (.str _ _)
    · intro p hp; grind
    · exact src_ledger (by k_mem)
  · intro tv htv
    (repeat' (first | (k_unfold; (try dsimp only)) | ((fail_if_success (first | (with_reducible show wpAny _ _ (setItem _ _ _) _ _ _) | (with_reducible show wpAny _ _ (call (Value.builtin "dict.get") _) _ _ _) | (with_reducible show wpAny _ _ (exec (Stmt.While _ _ _ _) _) _ _ _) | (with_reducible show wpAny _ _ (exec (Stmt.For _ _ _ _ _) _) _ _ _) | (with_reducible show wpAny _ _ (pyIter _) _ _ _) | (with_reducible show wpAny _ _ (call (Value.builtin "list.append") _) _ _ _) | (with_reducible show wpAny _ _ (eval (Expr.ListComp _ _ _ _) _) _ _ _) | (with_reducible show wpAny _ _ (exec (Stmt.Assign _ (Expr.ListComp _ _ _ _) _) _) _ _ _) | (with_reducible show wpAny _ _ (compareOp CmpOp.NotEq (Value.ref _) (Value.ref _)) _ _ _) | (with_reducible show wpAny _ _ (compareOp CmpOp.Eq (Value.ref _) (Value.ref _)) _ _ _) | (with_reducible show wpAny _ _ (compareOp CmpOp.In _ (Value.ref _)) _ _ _) | (with_reducible show wpAny _ _ (compareOp CmpOp.NotIn _ (Value.ref _)) _ _ _))); (first | walk1 | (dsimp only; walk1)))))
    first | with_reducible rename News h₀ L _ _ => kN | rename News h₀ L _ _ => kN
    first | with_reducible rename (_ ∧ LCg.Off1 _ news) => o1 | rename (_ ∧ LCg.Off1 _ news) => o1
    refine ret _ tv _ _ _ ?_ (news_drop1 kN) (off1_mem o1.2) (by simpa using htv)
    assumption
/-- what new_frame leaves, as a frame -/
theorem frame_pack {w : World} {h₀ h : Heap} {L x1 y1 D1 lz x2 y2 D2 ad x3 y3 D3 rv : Addr} {p0 p1 p2 p3 p4 p5 q0 q1 q2 q3 q4 q5 r0 r1 r2 r3 r4 r5 z1 z2 z3 tf tg : Tok} {k1 k2 kz : Nat} {o : Obj} {nvs : List Value} {nms : List Str} {cols : List Addr} {rest : List (Addr × Obj)} {news : List (Addr × Obj)}
    (N : News h₀ L h ((x1, instObj 164 y1) :: (y1, dictOf (vecEs w (Str.ofString "character") p0 (.ref D1) .none false false p1 p2 p3 p4 p5) 5) :: (D1, listOf [.str (Str.ofString "data.frame") tf].toArray k1) :: (lz, listOf [.str (Str.ofString "data.frame") tg].toArray kz) ::
      (x2, instObj 164 y2) :: (y2, dictOf (vecEs w (Str.ofString "character") q0 (.ref D2) .none false false q1 q2 q3 q4 q5) 5) :: (D2, listOf nvs.toArray k2) :: (ad, o) ::
      (x3, instObj 164 y3) :: (y3, dictOf (vecEs w (Str.ofString "list") r0 (.ref D3) (.ref ad) false false r1 r2 r3 r4 r5) 5) :: (D3, LCg.lst (cols.map Value.ref)) :: rest))
    (ho : o.IsDictOf (PySem.strKind Challenge.rw_pq1321_01.row.prog w) (strPairs [(.str (Str.ofString "names") z1, .ref x2), (.str (Str.ofString "class") z2, .ref x1), (.str (Str.ofString "row.names") z3, .ref rv)]))
    (lo : (ad == sysModules) = false) (hnv : DatAll [] nvs (nms.map Dat.str))
    (off : ∀ q ∈ news, x1 ≠ q.1 ∧ y1 ≠ q.1 ∧ D1 ≠ q.1 ∧ x2 ≠ q.1 ∧ y2 ≠ q.1 ∧ D2 ≠ q.1 ∧ ad ≠ q.1 ∧ x3 ≠ q.1 ∧ y3 ≠ q.1 ∧ D3 ≠ q.1) :
    ∃ tl d, News h₀ L h (tl ++ rest) ∧ FrameIn w tl x3 cols nms rv d ∧ ∀ p ∈ tl, ∀ q ∈ news, p.1 ≠ q.1 := by
  refine ⟨[(x1, instObj 164 y1), (y1, dictOf (vecEs w (Str.ofString "character") p0 (.ref D1) .none false false p1 p2 p3 p4 p5) 5), (D1, listOf [.str (Str.ofString "data.frame") tf].toArray k1),
      (x2, instObj 164 y2), (y2, dictOf (vecEs w (Str.ofString "character") q0 (.ref D2) .none false false q1 q2 q3 q4 q5) 5), (D2, listOf nvs.toArray k2), (ad, o),
      (x3, instObj 164 y3), (y3, dictOf (vecEs w (Str.ofString "list") r0 (.ref D3) (.ref ad) false false r1 r2 r3 r4 r5) 5), (D3, LCg.lst (cols.map Value.ref))],
    ⟨y3, D3, ad, x2, x1, y2, D2, y1, D1, (cols.map Value.ref).length, k2, k1, o, nvs, tf, false, false, r0, r1, r2, r3, r4, r5, false, false, q0, q1, q2, q3, q4, q5, false, false, p0, p1, p2, p3, p4, p5⟩, ?_, ⟨?_, ?_, ?_, ?_, ho, lo, ?_, ?_, ?_, hnv, ?_, ?_, ?_⟩, ?_⟩
  · refine cb_drop N ?_
    intro p hp
    simp only [List.cons_append, List.nil_append, List.mem_cons] at hp ⊢
    rcases hp with h | h | h | h | h | h | h | h | h | h | h <;> simp [h]
  all_goals first | (simp only [List.cons_append, List.nil_append, List.mem_cons, true_or, or_true]; done) | skip
  intro p hp q hq
  obtain ⟨b1, b2, b3, b4, b5, b6, b7, b8, b9, b10⟩ := off q hq
  simp only [List.mem_cons, List.not_mem_nil, or_false] at hp
  rcases hp with h | h | h | h | h | h | h | h | h | h <;> (subst h; assumption)



def notDig (a : Str) : Bool := !(!(Builtin.Str.occurrences (Str.ofString "0123456789") a 0 (Str.ofString "0123456789").length 1).isEmpty)
theorem notDig_ten : ∀ c, c < 58 → 48 ≤ c → notDig ⟨#[c]⟩ = false := by decide +kernel
theorem num_signs {n : Int} (h1 : 0 ≤ n) : (signs (Str.ofString (toString n))).filter notDig = [] := by
  obtain ⟨k, rfl⟩ := Int.eq_ofNat_of_zero_le h1
  rw [List.filter_eq_nil_iff]
  intro a ha
  unfold signs at ha
  rw [KIN.signs_num] at ha
  obtain ⟨c, hc, rfl⟩ := List.mem_map.mp ha
  obtain ⟨ch, hch, rfl⟩ := List.mem_map.mp hc
  have hd := digit_range (Nat.isDigit_of_mem_toDigits (by omega) (by omega) hch)
  rw [notDig_ten _ (by omega) (by omega)]
  decide
theorem num_ne {n : Int} (h0 : 0 ≤ n) (h : n < 10 ^ 10) : (Str.ofString (toString n) != Str.ofString "") = true := by
  rw [bne_iff_ne]
  intro e
  have a := KIN.num_reads h0 h
  rw [e] at a
  exact absurd a (by rw [show PySem.intText? (Str.ofString "") = none from by decide +kernel]; simp)
theorem carried_nil {ys : List Value} (h : CarriedAll ys []) : ys = [] := by cases h; rfl
section
variable {prog : Program} {w : World} {A : Around} {E : Value → Shared → Prop} {s : Shared} {h₀ : Heap} {L : Addr} {m : Str → Option Value} {news : List (Addr × Obj)} {env : Env}
/-- the comprehension over a text's signs, its frame said -/
theorem signs_F {elt iter : PySem.Expr} {x : Str} {px : Pos} {ifs : List PySem.Expr} {scope : Scope} {pos : Pos} {Q : Value → Shared → Prop} (pz : Str → Bool) (y : Str) (t : Tok) (hy : y.length ≤ sizeLine) (F₀ : Fr h₀ L s.heap m) (N₀ : News h₀ L s.heap news)
    (hh : A.handled = none) (hfree : ∀ y ∈ scope.names, y.2 ≠ .free) (hcell : ∀ y ∈ scope.names, y.2 ≠ .cell) (hkind : scope.kind = .function)
    (hnames : ∀ y ∈ scope.names, y.2 = .local → scope.names.lookup y.1 = some .local) (hx : scope.names.lookup x = some .local) (hs : ∀ x, foldedSetIterable iter env x = pure x)
    (hi : ∀ Q' : Value → Shared → Prop, Q' (.str y t) s → wpAny (model prog w) A (eval iter env) Q' E s)
    (ht : ∀ C a v s₂ m₂ E', ItemKind.str.is a v → s₂.heap.Ns (compEnv scope C env).locals m₂ → m₂ x = some v →
        wpAny (model prog w) A (forIn ifs true fun c r => if r = true then do let ok ← isTrue c (compEnv scope C env) (eval c (compEnv scope C env)); pure (ForInStep.yield ok) else pure (ForInStep.yield r))
          (fun ok s₃ => ok = pz a ∧ Keeps s₂ s₃) E' s₂)
    (he : ∀ C a v s₂ m₂ E', ItemKind.str.is a v → pz a = true → s₂.heap.Ns (compEnv scope C env).locals m₂ → m₂ x = some v → wpAny (model prog w) A (eval elt (compEnv scope C env)) (fun r s₃ => Carried r (PyData.str a) ∧ Keeps s₂ s₃) E' s₂)
    (hq : ∀ D (ys : List Value) h' tk, Fr h₀ L h' m → News h₀ L h' news → h₀.get? D = none → h'.IsList D ys.toArray → NewPlain h' news D ys.toArray → CarriedAll ys (((signs y).filter pz).map PyData.str) → Q (.ref D) { s with heap := h', toks := tk }) :
    wpAny (model prog w) A (eval (.ListComp elt [⟨.Name x px, iter, ifs, 0⟩] scope pos) env) Q E s :=
  ListComp_signsD (h₀ := h₀) (L := L) (m := m) (news := news) (pz := pz) (d := PyData.str) hh hfree hcell hkind hnames hx (hi _ ⟨y, t, rfl, hy, F₀, N₀, ht, he, hq⟩) hs
end
set_option maxRecDepth 100000 in
set_option maxHeartbeats 8000000 in
theorem is_number_tell {w : World} {mean : ExcName → Option Value} {mg mb : Str → Option Value} {dp un : Nat} {gd : Option (List Code)} {cn : Str} {cs : Scope} {a : Addr} {ccd : Value} {cl : List (Str × Addr)} {outer : List Env} {A₀ : Around} {base h₀ : Heap} {L : Addr} {m : Str → Option Value} {s : Shared} {Q E : Value → Shared → Prop} {n : Int} {t : Tok} {news : List (Addr × Obj)}
    (B : Below A₀ base outer h₀) (F : Fr h₀ L s.heap m) (X : (Mine.K w.params).In h₀) (T : Top Mine.q (looseW Mine.q Mine.lo) mean mg mb h₀) (hk : cs.kind = .function)
    (hd : dp + 8 < recursionLimit) (hu : un + 400 < cLine) (N : News h₀ L s.heap news) (h1 : 1 ≤ n) (h2 : n ≤ 1000)
    (ret : ∀ h' tk', Fr h₀ L h' m → News h₀ L h' news → Q (.bool true) { s with heap := h', toks := tk' }) :
    wpAny (model Challenge.rw_pq1321_01.row.prog w) (ktrTop dp un gd cn cs L a ccd cl outer) (call (.ref 320) [.str (Str.ofString (toString n)) t]) Q E s := by
  refine wpAny_call ?_
  k_dflt cell_enter
  (repeat' (first | (k_unfold; (try dsimp only)) | ((fail_if_success (first | (with_reducible show wpAny _ _ (setItem _ _ _) _ _ _) | (with_reducible show wpAny _ _ (call (Value.builtin "dict.get") _) _ _ _) | (with_reducible show wpAny _ _ (exec (Stmt.While _ _ _ _) _) _ _ _) | (with_reducible show wpAny _ _ (exec (Stmt.For _ _ _ _ _) _) _ _ _) | (with_reducible show wpAny _ _ (pyIter _) _ _ _) | (with_reducible show wpAny _ _ (call (Value.builtin "list.append") _) _ _ _) | (with_reducible show wpAny _ _ (eval (Expr.ListComp _ _ _ _) _) _ _ _) | (with_reducible show wpAny _ _ (exec (Stmt.Assign _ (Expr.ListComp _ _ _ _) _) _) _ _ _) | (with_reducible show wpAny _ _ (compareOp CmpOp.NotEq (Value.ref _) (Value.ref _)) _ _ _) | (with_reducible show wpAny _ _ (compareOp CmpOp.Eq (Value.ref _) (Value.ref _)) _ _ _) | (with_reducible show wpAny _ _ (compareOp CmpOp.In _ (Value.ref _)) _ _ _) | (with_reducible show wpAny _ _ (compareOp CmpOp.NotIn _ (Value.ref _)) _ _ _))); (first | walk1 | (dsimp only; walk1)))))
  · rename_i g1 L1 H1 _ F1 N1 _ _ _ _
    have hl10 := KT.len_num (n := n) (by omega) (by omega)
    k_dflt (refine signs_F notDig (Str.ofString (toString n)) t (by rw [PySem.sizeLine_eq]; omega) F1 N1 (by rfl) (by decide) (by decide) (by rfl) (by decide) (by rfl) (fun _ => rfl) ?_ ?_ ?_ ?_)
    · intro Q' hq'
      (repeat' (first | (k_unfold; (try dsimp only)) | ((fail_if_success (first | (with_reducible show wpAny _ _ (setItem _ _ _) _ _ _) | (with_reducible show wpAny _ _ (call (Value.builtin "dict.get") _) _ _ _) | (with_reducible show wpAny _ _ (exec (Stmt.While _ _ _ _) _) _ _ _) | (with_reducible show wpAny _ _ (exec (Stmt.For _ _ _ _ _) _) _ _ _) | (with_reducible show wpAny _ _ (pyIter _) _ _ _) | (with_reducible show wpAny _ _ (call (Value.builtin "list.append") _) _ _ _) | (with_reducible show wpAny _ _ (eval (Expr.ListComp _ _ _ _) _) _ _ _) | (with_reducible show wpAny _ _ (exec (Stmt.Assign _ (Expr.ListComp _ _ _ _) _) _) _ _ _) | (with_reducible show wpAny _ _ (compareOp CmpOp.NotEq (Value.ref _) (Value.ref _)) _ _ _) | (with_reducible show wpAny _ _ (compareOp CmpOp.Eq (Value.ref _) (Value.ref _)) _ _ _) | (with_reducible show wpAny _ _ (compareOp CmpOp.In _ (Value.ref _)) _ _ _) | (with_reducible show wpAny _ _ (compareOp CmpOp.NotIn _ (Value.ref _)) _ _ _))); (first | walk1 | (dsimp only; walk1)))))
      exact hq'
    · intro C a v s₂ m₂ E' ha hm2 hx2
      obtain ⟨u, rfl⟩ := ha
      (repeat' (first | (k_unfold; (try dsimp only)) | ((fail_if_success (first | (with_reducible show wpAny _ _ (setItem _ _ _) _ _ _) | (with_reducible show wpAny _ _ (call (Value.builtin "dict.get") _) _ _ _) | (with_reducible show wpAny _ _ (exec (Stmt.While _ _ _ _) _) _ _ _) | (with_reducible show wpAny _ _ (exec (Stmt.For _ _ _ _ _) _) _ _ _) | (with_reducible show wpAny _ _ (pyIter _) _ _ _) | (with_reducible show wpAny _ _ (call (Value.builtin "list.append") _) _ _ _) | (with_reducible show wpAny _ _ (eval (Expr.ListComp _ _ _ _) _) _ _ _) | (with_reducible show wpAny _ _ (exec (Stmt.Assign _ (Expr.ListComp _ _ _ _) _) _) _ _ _) | (with_reducible show wpAny _ _ (compareOp CmpOp.NotEq (Value.ref _) (Value.ref _)) _ _ _) | (with_reducible show wpAny _ _ (compareOp CmpOp.Eq (Value.ref _) (Value.ref _)) _ _ _) | (with_reducible show wpAny _ _ (compareOp CmpOp.In _ (Value.ref _)) _ _ _) | (with_reducible show wpAny _ _ (compareOp CmpOp.NotIn _ (Value.ref _)) _ _ _))); (first | walk1 | (dsimp only; walk1)))))
      exact ⟨_, _, rfl, fun _ _ e => e⟩
    · intro C a v s₂ m₂ E' ha hz hm2 hx2
      obtain ⟨u, rfl⟩ := ha
      (repeat' (first | (k_unfold; (try dsimp only)) | ((fail_if_success (first | (with_reducible show wpAny _ _ (setItem _ _ _) _ _ _) | (with_reducible show wpAny _ _ (call (Value.builtin "dict.get") _) _ _ _) | (with_reducible show wpAny _ _ (exec (Stmt.While _ _ _ _) _) _ _ _) | (with_reducible show wpAny _ _ (exec (Stmt.For _ _ _ _ _) _) _ _ _) | (with_reducible show wpAny _ _ (pyIter _) _ _ _) | (with_reducible show wpAny _ _ (call (Value.builtin "list.append") _) _ _ _) | (with_reducible show wpAny _ _ (eval (Expr.ListComp _ _ _ _) _) _ _ _) | (with_reducible show wpAny _ _ (exec (Stmt.Assign _ (Expr.ListComp _ _ _ _) _) _) _ _ _) | (with_reducible show wpAny _ _ (compareOp CmpOp.NotEq (Value.ref _) (Value.ref _)) _ _ _) | (with_reducible show wpAny _ _ (compareOp CmpOp.Eq (Value.ref _) (Value.ref _)) _ _ _) | (with_reducible show wpAny _ _ (compareOp CmpOp.In _ (Value.ref _)) _ _ _) | (with_reducible show wpAny _ _ (compareOp CmpOp.NotIn _ (Value.ref _)) _ _ _))); (first | walk1 | (dsimp only; walk1)))))
      · exact .str _ _
      · exact ⟨_, _, rfl, fun _ _ e => e⟩
    · intro D ys h' tk F' N' hD hl hp hc
      rw [num_signs (by omega)] at hc
      cases carried_nil hc
      (repeat' (first | (k_unfold; (try dsimp only)) | ((fail_if_success (first | (with_reducible show wpAny _ _ (setItem _ _ _) _ _ _) | (with_reducible show wpAny _ _ (call (Value.builtin "dict.get") _) _ _ _) | (with_reducible show wpAny _ _ (exec (Stmt.While _ _ _ _) _) _ _ _) | (with_reducible show wpAny _ _ (exec (Stmt.For _ _ _ _ _) _) _ _ _) | (with_reducible show wpAny _ _ (pyIter _) _ _ _) | (with_reducible show wpAny _ _ (call (Value.builtin "list.append") _) _ _ _) | (with_reducible show wpAny _ _ (eval (Expr.ListComp _ _ _ _) _) _ _ _) | (with_reducible show wpAny _ _ (exec (Stmt.Assign _ (Expr.ListComp _ _ _ _) _) _) _ _ _) | (with_reducible show wpAny _ _ (compareOp CmpOp.NotEq (Value.ref _) (Value.ref _)) _ _ _))); (first | walk1 | (dsimp only; walk1)))))
      first | with_reducible rename News h₀ L _ _ => kN | rename News h₀ L _ _ => kN
      exact ret _ _ (by assumption) (cb_drop kN (by intro p hp; simp [hp]))
  · exact absurd (num_ne (n := n) (by omega) (by omega)) (by rename_i hx _ _ _ _; rw [hx]; decide)



section
variable {prog : Program} {w : World} {A : Around} {E : Value → Shared → Prop} {s : Shared} {h₀ : Heap} {L : Addr} {news n₁ n₂ : List (Addr × Obj)} {u v : Value} {d e : Dat} {Q : Value → Shared → Prop}
theorem dat_eqv (ha : kqdOk 9 d = true) (hb : kqdOk 9 e = true) [Decidable (d = e)] : PyData.eqv (kqdP d) (kqdP e) = decide (d = e) := by
  have q := kqd_eqv 9 d e 9 ha hb
  by_cases hq : d = e
  · rw [decide_eq_true hq]; exact q.mpr hq
  · rw [decide_eq_false hq]; exact Bool.eq_false_iff.mpr fun x => hq (q.mp x)
theorem dat_shaped (ha : kqdOk 9 d = true) : SeqAt.shaped (kqdP d) = true := by
  have la := kqd_lay 9 d ha
  unfold SeqAt.shaped; rw [la.1, Bool.true_and]; exact decide_eq_true (Nat.le_trans la.2 (by decide))
open Classical in
theorem dat_ne (N : News h₀ L s.heap news) (Da : DatIn n₁ u d) (sa : ∀ p ∈ n₁, p ∈ news) (Db : DatIn n₂ v e) (sb : ∀ p ∈ n₂, p ∈ news)
    (ha : kqdOk 9 d = true) (hb : kqdOk 9 e = true) (hu : A.units + 64 < cLine) (h : Q (.bool (!decide (d = e))) s) : wpAny (model prog w) A (compareOp .NotEq u v) Q E s := by
  obtain ⟨as, ra⟩ := kqd_in N 9 (Da.mono sa) ha
  obtain ⟨bs, rb⟩ := kqd_in N 9 (Db.mono sb) hb
  exact ne_dataH ra rb (dat_shaped ha) (dat_shaped hb) hu (by rw [dat_eqv ha hb]; exact h)
open Classical in
theorem dat_eq (N : News h₀ L s.heap news) (Da : DatIn n₁ u d) (sa : ∀ p ∈ n₁, p ∈ news) (Db : DatIn n₂ v e) (sb : ∀ p ∈ n₂, p ∈ news)
    (ha : kqdOk 9 d = true) (hb : kqdOk 9 e = true) (hu : A.units + 64 < cLine) (h : Q (.bool (decide (d = e))) s) : wpAny (model prog w) A (compareOp .Eq u v) Q E s := by
  obtain ⟨as, ra⟩ := kqd_in N 9 (Da.mono sa) ha
  obtain ⟨bs, rb⟩ := kqd_in N 9 (Db.mono sb) hb
  exact eq_dataH ra rb (dat_shaped ha) (dat_shaped hb) hu (by rw [dat_eqv ha hb]; exact h)
/-- two data that are the same -/
theorem dat_ne_same (N : News h₀ L s.heap news) (Da : DatIn n₁ u d) (sa : ∀ p ∈ n₁, p ∈ news) (Db : DatIn n₂ v d) (sb : ∀ p ∈ n₂, p ∈ news)
    (ha : kqdOk 9 d = true) (hu : A.units + 64 < cLine) (h : Q (.bool false) s) : wpAny (model prog w) A (compareOp .NotEq u v) Q E s :=
  dat_ne N Da sa Db sb ha ha hu (by simpa using h)
theorem dat_eq_same (N : News h₀ L s.heap news) (Da : DatIn n₁ u d) (sa : ∀ p ∈ n₁, p ∈ news) (Db : DatIn n₂ v d) (sb : ∀ p ∈ n₂, p ∈ news)
    (ha : kqdOk 9 d = true) (hu : A.units + 64 < cLine) (h : Q (.bool true) s) : wpAny (model prog w) A (compareOp .Eq u v) Q E s :=
  dat_eq N Da sa Db sb ha ha hu (by simpa using h)
end
/-- the vectors of a frame, with what they hold -/
inductive ColsIn (w : World) (news : List (Addr × Obj)) : List Addr → List Dat → Prop
  | nil : ColsIn w news [] []
  | cons {c : Addr} {cs : List Addr} {cv : List Value} {g : VcD} {ds es : List Dat} : VecIn w news c (Str.ofString "integer") cv g → DatAll [] cv ds → (∀ d ∈ ds, kqdOk 0 d = true) → ds.length ≤ 7 → ColsIn w news cs es → ColsIn w news (c :: cs) (Dat.list ds :: es)
theorem ColsIn.mono {w : World} {news nx : List (Addr × Obj)} (hs : ∀ p ∈ news, p ∈ nx) : ∀ {cs : List Addr} {es : List Dat}, ColsIn w news cs es → ColsIn w nx cs es
  | _, _, .nil => .nil
  | _, _, .cons a b c d r => .cons (a.mono hs) b c d (ColsIn.mono hs r)
theorem ColsIn.length {w : World} {news : List (Addr × Obj)} : ∀ {cs : List Addr} {es : List Dat}, ColsIn w news cs es → cs.length = es.length
  | _, _, .nil => rfl
  | _, _, .cons _ _ _ _ r => by rw [List.length_cons, List.length_cons, r.length]
theorem ColsIn.at {w : World} {news : List (Addr × Obj)} : ∀ {cs : List Addr} {es : List Dat} {i : Nat} {v : Value}, ColsIn w news cs es → (cs.map Value.ref).toArray[i]? = some v →
    ∃ c cv g ds, v = .ref c ∧ VecIn w news c (Str.ofString "integer") cv g ∧ DatAll [] cv ds ∧ es[i]? = some (Dat.list ds)
  | _, _, i, v, .nil, h => by simp at h
  | _, _, 0, v, .cons (c := c) (cv := cv) (g := g) (ds := ds) a b _ _ r, h => ⟨c, cv, g, ds, by simpa using h.symm, a, b, rfl⟩
  | _, _, i + 1, v, .cons a b _ _ r, h => by
    obtain ⟨c, cv, g, ds, h1, h2, h3, h4⟩ := r.at (i := i) (v := v) (by simpa using h)
    exact ⟨c, cv, g, ds, h1, h2, h3, by simpa using h4⟩
theorem kqd_up : ∀ (n : Nat) {d : Dat}, kqdOk 0 d = true → kqdOk n d = true := by
  intro n d h
  cases n with
  | zero => exact h
  | succ n => cases d <;> simp_all [kqdOk]
theorem ColsIn.ok {w : World} {news : List (Addr × Obj)} : ∀ {cs : List Addr} {es : List Dat}, ColsIn w news cs es → ∀ d ∈ es, kqdOk 8 d = true
  | _, _, .nil => by simp
  | _, _, .cons _ _ c _ r => by
    intro d hd
    rcases List.mem_cons.mp hd with rfl | hd
    · simp only [kqdOk, List.all_eq_true]; exact fun x hx => kqd_up 7 (c x hx)
    · exact r.ok d hd
section
variable {prog : Program} {w w' : World} {A : Around} {h₀ : Heap} {L : Addr} {m : Str → Option Value} {env : Env} {elt : PySem.Expr} {x : Str} {scope : Scope} {cl : List (Str × Addr)} {s : Shared} {S : List (Addr × Obj) → Prop} {Fin : List Value → List (Addr × Obj) → Prop} {news : List (Addr × Obj)}
theorem comp_cols {cols : List Addr} {es : List Dat} (hC : ColsIn w' news cols es)
    (turn : ∀ c cv g ds I oI C oC D m₂ ys h tk (E' : Value → Shared → Prop), VecIn w' news c (Str.ofString "integer") cv g → DatAll [] cv ds → LCg.NsObj oC m₂ → m₂ x = some (.ref c) → Fr h₀ L h m → News h₀ L h ((I, oI) :: (C, oC) :: (D, LCg.lst ys) :: news) → LCg.Off3 I C D news → ((@Ne Nat I C) ∧ (@Ne Nat I D) ∧ (@Ne Nat C D)) →
      wpAny (model prog w) A (eval elt (compEnvC scope cl C env)) (LCg.CompEnd h₀ L m { s with heap := h, toks := tk } I oI C oC D (LCg.lst ys) S (CompQ news fun y => y = .ref g.lc)) E' { s with heap := h, toks := tk })
    (fin : ∀ ys, DatAll news ys es → Fin ys news) : LCg.CompRest prog w A h₀ L m env elt x scope cl s S (fun i v => (cols.map Value.ref).toArray[i]? = some v) Fin (cols.map Value.ref).toArray.size 0 [] news := by
  refine comp_led (fun i ys nx => nx = news ∧ DatAll news ys (es.take i)) ⟨rfl, by simpa using DatAll.nil⟩ ?_ ?_
  · rintro i v nx I oI C oC D m₂ ys h tk E' hi hv ⟨rfl, hy⟩ hCo hx F N off ne
    obtain ⟨c, cv, g, ds, rfl, h2, h3, h4⟩ := hC.at hv
    refine wpAny_mono (turn c cv g ds I oI C oC D m₂ ys h tk E' h2 h3 hCo hx F N off ne) (fun y s₂ hq => ?_) fun _ _ e => e
    obtain ⟨h', tk', nw, e, F', N', off', hS, e2, hy'⟩ := hq
    refine ⟨h', tk', nw, e, F', N', off', hS, e2, ?_⟩
    rw [List.take_add_one, h4]
    rw [hy']
    exact hy.append (.one (.list h2.b3 (h3.mono (by simp))))
  · rintro ys nx ⟨rfl, hy⟩
    rw [List.size_toArray, List.length_map, hC.length, List.take_length] at hy
    exact fin ys hy
end



abbrev ColD (w : World) (lc : Addr) (sh : Bool) (d : VcD) : Obj := dictOf (vecEs w (Str.ofString "integer") d.t0 (.ref lc) .none sh false d.t1 d.t2 d.t3 d.t4 d.t5) 5
theorem VecIn.of {w : World} {news : List (Addr × Obj)} {c dc lc : Addr} {kd : Str} {cv : List Value} {k : Nat} {sh lo : Bool} {t0 t1 t2 t3 t4 t5 : Tok} (a : (c, instObj 164 dc) ∈ news) (b : (dc, dictOf (vecEs w kd t0 (.ref lc) .none sh lo t1 t2 t3 t4 t5) 5) ∈ news) (e : (lc, listOf cv.toArray k) ∈ news) :
    VecIn w news c kd cv ⟨dc, lc, k, sh, lo, t0, t1, t2, t3, t4, t5⟩ := ⟨a, b, e⟩
theorem tenNe {q D3 d3 x2 d2 D1 d1 x1 D d x : Nat} (hq : q < d3) (hD : q ≠ D3) (h1 : d3 < x2) (h2 : x2 < d2) (h3 : d2 < D1) (h4 : D1 < d1) (h5 : d1 < x1) (h6 : x1 < D) (h8 : D < d) (h9 : d < x) :
    x ≠ q ∧ d ≠ q ∧ D ≠ q ∧ x1 ≠ q ∧ d1 ≠ q ∧ D1 ≠ q ∧ d2 ≠ q ∧ x2 ≠ q ∧ d3 ≠ q ∧ D3 ≠ q := by
  refine ⟨?_, ?_, ?_, ?_, ?_, ?_, ?_, ?_, ?_, ?_⟩ <;> omega
inductive Fresh (w : World) : List (Addr × Obj) → List Addr → List Dat → Prop
  | nil : Fresh w [] [] []
  | snoc {tl : List (Addr × Obj)} {cols : List Addr} {es : List Dat} {c d lc : Addr} {e : VcD} {cv : List Value} {k : Nat} {ds : List Dat} : Fresh w tl cols es → DatAll [] cv ds → (∀ d ∈ ds, kqdOk 0 d = true) → ds.length ≤ 7 → @Ne Nat c d → @Ne Nat c lc → @Ne Nat d lc →
      (∀ p ∈ tl, @Ne Nat p.1 c ∧ @Ne Nat p.1 d ∧ @Ne Nat p.1 lc) → Fresh w ((c, instObj 164 d) :: (d, ColD w lc false e) :: (lc, listOf cv.toArray k) :: tl) (cols ++ [c]) (es ++ [Dat.list ds])
theorem Fresh.len {w : World} {tl : List (Addr × Obj)} {cols : List Addr} {es : List Dat} (h : Fresh w tl cols es) : cols.length = es.length := by
  induction h with
  | nil => rfl
  | snoc _ _ _ _ _ _ _ _ ih => simp [ih]
theorem vec_col {w : World} {news : List (Addr × Obj)} {c d lc : Addr} {cv : List Value} {k : Nat} {sh : Bool} {e : VcD} (a : (c, instObj 164 d) ∈ news) (b : (d, ColD w lc sh e) ∈ news) (f : (lc, listOf cv.toArray k) ∈ news) :
    VecIn w news c (Str.ofString "integer") cv ⟨d, lc, k, sh, false, e.t0, e.t1, e.t2, e.t3, e.t4, e.t5⟩ := ⟨a, b, f⟩
structure ColR where
  (c d l : Addr) (e : VcD) (cv : List Value) (k : Nat) (ds : List Dat)
structure InL (w : World) (tl : List (Addr × Obj)) (sh : Bool) (r : ColR) : Prop where
  i1 : (r.c, instObj 164 r.d) ∈ tl
  i2 : (r.d, ColD w r.l sh r.e) ∈ tl
  i3 : (r.l, listOf r.cv.toArray r.k) ∈ tl
theorem InL.mono {w : World} {tl tl' : List (Addr × Obj)} {sh : Bool} {r : ColR} (h : InL w tl sh r) (hs : ∀ p ∈ tl, p.1 = r.c ∨ p.1 = r.d ∨ p.1 = r.l → p ∈ tl') : InL w tl' sh r := ⟨hs _ h.i1 (.inl rfl), hs _ h.i2 (.inr (.inl rfl)), hs _ h.i3 (.inr (.inr rfl))⟩
structure GoodR (r : ColR) : Prop where
  da : DatAll [] r.cv r.ds
  ok : ∀ d ∈ r.ds, kqdOk 0 d = true
  ln : r.ds.length ≤ 7
  n1 : @Ne Nat r.c r.d
  n2 : @Ne Nat r.l r.d
structure Apart (r q : ColR) : Prop where
  a1 : @Ne Nat r.c q.d
  a2 : @Ne Nat r.d q.d
  a3 : @Ne Nat r.l q.d
  b1 : @Ne Nat q.c r.d
  b3 : @Ne Nat q.l r.d
theorem Fresh.recs {w : World} {tl : List (Addr × Obj)} {cols : List Addr} {es : List Dat} (h : Fresh w tl cols es) :
    ∃ rs : List ColR, cols = rs.map (·.c) ∧ es = rs.map (fun r => Dat.list r.ds) ∧ (∀ r ∈ rs, GoodR r ∧ InL w tl false r) ∧ rs.Pairwise Apart := by
  induction h with
  | nil => exact ⟨[], rfl, rfl, by simp, .nil⟩
  | snoc f da ok ln n1 n2 n3 ot ih =>
    rename_i tl cols es c d lc e cv k ds
    obtain ⟨rs, rfl, rfl, h1, h2⟩ := ih
    refine ⟨rs ++ [⟨c, d, lc, e, cv, k, ds⟩], by simp, by simp, ?_, ?_⟩
    · intro r hr
      rcases List.mem_append.mp hr with hr | hr
      · exact ⟨(h1 r hr).1, (h1 r hr).2.mono fun p hp _ => by simp [hp]⟩
      · obtain rfl := List.mem_singleton.mp hr
        exact ⟨⟨da, ok, ln, n1, Ne.symm n3⟩, ⟨by simp, by simp, by simp⟩⟩
    · refine List.pairwise_append.mpr ⟨h2, List.pairwise_singleton _ _, fun r hr q hq => ?_⟩
      obtain rfl := List.mem_singleton.mp hq
      have i := (h1 r hr).2
      have o1 := ot _ i.i1
      have o2 := ot _ i.i2
      have o3 := ot _ i.i3
      exact ⟨o1.2.1, o2.2.1, o3.2.1, Ne.symm o2.1, Ne.symm o2.2.2⟩
theorem cols_of {w : World} {tl : List (Addr × Obj)} : ∀ {rs : List ColR}, (∀ r ∈ rs, GoodR r) → (∀ r ∈ rs, InL w tl true r) → ColsIn w tl (rs.map (·.c)) (rs.map fun r => Dat.list r.ds)
  | [], _, _ => .nil
  | r :: rs, hg, hi =>
    have g := hg r (by simp)
    have i := hi r (by simp)
    .cons (vec_col i.i1 i.i2 i.i3) g.da g.ok g.ln (cols_of (fun x hx => hg x (by simp [hx])) (fun x hx => hi x (by simp [hx])))
structure ShJ (w : World) (base : List (Addr × Obj)) (rs : List ColR) (i : Nat) (ys : List Value) (nx : List (Addr × Obj)) : Prop where
  out : ∃ tl, nx = tl ++ base ∧ ys = (rs.take i).map (fun r => Value.ref r.c) ∧ (∀ r ∈ rs.take i, InL w tl true r) ∧ (∀ r ∈ rs.drop i, InL w tl false r) ∧ (∀ p ∈ tl, ∀ q ∈ base, @Ne Nat q.1 p.1)
theorem ShJ.start {w : World} {base tl : List (Addr × Obj)} {rs : List ColR} (h : ∀ r ∈ rs, InL w tl false r) (hof : ∀ p ∈ tl, ∀ q ∈ base, @Ne Nat q.1 p.1) : ShJ w base rs 0 [] (tl ++ base) :=
  ⟨tl, rfl, rfl, by simp, by simpa using h, hof⟩
abbrev restR (tl : List (Addr × Obj)) (d : Addr) : List (Addr × Obj) := tl.filter fun p => decide (@Ne Nat p.1 d)
theorem rest_in {tl : List (Addr × Obj)} {d : Addr} {p : Addr × Obj} : p ∈ restR tl d ↔ p ∈ tl ∧ @Ne Nat p.1 d := by
  rw [List.mem_filter, decide_eq_true_eq]
theorem ShJ.step {w : World} {base tl : List (Addr × Obj)} {rs : List ColR} {i : Nat} {ys : List Value} {r : ColR} (hr : rs[i]? = some r) (hp : rs.Pairwise Apart) (hg : ∀ r ∈ rs, GoodR r)
    (h1 : ys = (rs.take i).map (fun r => Value.ref r.c)) (h2 : ∀ r ∈ rs.take i, InL w tl true r) (h3 : ∀ r ∈ rs.drop i, InL w tl false r) (h4 : ∀ p ∈ tl, ∀ q ∈ base, @Ne Nat q.1 p.1) :
    ShJ w base rs (i + 1) (ys ++ [.ref r.c]) ((r.c, instObj 164 r.d) :: (r.d, ColD w r.l true r.e) :: (restR tl r.d ++ base)) := by
  obtain ⟨hi, rfl⟩ := List.getElem?_eq_some_iff.mp hr
  have hdr : rs.drop i = rs[i] :: rs.drop (i + 1) := List.drop_eq_getElem_cons hi
  have hta : rs.take (i + 1) = rs.take i ++ [rs[i]] := by rw [List.take_add_one, hr]; rfl
  have hpp : (rs.take i ++ rs.drop i).Pairwise Apart := by rw [List.take_append_drop]; exact hp
  rw [hdr] at hpp
  have pa := List.pairwise_append.mp hpp
  have ir : InL w tl false rs[i] := h3 _ (by rw [hdr]; exact List.mem_cons_self)
  have gr := hg rs[i] (List.getElem_mem hi)
  have keep : ∀ {sh : Bool} {q : ColR}, InL w tl sh q → @Ne Nat q.c rs[i].d → @Ne Nat q.d rs[i].d → @Ne Nat q.l rs[i].d → InL w ((rs[i].c, instObj 164 rs[i].d) :: (rs[i].d, ColD w rs[i].l true rs[i].e) :: restR tl rs[i].d) sh q := fun h x y z =>
    h.mono fun p hp hc => List.mem_cons_of_mem _ (List.mem_cons_of_mem _ (rest_in.mpr ⟨hp, by rcases hc with h | h | h <;> rw [h] <;> assumption⟩))
  refine ⟨(rs[i].c, instObj 164 rs[i].d) :: (rs[i].d, ColD w rs[i].l true rs[i].e) :: restR tl rs[i].d, rfl, by rw [hta, h1, List.map_append]; rfl, ?_, ?_, ?_⟩
  · intro q hq
    rw [hta] at hq
    rcases List.mem_append.mp hq with hq | hq
    · have z := pa.2.2 q hq rs[i] List.mem_cons_self
      exact keep (h2 q hq) z.a1 z.a2 z.a3
    · obtain rfl := List.mem_singleton.mp hq
      exact ⟨by simp, by simp, List.mem_cons_of_mem _ (List.mem_cons_of_mem _ (rest_in.mpr ⟨ir.i3, gr.n2⟩))⟩
  · intro q hq
    have z := (List.pairwise_cons.mp pa.2.1).1 q hq
    exact keep (h3 q (by rw [hdr]; exact List.mem_cons_of_mem _ hq)) z.b1 (Ne.symm z.a2) z.b3
  · exact List.forall_mem_cons.mpr ⟨fun q hq => h4 (rs[i].c, _) ir.i1 q hq, List.forall_mem_cons.mpr ⟨fun q hq => h4 (rs[i].d, ColD w rs[i].l false rs[i].e) ir.i2 q hq, fun p hp q hq => h4 p (rest_in.mp hp).1 q hq⟩⟩
theorem recs_at {rs : List ColR} {i : Nat} {v : Value} (h : ((rs.map (·.c)).map Value.ref).toArray[i]? = some v) : ∃ r, rs[i]? = some r ∧ v = .ref r.c := by
  simp only [List.getElem?_toArray, List.getElem?_map, Option.map_map, Option.map_eq_some_iff] at h
  obtain ⟨r, h1, h2⟩ := h
  exact ⟨r, h1, h2.symm⟩
theorem recs_drop {rs : List ColR} {i : Nat} {r : ColR} (h : rs[i]? = some r) : r ∈ rs.drop i := by
  obtain ⟨hi, rfl⟩ := List.getElem?_eq_some_iff.mp h
  rw [List.drop_eq_getElem_cons hi]; exact List.mem_cons_self
theorem sh_split {w : World} {h₀ h : Heap} {L I C D c d l : Addr} {e : VcD} {cv : List Value} {k : Nat} {ds : List Dat} {oI oC oD : Obj} {tl base : List (Addr × Obj)} (i : InL w tl false ⟨c, d, l, e, cv, k, ds⟩)
    (N : News h₀ L h ((I, oI) :: (C, oC) :: (D, oD) :: (tl ++ base))) (off : LCg.Off3 I C D (tl ++ base)) (hof : ∀ p ∈ tl, ∀ q ∈ base, @Ne Nat q.1 p.1) :
    News h₀ L h ((I, oI) :: (C, oC) :: (D, oD) :: (c, instObj 164 d) :: (d, ColD w l false e) :: (restR tl d ++ base)) ∧ LCg.Off3 I C D (restR tl d ++ base) ∧ (@Ne Nat c I ∧ @Ne Nat c C ∧ @Ne Nat c D) ∧ (@Ne Nat d I ∧ @Ne Nat d C ∧ @Ne Nat d D) ∧ OwnOff (restR tl d ++ base) [d] := by
  have om := off.mem
  have hr : ∀ p ∈ restR tl d ++ base, p ∈ tl ++ base := by
    intro p hp
    rcases List.mem_append.mp hp with hp | hp
    · exact List.mem_append_left _ (rest_in.mp hp).1
    · exact List.mem_append_right _ hp
  refine ⟨cb_drop N ?_, LCg.Off3.of fun p hp => om p (hr p hp), om _ (List.mem_append_left _ i.i1), om _ (List.mem_append_left _ i.i2), ?_⟩
  · intro p hp
    simp only [List.mem_cons] at hp ⊢
    rcases hp with h | h | h | h | h | h
    · exact .inl h
    · exact .inr (.inl h)
    · exact .inr (.inr (.inl h))
    · exact .inr (.inr (.inr (h ▸ List.mem_append_left _ i.i1)))
    · exact .inr (.inr (.inr (h ▸ List.mem_append_left _ i.i2)))
    · exact .inr (.inr (.inr (hr p h)))
  · intro p hp b hb
    obtain rfl := List.mem_singleton.mp hb
    rcases List.mem_append.mp hp with hp | hp
    · exact (rest_in.mp hp).2
    · exact hof (b, _) i.i2 p hp
set_option maxRecDepth 100000 in
set_option maxHeartbeats 8000000 in
theorem new_frame_tell {w : World} {mean : ExcName → Option Value} {mg mb : Str → Option Value} {dp un : Nat} {gd : Option (List Code)} {cn : Str} {cs : Scope} {a : Addr} {ccd : Value} {cl : List (Str × Addr)} {outer : List Env} {A₀ : Around} {base h₀ : Heap} {L : Addr} {m : Str → Option Value} {s : Shared} {Q E : Value → Shared → Prop} {tl : List (Addr × Obj)} {cols : List Addr} {es : List Dat} {cq nl rv : Addr} {ck nk : Nat} {nvs : List Value} {nms : List Str} {news : List (Addr × Obj)}
    (B : Below A₀ base outer h₀) (F : Fr h₀ L s.heap m) (X : (Mine.K w.params).In h₀) (T : Top Mine.q (looseW Mine.q Mine.lo) mean mg mb h₀) (hk : cs.kind = .function)
    (hd : dp + 20 < recursionLimit) (hu : un + 600 < cLine) (N : News h₀ L s.heap (tl ++ news)) (hF : Fresh w tl cols es) (hw : cols.length = 1 ∨ cols.length = 2) (hof : ∀ p ∈ tl, ∀ q ∈ news, @Ne Nat q.1 p.1)
    (hcl : (cq, listOf (cols.map Value.ref).toArray ck) ∈ news) (hnl : (nl, listOf nvs.toArray nk) ∈ news) (hnv : DatAll [] nvs (nms.map Dat.str)) (hn : nvs.length ≤ 4)
    (ret : ∀ r tl' d h' tk', Fr h₀ L h' m → News h₀ L h' (tl' ++ news) → FrameIn w tl' r cols nms rv d → ColsIn w tl' cols es → (∀ p ∈ tl', ∀ q ∈ news, p.1 ≠ q.1) → Q (.ref r) { s with heap := h', toks := tk' }) :
    wpAny (model Challenge.rw_pq1321_01.row.prog w) (ktrTop dp un gd cn cs L a ccd cl outer) (call (.ref 251) [.ref cq, .ref nl, .ref rv]) Q E s := by
  obtain ⟨rs, rfl, rfl, hR, hP⟩ := hF.recs
  have hJ0 : ShJ w news rs 0 [] (tl ++ news) := ShJ.start (fun r hr => (hR r hr).2) hof
  have hG : ∀ r ∈ rs, GoodR r := fun r hr => (hR r hr).1
  rw [List.length_map] at hw
  clear hF hR hof
  refine wpAny_call ?_
  k_dflt cell_enter
  (repeat' (first | (k_unfold; (try dsimp only)) | ((fail_if_success (first | (with_reducible show wpAny _ _ (setItem _ _ _) _ _ _) | (with_reducible show wpAny _ _ (call (Value.builtin "dict.get") _) _ _ _) | (with_reducible show wpAny _ _ (exec (Stmt.While _ _ _ _) _) _ _ _) | (with_reducible show wpAny _ _ (exec (Stmt.For _ _ _ _ _) _) _ _ _) | (with_reducible show wpAny _ _ (pyIter _) _ _ _) | (with_reducible show wpAny _ _ (call (Value.builtin "list.append") _) _ _ _) | (with_reducible show wpAny _ _ (eval (Expr.ListComp _ _ _ _) _) _ _ _) | (with_reducible show wpAny _ _ (exec (Stmt.Assign _ (Expr.ListComp _ _ _ _) _) _) _ _ _) | (with_reducible show wpAny _ _ (compareOp CmpOp.NotEq (Value.ref _) (Value.ref _)) _ _ _) | (with_reducible show wpAny _ _ (compareOp CmpOp.Eq (Value.ref _) (Value.ref _)) _ _ _) | (with_reducible show wpAny _ _ (compareOp CmpOp.In _ (Value.ref _)) _ _ _) | (with_reducible show wpAny _ _ (compareOp CmpOp.NotIn _ (Value.ref _)) _ _ _))); (first | walk1 | (dsimp only; walk1)))))
  k_dflt (refine LCg.ListComp_U (F₀ := by k_asm) (by with_unfolding_all rfl) (by decide) (by rfl) (by decide) (by rfl) ?_)
  (repeat' (first | (k_unfold; (try dsimp only)) | ((fail_if_success (first | (with_reducible show wpAny _ _ (setItem _ _ _) _ _ _) | (with_reducible show wpAny _ _ (call (Value.builtin "dict.get") _) _ _ _) | (with_reducible show wpAny _ _ (exec (Stmt.While _ _ _ _) _) _ _ _) | (with_reducible show wpAny _ _ (exec (Stmt.For _ _ _ _ _) _) _ _ _) | (with_reducible show wpAny _ _ (pyIter _) _ _ _) | (with_reducible show wpAny _ _ (call (Value.builtin "list.append") _) _ _ _) | (with_reducible show wpAny _ _ (eval (Expr.ListComp _ _ _ _) _) _ _ _) | (with_reducible show wpAny _ _ (exec (Stmt.Assign _ (Expr.ListComp _ _ _ _) _) _) _ _ _) | (with_reducible show wpAny _ _ (compareOp CmpOp.NotEq (Value.ref _) (Value.ref _)) _ _ _) | (with_reducible show wpAny _ _ (compareOp CmpOp.Eq (Value.ref _) (Value.ref _)) _ _ _) | (with_reducible show wpAny _ _ (compareOp CmpOp.In _ (Value.ref _)) _ _ _) | (with_reducible show wpAny _ _ (compareOp CmpOp.NotIn _ (Value.ref _)) _ _ _) | (with_reducible show LCg.CompSrc _ _ _ _ _ _ _ _ _ _ _ _ _ _) | (with_reducible show LCt.CompSrcT _ _ _ _ _ _ _ _ _ _ _ _ _ _ _))); (first | walk1 | (dsimp only; walk1)))))
  k_dflt (refine LCg.CompSrc.ledger (its := ((rs.map (·.c)).map Value.ref).toArray) (by rfl) (by k_asm) (by k_asm) (by k_mem) (by rw [List.size_toArray, List.length_map, List.length_map, PySem.sizeLine_eq]; omega) ?_)
  intro g2
  refine' comp_led (ShJ w news rs) hJ0 ?turn ?fin
  case turn =>
    rintro i v nx I oI C oC DD m₂ zs h tk E' hi hv ⟨⟨tl1, rfl, hys, h1, h2, h3⟩⟩ hCo hx F2 N2 off ne
    obtain ⟨r, hr, rfl⟩ := recs_at hv
    obtain ⟨N3, off3, oc, od, hO⟩ := sh_split (h2 r (recs_drop hr)) N2 off h3
    have J2 := ShJ.step hr hP hG hys h1 h2 h3
    have hcd : @Ne Nat r.c r.d := (hG r (List.mem_of_getElem? hr)).n1
    obtain ⟨c, d, l, e, cv, k, ds⟩ := r
    dsimp only at hcd J2 hx N3 oc od hO off3 ⊢
    clear N2 off h2 h1 h3 hys hv hr
    have off4 : LCg.Off3 I C DD ((c, instObj 164 d) :: (d, ColD w l true e) :: (restR tl1 d ++ news)) := ⟨oc, od, off3⟩
    (repeat' (first | (k_unfold; (try dsimp only)) | ((fail_if_success (first | (with_reducible show wpAny _ _ (setItem _ _ _) _ _ _) | (with_reducible show wpAny _ _ (call (Value.builtin "dict.get") _) _ _ _) | (with_reducible show wpAny _ _ (exec (Stmt.While _ _ _ _) _) _ _ _) | (with_reducible show wpAny _ _ (exec (Stmt.For _ _ _ _ _) _) _ _ _) | (with_reducible show wpAny _ _ (pyIter _) _ _ _) | (with_reducible show wpAny _ _ (call (Value.builtin "list.append") _) _ _ _) | (with_reducible show wpAny _ _ (eval (Expr.ListComp _ _ _ _) _) _ _ _) | (with_reducible show wpAny _ _ (exec (Stmt.Assign _ (Expr.ListComp _ _ _ _) _) _) _ _ _) | (with_reducible show wpAny _ _ (compareOp CmpOp.NotEq (Value.ref _) (Value.ref _)) _ _ _) | (with_reducible show wpAny _ _ (compareOp CmpOp.Eq (Value.ref _) (Value.ref _)) _ _ _) | (with_reducible show wpAny _ _ (compareOp CmpOp.In _ (Value.ref _)) _ _ _) | (with_reducible show wpAny _ _ (compareOp CmpOp.NotIn _ (Value.ref _)) _ _ _))); (first | walk1 | (dsimp only; walk1)))))
    refine LCg.CompEnd.intro (by k_asm) (by k_asm) ((c, instObj 164 d) :: (d, ColD w l true e) :: (restR tl1 d ++ news)) (fun p hp => hp) off4 (src_ledger (by k_mem)) J2
  case fin =>
    rintro zs nx ⟨⟨tl1, rfl, hys, h1, h2, h3⟩⟩
    have hn1 : ((rs.map (·.c)).map Value.ref).toArray.size = rs.length := by simp
    rw [hn1, List.take_length, show rs.map (fun r => Value.ref r.c) = (rs.map (·.c)).map Value.ref by rw [List.map_map]; rfl] at hys
    rw [hn1, List.take_length] at h1
    clear h2 hn1
    subst hys
    (repeat' (first | (k_unfold; (try dsimp only)) | ((fail_if_success (first | (with_reducible show wpAny _ _ (setItem _ _ _) _ _ _) | (with_reducible show wpAny _ _ (call (Value.builtin "dict.get") _) _ _ _) | (with_reducible show wpAny _ _ (exec (Stmt.While _ _ _ _) _) _ _ _) | (with_reducible show wpAny _ _ (exec (Stmt.For _ _ _ _ _) _) _ _ _) | (with_reducible show wpAny _ _ (pyIter _) _ _ _) | (with_reducible show wpAny _ _ (call (Value.builtin "list.append") _) _ _ _) | (with_reducible show wpAny _ _ (eval (Expr.ListComp _ _ _ _) _) _ _ _) | (with_reducible show wpAny _ _ (exec (Stmt.Assign _ (Expr.ListComp _ _ _ _) _) _) _ _ _) | (with_reducible show wpAny _ _ (compareOp CmpOp.NotEq (Value.ref _) (Value.ref _)) _ _ _) | (with_reducible show wpAny _ _ (compareOp CmpOp.Eq (Value.ref _) (Value.ref _)) _ _ _) | (with_reducible show wpAny _ _ (compareOp CmpOp.In _ (Value.ref _)) _ _ _) | (with_reducible show wpAny _ _ (compareOp CmpOp.NotIn _ (Value.ref _)) _ _ _))); (first | walk1 | (dsimp only; walk1)))))
    first | with_reducible rename News h₀ L _ _ => kN | rename News h₀ L _ _ => kN
    rename Obj.IsDictOf (PySem.strKind _ _) _ (strPairs _) => hdo
    first | with_reducible rename (_ ∧ AllLt _ (tl1 ++ news)) => lA | rename (_ ∧ AllLt _ (tl1 ++ news)) => lA
    first | with_reducible rename LCg.Off1 _ (tl1 ++ news) => oA | rename LCg.Off1 _ (tl1 ++ news) => oA
    have hfin := fun off lo => frame_pack (cols := rs.map (·.c)) (nms := nms) (news := tl1 ++ news) kN hdo lo hnv off
    obtain ⟨tl5, d5, hN, hFr, hof⟩ := hfin (by
      intro q hq
      have q1 := ltN (ktn_ltOf lA.2 q hq)
      have q2 := neN (off1_mem oA q hq)
      refine tenNe q1 q2 ?_ ?_ ?_ ?_ ?_ ?_ ?_ ?_ <;> first | assumption | exact And.left (by assumption) | (refine neN ?_; omega) | omega) (by assumption)
    rw [← List.append_assoc] at hN
    refine ret _ (tl5 ++ tl1) d5 _ _ (by assumption) hN (hFr.mono fun p hp => List.mem_append_left _ hp) ((cols_of hG h1).mono fun p hp => List.mem_append_right _ hp) ?_
    intro p hp q hq
    rcases List.mem_append.mp hp with hp | hp
    · exact hof p hp q (List.mem_append_right _ hq)
    · exact Ne.symm (h3 p hp q hq)



def pickE (ds : List Dat) : Option Int → Dat
  | none => Dat.none
  | some i => if i < (ds.length : Int) then (ds[i.toNat]?).getD Dat.none else Dat.none
def pickL (ps : List (Option Int)) : Dat → Dat
  | .list ds => .list (ps.map (pickE ds))
  | d => d
theorem pickE_in {cv : List Value} {ds : List Dat} (h : DatAll [] cv ds) (q : Option Int) : DatIn [] (pickD cv (plD q)) (pickE ds q) := by
  cases q with
  | none => exact .none
  | some i =>
    simp only [plD, pickD, pickE, h.length]
    split
    · by_cases hk : i.toNat < ds.length
      · obtain ⟨v, h1, h2⟩ := h.get hk
        rw [h1, List.getElem?_eq_getElem hk]; exact h2
      · rw [List.getElem?_eq_none (by rw [h.length]; omega), List.getElem?_eq_none (by omega)]; exact .none
    · exact .none
theorem pickL_in {cv : List Value} {ds : List Dat} (h : DatAll [] cv ds) : ∀ ps : List (Option Int), DatAll [] ((ps.map plD).map (pickD cv)) (ps.map (pickE ds))
  | [] => .nil
  | q :: ps => .cons (pickE_in h q) (pickL_in h ps)
theorem pickE_ok {ds : List Dat} (h : ∀ d ∈ ds, kqdOk 0 d = true) (q : Option Int) : kqdOk 0 (pickE ds q) = true := by
  cases q with
  | none => rfl
  | some i =>
    simp only [pickE]
    split
    · cases hh : ds[i.toNat]? with
      | none => rfl
      | some y => exact h y (List.mem_of_getElem? hh)
    · rfl
theorem pickL_ok {ds : List Dat} (h : ∀ d ∈ ds, kqdOk 0 d = true) (ps : List (Option Int)) : ∀ d ∈ ps.map (pickE ds), kqdOk 0 d = true := by
  intro d hd
  obtain ⟨q, _, rfl⟩ := List.mem_map.mp hd
  exact pickE_ok h q
structure VecJ (w : World) (base : List (Addr × Obj)) (es : List Dat) (i : Nat) (ys : List Value) (nx : List (Addr × Obj)) : Prop where
  out : ∃ tl cols, nx = tl ++ base ∧ ys = cols.map Value.ref ∧ Fresh w tl cols (es.take i) ∧ (∀ p ∈ tl, ∀ q ∈ base, @Ne Nat q.1 p.1)
theorem VecJ.start {w : World} {base : List (Addr × Obj)} {es : List Dat} : VecJ w base es 0 [] base := ⟨[], [], rfl, rfl, .nil, by simp⟩
section
variable {h₀ h' : Heap} {L I C D : Addr} {m : Str → Option Value} {s₁ : Shared} {oI oC oD : Obj} {S : List (Addr × Obj) → Prop} {rs : Value → List (Addr × Obj) → Prop} {y : Value} {tk : Nat} {x1 x2 x3 : Addr × Obj} {rest : List (Addr × Obj)}
theorem comp_end_3 (F : Fr h₀ L h' m) (N : News h₀ L h' (x1 :: x2 :: x3 :: (I, oI) :: (C, oC) :: (D, oD) :: rest)) (off : LCg.Off3 I C D rest) (n1 : @Ne Nat x1.1 I ∧ @Ne Nat x1.1 C ∧ @Ne Nat x1.1 D) (n2 : @Ne Nat x2.1 I ∧ @Ne Nat x2.1 C ∧ @Ne Nat x2.1 D) (n3 : @Ne Nat x3.1 I ∧ @Ne Nat x3.1 C ∧ @Ne Nat x3.1 D)
    (hS : S (x1 :: x2 :: x3 :: rest)) (r : rs y (x1 :: x2 :: x3 :: rest)) :
    LCg.CompEnd h₀ L m s₁ I oI C oC D oD S rs y { s₁ with heap := h', toks := tk } :=
  LCg.CompEnd.intro F N (x1 :: x2 :: x3 :: rest) (by intro p hp; simp only [List.mem_cons] at hp ⊢; rcases hp with h | h | h | h | h | h | h <;> simp [h]) ⟨n1, n2, n3, off⟩ hS r
end
section
variable {h₀ h' : Heap} {L I C D x dx lc : Addr} {m : Str → Option Value} {s₁ : Shared} {oI oC oD ox od ol : Obj} {S : List (Addr × Obj) → Prop} {rs : Value → List (Addr × Obj) → Prop} {y : Value} {tk : Nat} {rest : List (Addr × Obj)}
theorem comp_end_vec (F : Fr h₀ L h' m) (N : News h₀ L h' ((x, ox) :: (dx, od) :: (lc, ol) :: (I, oI) :: (C, oC) :: (D, oD) :: rest)) (off : LCg.Off3 I C D rest)
    (l1 : @LT.lt Nat _ I lc ∧ @LT.lt Nat _ C lc ∧ @LT.lt Nat _ D lc ∧ AllLt lc rest) (l2 : @LT.lt Nat _ lc dx) (l3 : @LT.lt Nat _ dx x)
    (hS : S ((x, ox) :: (dx, od) :: (lc, ol) :: rest)) (r : rs y ((x, ox) :: (dx, od) :: (lc, ol) :: rest)) :
    LCg.CompEnd h₀ L m s₁ I oI C oC D oD S rs y { s₁ with heap := h', toks := tk } := by
  obtain ⟨i1, i2, i3, i4⟩ := l1
  have j1 := Nat.lt_trans i1 l2
  have j2 := Nat.lt_trans i2 l2
  have j3 := Nat.lt_trans i3 l2
  exact comp_end_3 F N off ⟨Nat.ne_of_gt (Nat.lt_trans j1 l3), Nat.ne_of_gt (Nat.lt_trans j2 l3), Nat.ne_of_gt (Nat.lt_trans j3 l3)⟩ ⟨Nat.ne_of_gt j1, Nat.ne_of_gt j2, Nat.ne_of_gt j3⟩ ⟨Nat.ne_of_gt i1, Nat.ne_of_gt i2, Nat.ne_of_gt i3⟩ hS r
end
theorem all_off3 {x dx lc : Addr} {rest : List (Addr × Obj)} (l1 : AllLt lc rest) (l2 : @LT.lt Nat _ lc dx) (l3 : @LT.lt Nat _ dx x) : ∀ p ∈ rest, @Ne Nat p.1 x ∧ @Ne Nat p.1 dx ∧ @Ne Nat p.1 lc := fun p hp =>
  have h := ktn_ltOf l1 p hp
  ⟨Nat.ne_of_lt (Nat.lt_trans (Nat.lt_trans h l2) l3), Nat.ne_of_lt (Nat.lt_trans h l2), Nat.ne_of_lt h⟩
theorem ColsIn.at2 {w : World} {news : List (Addr × Obj)} : ∀ {cs : List Addr} {es : List Dat} {i : Nat} {v : Value}, ColsIn w news cs es → (cs.map Value.ref).toArray[i]? = some v →
    ∃ c cv g ds, v = .ref c ∧ VecIn w news c (Str.ofString "integer") cv g ∧ DatAll [] cv ds ∧ es[i]? = some (Dat.list ds) ∧ (∀ d ∈ ds, kqdOk 0 d = true) ∧ ds.length ≤ 7
  | _, _, i, v, .nil, h => by simp at h
  | _, _, 0, v, .cons (c := c) (cv := cv) (g := g) (ds := ds) a b k l r, h => ⟨c, cv, g, ds, by simpa using h.symm, a, b, rfl, k, l⟩
  | _, _, i + 1, v, .cons a b _ _ r, h => by
    obtain ⟨c, cv, g, ds, h1, h2, h3, h4, h5⟩ := r.at2 (i := i) (v := v) (by simpa using h)
    exact ⟨c, cv, g, ds, h1, h2, h3, by simpa using h4, h5⟩
theorem VecJ.snocD {w : World} {base tl : List (Addr × Obj)} {cols : List Addr} {es : List Dat} {i : Nat} {x dx lc : Addr} {t0 t1 t2 t3 t4 t5 : Tok} {vs : List Value} {ds : List Dat} {k : Nat}
    (hFr : Fresh w tl cols (es.take i)) (hoff : ∀ p ∈ tl, ∀ q ∈ base, @Ne Nat q.1 p.1) (hd : es[i]? = some (Dat.list ds)) (hv : DatAll [] vs ds) (hok : ∀ d ∈ ds, kqdOk 0 d = true) (hl : ds.length ≤ 7)
    (l1 : AllLt lc (tl ++ base)) (l2 : @LT.lt Nat _ lc dx) (l3 : @LT.lt Nat _ dx x) :
    VecJ w base es (i + 1) (cols.map Value.ref ++ [Value.ref x]) ((x, instObj 164 dx) :: (dx, dictOf (vecEs w (Str.ofString "integer") t0 (.ref lc) .none false false t1 t2 t3 t4 t5) 5) :: (lc, listOf vs.toArray k) :: (tl ++ base)) := by
  have o := all_off3 l1 l2 l3
  refine ⟨(x, instObj 164 dx) :: (dx, dictOf (vecEs w (Str.ofString "integer") t0 (.ref lc) .none false false t1 t2 t3 t4 t5) 5) :: (lc, listOf vs.toArray k) :: tl, cols ++ [x], rfl, by simp, ?_, ?_⟩
  · rw [List.take_add_one, hd]
    exact Fresh.snoc (e := ⟨dx, lc, k, false, false, t0, t1, t2, t3, t4, t5⟩) hFr hv hok hl (Nat.ne_of_gt l3) (Nat.ne_of_gt (Nat.lt_trans l2 l3)) (Nat.ne_of_gt l2) (fun p hp => o p (List.mem_append_left _ hp))
  · have ob := fun q (hq : q ∈ base) => o q (List.mem_append_right _ hq)
    exact List.forall_mem_cons.mpr ⟨fun q hq => (ob q hq).1, List.forall_mem_cons.mpr ⟨fun q hq => (ob q hq).2.1, List.forall_mem_cons.mpr ⟨fun q hq => (ob q hq).2.2, hoff⟩⟩⟩
theorem rows_front {h₀ h : Heap} {L : Addr} {x1 x2 x3 x4 x5 : Addr × Obj} {tl base : List (Addr × Obj)} (N : News h₀ L h (x1 :: x2 :: x3 :: x4 :: x5 :: (tl ++ base))) : News h₀ L h (tl ++ (x1 :: x2 :: x3 :: x4 :: x5 :: base)) := cb_drop N (by
  intro p hp; simp only [List.mem_cons, List.mem_append] at hp ⊢; rcases hp with h | h | h | h | h | h | h <;> simp [h])
theorem rows_back {h₀ h : Heap} {L : Addr} {x1 x2 x3 x4 x5 y : Addr × Obj} {tl base : List (Addr × Obj)} (N : News h₀ L h (tl ++ (x1 :: x2 :: x3 :: x4 :: x5 :: y :: base))) : News h₀ L h ((tl ++ [x1, x2, x3, x4, x5]) ++ base) := cb_drop N (by
  intro p hp; simp only [List.mem_cons, List.mem_append, List.not_mem_nil, or_false] at hp ⊢; rcases hp with (h | h | h | h | h | h) | h <;> simp [h])
set_option maxRecDepth 100000 in
set_option maxHeartbeats 8000000 in
theorem pick_rows_tell {w : World} {mean : ExcName → Option Value} {mg mb : Str → Option Value} {dp un : Nat} {gd : Option (List Code)} {cn : Str} {cs : Scope} {a : Addr} {ccd : Value} {cl : List (Str × Addr)} {outer : List Env} {A₀ : Around} {base h₀ : Heap} {L : Addr} {m : Str → Option Value} {s : Shared} {Q E : Value → Shared → Prop} {f rv pl : Addr} {cols : List Addr} {es : List Dat} {nms : List Str} {d : FrD} {gr : VcD} {mv pv : List Value} {pk : Nat} {kd : Str} {md : List Dat} {lt : List Str} {ps : List (Option Int)} {news : List (Addr × Obj)}
    (B : Below A₀ base outer h₀) (F : Fr h₀ L s.heap m) (X : (Mine.K w.params).In h₀) (T : Top Mine.q (looseW Mine.q Mine.lo) mean mg mb h₀) (hk : cs.kind = .function)
    (hd : dp + 40 < recursionLimit) (hu : un + 900 < cLine) (N : News h₀ L s.heap news) (hF : FrameIn w news f cols nms rv d) (hn : nms.length ≤ 4)
    (hC : ColsIn w news cols es) (hw : cols.length = 1 ∨ cols.length = 2)
    (hrv : VecIn w news rv kd mv gr) (hmv : DatAll [] mv md) (hL : LabOk kd md lt) (hls : ∀ x ∈ lt, x.length ≤ 10) (hml : mv.length ≤ 4) (hml1 : 1 ≤ mv.length)
    (hpl : (pl, listOf pv.toArray pk) ∈ news) (hpv : DatAll [] pv (ps.map plD)) (hps : ps.length ≤ 7) (hp0 : ∀ i, some i ∈ ps → 0 ≤ i)
    (ret : ∀ r tl d' xs rv' gv kk vals h' tk', Fr h₀ L h' m → News h₀ L h' (tl ++ news) → FrameIn w tl r xs nms rv' d' → ColsIn w tl xs (es.map (pickL ps)) → xs.length = cols.length → VecIn w tl rv' kk vals gv → LabRes kd mv lt ps kk vals → (∀ p ∈ tl, ∀ q ∈ news, p.1 ≠ q.1) → Q (.ref r) { s with heap := h', toks := tk' }) :
    wpAny (model Challenge.rw_pq1321_01.row.prog w) (ktrTop dp un gd cn cs L a ccd cl outer) (call (.ref 301) [.ref f, .ref pl]) Q E s := by
  have a1 := hF.a1
  have a2 := hF.a2
  have a3 := hF.a3
  have hcl := hC.length
  refine wpAny_call ?_
  k_dflt (refine' code_defC ?k1 ?k2 ?k3 ?k4 ?k5 ?kA ?kF ?kK ?k6 ?k7 ?k8 ?k9 ?kB ?kD ?_ ?c2 ?c3 ?c4; (case kA => exact rfl); (case kF => exact rfl); (case kK => first | assumption | exact rfl); (case k1 => k_asm); (case k2 => k_asm); (case k3 => k_asm); (case k4 => k_asm); (case k5 => k_asm); (case k6 => k_is); (case k7 => k_is); (case k8 => ktr_room); (case k9 => first | exact BindsTo.of_eq rfl | exact binds_K (by k_in) rfl (by k_is) rfl rfl rfl); (case kB => exact rfl); (case kD => decide +kernel); (case c2 => exact rfl); (case c3 => exact rfl); (case c4 => exact rfl); k_whole; intro g' L' h' tk' cells' FG' F' N' Y' B' X' T' l1; (try k_lt l1); k_cells Y'; (try simp only [List.cons_append, List.nil_append] at N'); (try dsimp only); (try k_lift B'); (try k_fold))
  (repeat' (first | (k_unfold; (try dsimp only)) | ((fail_if_success (first | (with_reducible show wpAny _ _ (setItem _ _ _) _ _ _) | (with_reducible show wpAny _ _ (call (Value.builtin "dict.get") _) _ _ _) | (with_reducible show wpAny _ _ (exec (Stmt.While _ _ _ _) _) _ _ _) | (with_reducible show wpAny _ _ (exec (Stmt.For _ _ _ _ _) _) _ _ _) | (with_reducible show wpAny _ _ (pyIter _) _ _ _) | (with_reducible show wpAny _ _ (call (Value.builtin "list.append") _) _ _ _) | (with_reducible show wpAny _ _ (eval (Expr.ListComp _ _ _ _) _) _ _ _) | (with_reducible show wpAny _ _ (exec (Stmt.Assign _ (Expr.ListComp _ _ _ _) _) _) _ _ _) | (with_reducible show wpAny _ _ (compareOp CmpOp.NotEq (Value.ref _) (Value.ref _)) _ _ _) | (with_reducible show wpAny _ _ (compareOp CmpOp.Eq (Value.ref _) (Value.ref _)) _ _ _) | (with_reducible show wpAny _ _ (compareOp CmpOp.In _ (Value.ref _)) _ _ _) | (with_reducible show wpAny _ _ (compareOp CmpOp.NotIn _ (Value.ref _)) _ _ _))); (first | walk1 | (dsimp only; walk1)))))
  k_dflt (refine LCg.Assign_ListComp_U (F₀ := by k_asm) (by rfl) (by with_unfolding_all rfl) (by with_unfolding_all rfl) (by decide) (by rfl) (by decide) (by rfl) (by rfl) (by rfl) ?_)
  (repeat' (first | (k_unfold; (try dsimp only)) | ((fail_if_success (first | (with_reducible show wpAny _ _ (setItem _ _ _) _ _ _) | (with_reducible show wpAny _ _ (call (Value.builtin "dict.get") _) _ _ _) | (with_reducible show wpAny _ _ (exec (Stmt.While _ _ _ _) _) _ _ _) | (with_reducible show wpAny _ _ (exec (Stmt.For _ _ _ _ _) _) _ _ _) | (with_reducible show wpAny _ _ (pyIter _) _ _ _) | (with_reducible show wpAny _ _ (call (Value.builtin "list.append") _) _ _ _) | (with_reducible show wpAny _ _ (eval (Expr.ListComp _ _ _ _) _) _ _ _) | (with_reducible show wpAny _ _ (exec (Stmt.Assign _ (Expr.ListComp _ _ _ _) _) _) _ _ _) | (with_reducible show wpAny _ _ (compareOp CmpOp.NotEq (Value.ref _) (Value.ref _)) _ _ _) | (with_reducible show wpAny _ _ (compareOp CmpOp.Eq (Value.ref _) (Value.ref _)) _ _ _) | (with_reducible show wpAny _ _ (compareOp CmpOp.In _ (Value.ref _)) _ _ _) | (with_reducible show wpAny _ _ (compareOp CmpOp.NotIn _ (Value.ref _)) _ _ _) | (with_reducible show LCg.CompSrc _ _ _ _ _ _ _ _ _ _ _ _ _ _) | (with_reducible show LCt.CompSrcT _ _ _ _ _ _ _ _ _ _ _ _ _ _ _))); (first | walk1 | (dsimp only; walk1)))))
  k_dflt (refine LCg.CompSrc.ledger (its := (cols.map Value.ref).toArray) (by rfl) (by k_asm) (by k_asm) (by k_mem) (by rw [List.size_toArray, List.length_map, PySem.sizeLine_eq]; omega) ?_)
  intro g2
  refine' comp_led (VecJ w _ (es.map (pickL ps))) VecJ.start ?turn ?fin
  case turn =>
    rintro i v nx I oI C oC DD m₂ zs h tk E' hi hv ⟨⟨tl, xs, rfl, rfl, hFr, hoff⟩⟩ hCo hx F2 N2 off ne
    obtain ⟨c, cv, g, ds, rfl, hc1, hda, hes, hok, hdl⟩ := hC.at2 hv
    have hvl : cv.length ≤ 1000 := by rw [hda.length]; omega
    have b1 := hc1.b1
    have b2 := hc1.b2
    have b3 := hc1.b3
    (repeat' (first | (k_unfold; (try dsimp only)) | ((fail_if_success (first | (with_reducible show wpAny _ _ (setItem _ _ _) _ _ _) | (with_reducible show wpAny _ _ (call (Value.builtin "dict.get") _) _ _ _) | (with_reducible show wpAny _ _ (exec (Stmt.While _ _ _ _) _) _ _ _) | (with_reducible show wpAny _ _ (exec (Stmt.For _ _ _ _ _) _) _ _ _) | (with_reducible show wpAny _ _ (pyIter _) _ _ _) | (with_reducible show wpAny _ _ (call (Value.builtin "list.append") _) _ _ _) | (with_reducible show wpAny _ _ (eval (Expr.ListComp _ _ _ _) _) _ _ _) | (with_reducible show wpAny _ _ (exec (Stmt.Assign _ (Expr.ListComp _ _ _ _) _) _) _ _ _) | (with_reducible show wpAny _ _ (compareOp CmpOp.NotEq (Value.ref _) (Value.ref _)) _ _ _) | (with_reducible show wpAny _ _ (compareOp CmpOp.Eq (Value.ref _) (Value.ref _)) _ _ _) | (with_reducible show wpAny _ _ (call (Value.ref 291) _) _ _ _))); (first | walk1 | (dsimp only; walk1)))))
    k_dflt (refine' pick_items_tell (w := w) (mean := mean) (mg := mg) (mb := mb) ?B ?F ?X ?T ?hk ?hd ?hu N2 ?x1 ?x2 ?x3 hvl ?x4 hpv ?hp hp0 ?_; (case B => k_asm); (case F => k_asm); (case X => k_asm); (case T => k_asm); (case hk => exact rfl); (case hd => ktr_room); (case hu => ktr_units); (case x1 => k_mem); (case x2 => k_mem); (case x3 => k_mem); (case x4 => k_mem); (case hp => omega))
    intro r dr lr k z0 z1 z2 z3 z4 z5 h' tk' F' N' hlr hld hdr
    k_lt hlr
    refine comp_end_vec (by k_asm) N' off hlr hld hdr (src_ledger (by k_mem)) ?_
    exact VecJ.snocD hFr hoff (by rw [List.getElem?_map, hes]; rfl) (pickL_in hda ps) (pickL_ok hok ps) (by simpa using hps) hlr.2.2.2 hld hdr
  case fin =>
    rintro zs nx ⟨⟨tl, xs, rfl, rfl, hFr, hoff⟩⟩
    (repeat' (first | (k_unfold; (try dsimp only)) | ((fail_if_success (first | (with_reducible show wpAny _ _ (setItem _ _ _) _ _ _) | (with_reducible show wpAny _ _ (call (Value.builtin "dict.get") _) _ _ _) | (with_reducible show wpAny _ _ (exec (Stmt.While _ _ _ _) _) _ _ _) | (with_reducible show wpAny _ _ (exec (Stmt.For _ _ _ _ _) _) _ _ _) | (with_reducible show wpAny _ _ (pyIter _) _ _ _) | (with_reducible show wpAny _ _ (call (Value.builtin "list.append") _) _ _ _) | (with_reducible show wpAny _ _ (eval (Expr.ListComp _ _ _ _) _) _ _ _) | (with_reducible show wpAny _ _ (exec (Stmt.Assign _ (Expr.ListComp _ _ _ _) _) _) _ _ _) | (with_reducible show wpAny _ _ (compareOp CmpOp.NotEq (Value.ref _) (Value.ref _)) _ _ _) | (with_reducible show wpAny _ _ (compareOp CmpOp.Eq (Value.ref _) (Value.ref _)) _ _ _) | (with_reducible show wpAny _ _ (call (Value.ref 263) _) _ _ _) | (with_reducible show wpAny _ _ (call (Value.ref 296) _) _ _ _) | (with_reducible show wpAny _ _ (call (Value.ref 251) _) _ _ _))); (first | walk1 | (dsimp only; walk1)))))
    k_dflt (refine' column_names_tell (w := w) (mean := mean) (mg := mg) (mb := mb) ?B2 ?F2 ?X2 ?T2 ?hk2 ?hd2 ?hu2 ?N2 (hF.mono ?mo2) hn ?_; (case B2 => k_asm); (case F2 => k_asm); (case X2 => k_asm); (case T2 => k_asm); (case hk2 => exact rfl); (case hd2 => ktr_room); (case hu2 => ktr_units); (case N2 => k_asm); (case mo2 => intro p hp; simp [hp]))
    intro r2 tv k2 h2 tk2 F2 N2 hn2 htv
    (repeat' (first | (k_unfold; (try dsimp only)) | ((fail_if_success (first | (with_reducible show wpAny _ _ (setItem _ _ _) _ _ _) | (with_reducible show wpAny _ _ (call (Value.builtin "dict.get") _) _ _ _) | (with_reducible show wpAny _ _ (exec (Stmt.While _ _ _ _) _) _ _ _) | (with_reducible show wpAny _ _ (exec (Stmt.For _ _ _ _ _) _) _ _ _) | (with_reducible show wpAny _ _ (pyIter _) _ _ _) | (with_reducible show wpAny _ _ (call (Value.builtin "list.append") _) _ _ _) | (with_reducible show wpAny _ _ (eval (Expr.ListComp _ _ _ _) _) _ _ _) | (with_reducible show wpAny _ _ (exec (Stmt.Assign _ (Expr.ListComp _ _ _ _) _) _) _ _ _) | (with_reducible show wpAny _ _ (compareOp CmpOp.NotEq (Value.ref _) (Value.ref _)) _ _ _) | (with_reducible show wpAny _ _ (compareOp CmpOp.Eq (Value.ref _) (Value.ref _)) _ _ _) | (with_reducible show wpAny _ _ (call (Value.ref 296) _) _ _ _) | (with_reducible show wpAny _ _ (call (Value.ref 251) _) _ _ _))); (first | walk1 | (dsimp only; walk1)))))
    have e1 := hrv.b1
    have e2 := hrv.b2
    have e3 := hrv.b3
    have a4 := hF.a4
    first | with_reducible rename LCg.Off1 _ (tl ++ _) => oD | rename LCg.Off1 _ (tl ++ _) => oD
    k_dflt (refine' picked2_tell (w := w) (mean := mean) (mg := mg) (mb := mb) ?B3 ?F3 ?X3 ?T3 ?hk3 ?hd3 ?hu3 N2 ?y1 ?y2 ?y3 hF.a5 hF.a6 ?y4 ?y5 ?y6 hmv hL hls hml hml1 ?y7 hpv hps hp0 ?_; (case B3 => k_asm); (case F3 => k_asm); (case X3 => k_asm); (case T3 => k_asm); (case hk3 => exact rfl); (case hd3 => ktr_room); (case hu3 => ktr_units); (case y1 => k_mem); (case y2 => k_mem); (case y3 => k_mem); (case y4 => k_mem); (case y5 => k_mem); (case y6 => k_mem); (case y7 => k_mem))
    intro kk vals r3 dr3 lr3 k3 y0 y1 y2 y3 y4 y5 h3 tk3 hLR F3 N3 q1 q2 q3
    (repeat' (first | (k_unfold; (try dsimp only)) | ((fail_if_success (first | (with_reducible show wpAny _ _ (setItem _ _ _) _ _ _) | (with_reducible show wpAny _ _ (call (Value.builtin "dict.get") _) _ _ _) | (with_reducible show wpAny _ _ (exec (Stmt.While _ _ _ _) _) _ _ _) | (with_reducible show wpAny _ _ (exec (Stmt.For _ _ _ _ _) _) _ _ _) | (with_reducible show wpAny _ _ (pyIter _) _ _ _) | (with_reducible show wpAny _ _ (call (Value.builtin "list.append") _) _ _ _) | (with_reducible show wpAny _ _ (eval (Expr.ListComp _ _ _ _) _) _ _ _) | (with_reducible show wpAny _ _ (exec (Stmt.Assign _ (Expr.ListComp _ _ _ _) _) _) _ _ _) | (with_reducible show wpAny _ _ (compareOp CmpOp.NotEq (Value.ref _) (Value.ref _)) _ _ _) | (with_reducible show wpAny _ _ (compareOp CmpOp.Eq (Value.ref _) (Value.ref _)) _ _ _) | (with_reducible show wpAny _ _ (call (Value.ref 251) _) _ _ _))); (first | walk1 | (dsimp only; walk1)))))
    rw [show (es.map (pickL ps)).take (cols.map Value.ref).toArray.size = es.map (pickL ps) by rw [List.size_toArray, List.length_map, hcl, ← List.length_map (f := pickL ps), List.take_length]] at hFr
    have hxl : xs.length = cols.length := by rw [hFr.len, List.length_map, hcl]
    k_dflt (refine' new_frame_tell (w := w) (mean := mean) (mg := mg) (mb := mb) (nms := nms) ?B4 ?F4 ?X4 ?T4 ?hk4 ?hd4 ?hu4 (rows_front N3) hFr ?v1 ?v2 ?v3 ?v4 htv ?v5 ?_; (case B4 => k_asm); (case F4 => k_asm); (case X4 => k_asm); (case T4 => k_asm); (case hk4 => exact rfl); (case hd4 => ktr_room); (case hu4 => ktr_units); (case v1 => rw [hxl]; exact hw); (case v3 => k_mem); (case v4 => k_mem); (case v5 => rw [htv.length, List.length_map]; exact hn))
    case v2 =>
      intro p hp
      exact List.forall_mem_cons.mpr ⟨Ne.symm (q3 p (by simp [hp])), List.forall_mem_cons.mpr ⟨Ne.symm (q2 p (by simp [hp])), List.forall_mem_cons.mpr ⟨Ne.symm (q1 p (by simp [hp])), List.forall_mem_cons.mpr ⟨Ne.symm (hn2 p (List.mem_cons_of_mem _ (List.mem_append_left _ hp))), List.forall_mem_cons.mpr ⟨Ne.symm (off1_mem oD p (List.mem_append_left _ hp)), hoff p hp⟩⟩⟩⟩⟩
    intro r4 tl4 d4 h4 tk4 F4 N4 hF4 hC4 hof4
    (repeat' (first | (k_unfold; (try dsimp only)) | ((fail_if_success (first | (with_reducible show wpAny _ _ (setItem _ _ _) _ _ _) | (with_reducible show wpAny _ _ (call (Value.builtin "dict.get") _) _ _ _) | (with_reducible show wpAny _ _ (exec (Stmt.While _ _ _ _) _) _ _ _) | (with_reducible show wpAny _ _ (exec (Stmt.For _ _ _ _ _) _) _ _ _) | (with_reducible show wpAny _ _ (pyIter _) _ _ _) | (with_reducible show wpAny _ _ (call (Value.builtin "list.append") _) _ _ _) | (with_reducible show wpAny _ _ (eval (Expr.ListComp _ _ _ _) _) _ _ _) | (with_reducible show wpAny _ _ (exec (Stmt.Assign _ (Expr.ListComp _ _ _ _) _) _) _ _ _) | (with_reducible show wpAny _ _ (compareOp CmpOp.NotEq (Value.ref _) (Value.ref _)) _ _ _) | (with_reducible show wpAny _ _ (compareOp CmpOp.Eq (Value.ref _) (Value.ref _)) _ _ _) | (with_reducible show wpAny _ _ (compareOp CmpOp.In _ (Value.ref _)) _ _ _) | (with_reducible show wpAny _ _ (compareOp CmpOp.NotIn _ (Value.ref _)) _ _ _))); (first | walk1 | (dsimp only; walk1)))))
    first | with_reducible rename News h₀ L _ _ => kN | rename News h₀ L _ _ => kN
    refine ret r4 _ d4 xs r3 ⟨dr3, lr3, k3, false, false, y0, y1, y2, y3, y4, y5⟩ kk vals _ _ (by assumption) (rows_back kN) (hF4.mono (fun p hp => List.mem_append_left _ hp)) (hC4.mono (fun p hp => List.mem_append_left _ hp)) hxl ⟨by simp, by simp, by simp⟩ hLR ?_
    intro p hp q hq
    rcases List.mem_append.mp hp with hp | hp
    · exact hof4 p hp q (by simp [hq])
    · simp only [List.mem_cons, List.not_mem_nil, or_false] at hp
      rcases hp with rfl | rfl | rfl | rfl | rfl
      · exact Ne.symm (q3 q (by simp [hq]))
      · exact Ne.symm (q2 q (by simp [hq]))
      · exact Ne.symm (q1 q (by simp [hq]))
      · exact Ne.symm (hn2 q (List.mem_cons_of_mem _ (List.mem_append_right _ (List.mem_cons_of_mem _ hq))))
      · exact Ne.symm (off1_mem oD q (List.mem_append_right _ (List.mem_cons_of_mem _ hq)))



set_option maxRecDepth 100000 in
set_option maxHeartbeats 8000000 in
theorem frame_is_tell {w : World} {mean : ExcName → Option Value} {mg mb : Str → Option Value} {dp un : Nat} {gd : Option (List Code)} {cn : Str} {cs : Scope} {a : Addr} {ccd : Value} {cl : List (Str × Addr)} {outer : List Env} {A₀ : Around} {base h₀ : Heap} {L : Addr} {m : Str → Option Value} {s : Shared} {Q E : Value → Shared → Prop} {f rv mt ml cq : Addr} {cols : List Addr} {es : List Dat} {cvals : List Value} {nms : List Str} {d : FrD} {gr : VcD} {mv mv2 : List Value} {ck k2 kt : Nat} {kd : Str} {md : List Dat} {lt : List Str} {tk0 : Tok} {news : List (Addr × Obj)}
    (B : Below A₀ base outer h₀) (F : Fr h₀ L s.heap m) (X : (Mine.K w.params).In h₀) (T : Top Mine.q (looseW Mine.q Mine.lo) mean mg mb h₀) (hk : cs.kind = .function)
    (hd : dp + 40 < recursionLimit) (hu : un + 900 < cLine) (N : News h₀ L s.heap news) (hF : FrameIn w news f cols nms rv d)
    (hC : ColsIn w news cols es) (hcl : cols.length ≤ 4) (hrv : VecIn w news rv kd mv gr) (hmv : DatAll [] mv md) (hok : ∀ d ∈ md, kqdOk 0 d = true) (hkd : PyData.strOk kd = true)
    (hmt : (mt, ({ cls := .type "tuple", data := .seq [Value.str kd tk0, Value.ref ml].toArray kt } : Obj)) ∈ news) (hml : (ml, listOf mv2.toArray k2) ∈ news) (hmv2 : DatAll [] mv2 md)
    (hcq : (cq, listOf cvals.toArray ck) ∈ news) (hcv : DatAll news cvals es)
    (ret : ∀ h' tk', Fr h₀ L h' m → News h₀ L h' news → Q (.bool true) { s with heap := h', toks := tk' }) :
    wpAny (model Challenge.rw_pq1321_01.row.prog w) (ktrTop dp un gd cn cs L a ccd cl outer) (call (.ref 325) [.ref f, .ref mt, .ref cq]) Q E s := by
  have a1 := hF.a1
  have a2 := hF.a2
  have a3 := hF.a3
  have a4 := hF.a4
  have a5 := hF.a5
  have a6 := hF.a6
  have a11 := hF.a11
  have a12 := hF.a12
  have a13 := hF.a13
  have e1 := hrv.b1
  have e2 := hrv.b2
  have e3 := hrv.b3
  refine wpAny_call ?_
  k_dflt cell_enter
  (repeat' (first | (k_unfold; (try dsimp only)) | ((fail_if_success (first | (with_reducible show wpAny _ _ (setItem _ _ _) _ _ _) | (with_reducible show wpAny _ _ (call (Value.builtin "dict.get") _) _ _ _) | (with_reducible show wpAny _ _ (exec (Stmt.While _ _ _ _) _) _ _ _) | (with_reducible show wpAny _ _ (exec (Stmt.For _ _ _ _ _) _) _ _ _) | (with_reducible show wpAny _ _ (pyIter _) _ _ _) | (with_reducible show wpAny _ _ (call (Value.builtin "list.append") _) _ _ _) | (with_reducible show wpAny _ _ (eval (Expr.ListComp _ _ _ _) _) _ _ _) | (with_reducible show wpAny _ _ (exec (Stmt.Assign _ (Expr.ListComp _ _ _ _) _) _) _ _ _) | (with_reducible show wpAny _ _ (compareOp CmpOp.NotEq (Value.ref _) (Value.ref _)) _ _ _) | (with_reducible show wpAny _ _ (compareOp CmpOp.Eq (Value.ref _) (Value.ref _)) _ _ _) | (with_reducible show wpAny _ _ (compareOp CmpOp.In _ (Value.ref _)) _ _ _) | (with_reducible show wpAny _ _ (compareOp CmpOp.NotIn _ (Value.ref _)) _ _ _))); (first | walk1 | (dsimp only; walk1)))))
  have hokT : kqdOk 9 (Dat.tuple [Dat.str kd, Dat.list md]) = true := by
    simp only [kqdOk, List.all_cons, List.all_nil, Bool.and_true, Bool.and_eq_true, List.all_eq_true]
    exact ⟨hkd, fun x hx => kqd_up 7 (hok x hx)⟩
  first | with_reducible rename News _ _ _ _ => N2 | rename News _ _ _ _ => N2
  rename_i g1 L1 H0 FG1 _ _ _ D2 H2 F2 l1
  refine dat_ne_same N2 (d := Dat.tuple [Dat.str kd, Dat.list md]) (.tuple (List.mem_cons_self) (.cons (.str _ _) (.cons (.list (List.mem_cons_of_mem _ e3) (hmv.mono (by simp))) .nil))) (fun _ h => h) (.tuple (List.mem_cons_of_mem _ hmt) (.cons (.str _ _) (.cons (.list (List.mem_cons_of_mem _ hml) (hmv2.mono (by simp))) .nil))) (fun _ h => h) hokT ?_ ?_
  · ktr_units
  (repeat' (first | (k_unfold; (try dsimp only)) | ((fail_if_success (first | (with_reducible show wpAny _ _ (setItem _ _ _) _ _ _) | (with_reducible show wpAny _ _ (call (Value.builtin "dict.get") _) _ _ _) | (with_reducible show wpAny _ _ (exec (Stmt.While _ _ _ _) _) _ _ _) | (with_reducible show wpAny _ _ (exec (Stmt.For _ _ _ _ _) _) _ _ _) | (with_reducible show wpAny _ _ (pyIter _) _ _ _) | (with_reducible show wpAny _ _ (call (Value.builtin "list.append") _) _ _ _) | (with_reducible show wpAny _ _ (eval (Expr.ListComp _ _ _ _) _) _ _ _) | (with_reducible show wpAny _ _ (exec (Stmt.Assign _ (Expr.ListComp _ _ _ _) _) _) _ _ _) | (with_reducible show wpAny _ _ (compareOp CmpOp.NotEq (Value.ref _) (Value.ref _)) _ _ _) | (with_reducible show wpAny _ _ (compareOp CmpOp.Eq (Value.ref _) (Value.ref _)) _ _ _) | (with_reducible show wpAny _ _ (compareOp CmpOp.In _ (Value.ref _)) _ _ _) | (with_reducible show wpAny _ _ (compareOp CmpOp.NotIn _ (Value.ref _)) _ _ _))); (first | walk1 | (dsimp only; walk1)))))
  first | with_reducible rename News _ _ _ _ => N3 | rename News _ _ _ _ => N3
  rename_i l3 H3 F3 l13
  refine dat_ne_same N3 (d := Dat.list [Dat.str (Str.ofString "data.frame")]) (.list (by k_mem : (d.cll, listOf [Value.str (Str.ofString "data.frame") d.tf].toArray d.k2) ∈ _) (.cons (.str _ _) .nil)) (fun _ h => h) (.list (List.mem_cons_self) (.cons (.str _ _) .nil)) (fun _ h => h) (by decide +kernel) ?_ ?_
  · ktr_units
  (repeat' (first | (k_unfold; (try dsimp only)) | ((fail_if_success (first | (with_reducible show wpAny _ _ (setItem _ _ _) _ _ _) | (with_reducible show wpAny _ _ (call (Value.builtin "dict.get") _) _ _ _) | (with_reducible show wpAny _ _ (exec (Stmt.While _ _ _ _) _) _ _ _) | (with_reducible show wpAny _ _ (exec (Stmt.For _ _ _ _ _) _) _ _ _) | (with_reducible show wpAny _ _ (pyIter _) _ _ _) | (with_reducible show wpAny _ _ (call (Value.builtin "list.append") _) _ _ _) | (with_reducible show wpAny _ _ (eval (Expr.ListComp _ _ _ _) _) _ _ _) | (with_reducible show wpAny _ _ (exec (Stmt.Assign _ (Expr.ListComp _ _ _ _) _) _) _ _ _) | (with_reducible show wpAny _ _ (compareOp CmpOp.NotEq (Value.ref _) (Value.ref _)) _ _ _) | (with_reducible show wpAny _ _ (compareOp CmpOp.Eq (Value.ref _) (Value.ref _)) _ _ _) | (with_reducible show wpAny _ _ (compareOp CmpOp.In _ (Value.ref _)) _ _ _) | (with_reducible show wpAny _ _ (compareOp CmpOp.NotIn _ (Value.ref _)) _ _ _))); (first | walk1 | (dsimp only; walk1)))))
  k_dflt (refine LCg.ListComp_U (F₀ := by k_asm) (by with_unfolding_all rfl) (by decide) (by rfl) (by decide) (by rfl) ?_)
  (repeat' (first | (k_unfold; (try dsimp only)) | ((fail_if_success (first | (with_reducible show wpAny _ _ (setItem _ _ _) _ _ _) | (with_reducible show wpAny _ _ (call (Value.builtin "dict.get") _) _ _ _) | (with_reducible show wpAny _ _ (exec (Stmt.While _ _ _ _) _) _ _ _) | (with_reducible show wpAny _ _ (exec (Stmt.For _ _ _ _ _) _) _ _ _) | (with_reducible show wpAny _ _ (pyIter _) _ _ _) | (with_reducible show wpAny _ _ (call (Value.builtin "list.append") _) _ _ _) | (with_reducible show wpAny _ _ (eval (Expr.ListComp _ _ _ _) _) _ _ _) | (with_reducible show wpAny _ _ (exec (Stmt.Assign _ (Expr.ListComp _ _ _ _) _) _) _ _ _) | (with_reducible show wpAny _ _ (compareOp CmpOp.NotEq (Value.ref _) (Value.ref _)) _ _ _) | (with_reducible show wpAny _ _ (compareOp CmpOp.Eq (Value.ref _) (Value.ref _)) _ _ _) | (with_reducible show wpAny _ _ (compareOp CmpOp.In _ (Value.ref _)) _ _ _) | (with_reducible show wpAny _ _ (compareOp CmpOp.NotIn _ (Value.ref _)) _ _ _))); (first | walk1 | (dsimp only; walk1)))))
  k_dflt (refine LCg.CompSrc.ledger (its := (cols.map Value.ref).toArray) (by rfl) (by k_asm) (by k_asm) (by k_mem) (by rw [List.size_toArray, List.length_map, PySem.sizeLine_eq]; omega) ?_)
  intro g2
  refine comp_cols (hC.mono (by intro p hp; simp [hp])) ?_ ?_
  · intro c cv g ds I oI C oC D m₂ ys h tk E' hV hda hCo hx F4 N4 off4 ne4
    have v1 := hV.b1
    have v2 := hV.b2
    have v3 := hV.b3
    (repeat' (first | (k_unfold; (try dsimp only)) | ((fail_if_success (first | (with_reducible show wpAny _ _ (setItem _ _ _) _ _ _) | (with_reducible show wpAny _ _ (call (Value.builtin "dict.get") _) _ _ _) | (with_reducible show wpAny _ _ (exec (Stmt.While _ _ _ _) _) _ _ _) | (with_reducible show wpAny _ _ (exec (Stmt.For _ _ _ _ _) _) _ _ _) | (with_reducible show wpAny _ _ (pyIter _) _ _ _) | (with_reducible show wpAny _ _ (call (Value.builtin "list.append") _) _ _ _) | (with_reducible show wpAny _ _ (eval (Expr.ListComp _ _ _ _) _) _ _ _) | (with_reducible show wpAny _ _ (exec (Stmt.Assign _ (Expr.ListComp _ _ _ _) _) _) _ _ _) | (with_reducible show wpAny _ _ (compareOp CmpOp.NotEq (Value.ref _) (Value.ref _)) _ _ _) | (with_reducible show wpAny _ _ (compareOp CmpOp.Eq (Value.ref _) (Value.ref _)) _ _ _) | (with_reducible show wpAny _ _ (compareOp CmpOp.In _ (Value.ref _)) _ _ _) | (with_reducible show wpAny _ _ (compareOp CmpOp.NotIn _ (Value.ref _)) _ _ _))); (first | walk1 | (dsimp only; walk1)))))
    refine comp_end (by k_asm) (by k_asm) ?_ off4 ?_ rfl
    · intro p hp; grind
    · exact src_ledger (by k_mem)
  · intro ys hys
    (repeat' (first | (k_unfold; (try dsimp only)) | ((fail_if_success (first | (with_reducible show wpAny _ _ (setItem _ _ _) _ _ _) | (with_reducible show wpAny _ _ (call (Value.builtin "dict.get") _) _ _ _) | (with_reducible show wpAny _ _ (exec (Stmt.While _ _ _ _) _) _ _ _) | (with_reducible show wpAny _ _ (exec (Stmt.For _ _ _ _ _) _) _ _ _) | (with_reducible show wpAny _ _ (pyIter _) _ _ _) | (with_reducible show wpAny _ _ (call (Value.builtin "list.append") _) _ _ _) | (with_reducible show wpAny _ _ (eval (Expr.ListComp _ _ _ _) _) _ _ _) | (with_reducible show wpAny _ _ (exec (Stmt.Assign _ (Expr.ListComp _ _ _ _) _) _) _ _ _) | (with_reducible show wpAny _ _ (compareOp CmpOp.NotEq (Value.ref _) (Value.ref _)) _ _ _) | (with_reducible show wpAny _ _ (compareOp CmpOp.Eq (Value.ref _) (Value.ref _)) _ _ _) | (with_reducible show wpAny _ _ (compareOp CmpOp.In _ (Value.ref _)) _ _ _) | (with_reducible show wpAny _ _ (compareOp CmpOp.NotIn _ (Value.ref _)) _ _ _))); (first | walk1 | (dsimp only; walk1)))))
    first | with_reducible rename News _ _ _ _ => N5 | rename News _ _ _ _ => N5
    refine dat_eq_same N5 (d := Dat.list es) (.list (List.mem_cons_self) (hys.mono (by intro p hp; exact List.mem_cons_of_mem _ hp))) (fun _ h => h) (.list (by k_mem : (cq, listOf cvals.toArray ck) ∈ _) (hcv.mono (by intro p hp; simp [hp]))) (fun _ h => h) ?_ ?_ ?_
    · simp only [kqdOk, List.all_eq_true]; exact hC.ok
    · ktr_units
    (repeat' (first | (k_unfold; (try dsimp only)) | ((fail_if_success (first | (with_reducible show wpAny _ _ (setItem _ _ _) _ _ _) | (with_reducible show wpAny _ _ (call (Value.builtin "dict.get") _) _ _ _) | (with_reducible show wpAny _ _ (exec (Stmt.While _ _ _ _) _) _ _ _) | (with_reducible show wpAny _ _ (exec (Stmt.For _ _ _ _ _) _) _ _ _) | (with_reducible show wpAny _ _ (pyIter _) _ _ _) | (with_reducible show wpAny _ _ (call (Value.builtin "list.append") _) _ _ _) | (with_reducible show wpAny _ _ (eval (Expr.ListComp _ _ _ _) _) _ _ _) | (with_reducible show wpAny _ _ (exec (Stmt.Assign _ (Expr.ListComp _ _ _ _) _) _) _ _ _) | (with_reducible show wpAny _ _ (compareOp CmpOp.NotEq (Value.ref _) (Value.ref _)) _ _ _) | (with_reducible show wpAny _ _ (compareOp CmpOp.Eq (Value.ref _) (Value.ref _)) _ _ _) | (with_reducible show wpAny _ _ (compareOp CmpOp.In _ (Value.ref _)) _ _ _) | (with_reducible show wpAny _ _ (compareOp CmpOp.NotIn _ (Value.ref _)) _ _ _))); (first | walk1 | (dsimp only; walk1)))))
    first | with_reducible rename News h₀ L _ _ => kN | rename News h₀ L _ _ => kN
    exact ret _ _ (by assumption) (cb_drop kN (by intro p hp; simp [hp]))


/-- a comprehension whose own name is a cell: what a turn leaves -/
def Off4 (I C K D : Addr) (nx : List (Addr × Obj)) : Prop := ∀ p ∈ nx, p.1 ≠ I ∧ p.1 ≠ C ∧ p.1 ≠ K ∧ p.1 ≠ D
def CellEnd (h₀ : Heap) (L : Addr) (m : Str → Option Value) (s₁ : Shared) (I : Addr) (oI : Obj) (C : Addr) (oC : Obj) (K : Addr) (oK : Obj) (D : Addr) (oD : Obj) (rest : Value → List (Addr × Obj) → Prop) (y : Value) (s₂ : Shared) : Prop :=
  ∃ h' tk nx, s₂ = { s₁ with heap := h', toks := tk } ∧ Fr h₀ L h' m ∧ News h₀ L h' ((I, oI) :: (C, oC) :: (K, oK) :: (D, oD) :: nx) ∧ Off4 I C K D nx ∧ rest y nx
theorem news_kept {h₀ h h' : Heap} {L b : Addr} {nx : List (Addr × Obj)} (N : News h₀ L h nx) (off : ∀ p ∈ nx, p.1 ≠ b) (k : ∀ a o, a ≠ b → h.get? a = some o → h'.get? a = some o) : News h₀ L h' nx :=
  fun p hp => ⟨k _ _ (off p hp) (N p hp).1, (N p hp).2⟩
section
variable {prog : Program} {w : World} {A : Around} {h₀ : Heap} {L : Addr} {m : Str → Option Value} {elt iter : PySem.Expr} {x : Str} {px : Pos} {scope : Scope} {pos : Pos} {cl : List (Str × Addr)} {s : Shared} {news : List (Addr × Obj)}
theorem cell_loop {I C K D ax : Addr} {its : Array Value} {kn : Nat} {cenv : Env} {R : Result → Shared → Prop} {oI oC oK : Obj}
    (J : Nat → List Value → List (Addr × Obj) → Prop) (hh : A.handled = none) (hx : cenv.kindOf x = some .cell) (hk : cenv.scope.kind = .function) (hc : cenv.cells.lookup x = some K)
    (hIC : I ≠ C) (hIK : I ≠ K) (hID : I ≠ D) (hCK : C ≠ K) (hCD : C ≠ D) (hKD : K ≠ D) (hsz : its.size ≤ sizeLine)
    (hJs : ∀ i ys nx, J i ys nx → (ax, ({ cls := .type "list", data := .seq its kn } : Obj)) ∈ nx)
    (turn : ∀ i v nx oI oK ys h tk (E' : Value → Shared → Prop), i < its.size → its[i]? = some v → J i ys nx → oK.data = .cell (some v) → Fr h₀ L h m → News h₀ L h ((I, oI) :: (C, oC) :: (K, oK) :: (D, LCg.lst ys) :: nx) → Off4 I C K D nx →
      wpAny (model prog w) A (eval elt cenv) (CellEnd h₀ L m { s with heap := h, toks := tk } I oI C oC K oK D (LCg.lst ys) (fun y nx' => J (i + 1) (ys ++ [y]) nx')) E' { s with heap := h, toks := tk })
    (hit : s.heap.IsListIter I ax 0) (F : Fr h₀ L s.heap m) (N : News h₀ L s.heap ((I, oI) :: (C, oC) :: (K, oK) :: (D, LCg.lst []) :: news)) (hoK : oK.data = .cell none) (off : Off4 I C K D news) (hJ : J 0 [] news)
    (fin : ∀ ys nx oK h tk, J its.size ys nx → Fr h₀ L h m → News h₀ L h ((C, oC) :: (K, oK) :: (D, LCg.lst ys) :: nx) → Off4 I C K D nx → R (.ok .next) { s with heap := h, toks := tk }) :
    codeAny (model prog w) A (.compLoop (.ListComp elt [⟨.Name x px, iter, [], 0⟩] scope pos) 0 (.ref I) (.ref D) cenv) R s := by
  have hIL : L ≠ I := Ne.symm (N (I, oI) (by simp)).2.1
  have hI₀ := (N (I, oI) (by simp)).2.2
  have hKL : K ≠ L := (N (K, oK) (by simp)).2.1
  have hK₀ := (N (K, oK) (by simp)).2.2
  have hDL : D ≠ L := (N (D, LCg.lst []) (by simp)).2.1
  have hD₀ := (N (D, LCg.lst []) (by simp)).2.2
  have hC9 := (N (C, oC) (by simp)).2
  refine codeAny_compLoop_tests
    (fun k s' => ∃ h' tk i ys nx oI oK v0, s' = { s with heap := h', toks := tk } ∧ i ≤ its.size ∧ k = its.size + 1 - i ∧ ys.length = i ∧ h'.IsListIter I ax i ∧ Fr h₀ L h' m ∧
      News h₀ L h' ((I, oI) :: (C, oC) :: (K, oK) :: (D, LCg.lst ys) :: nx) ∧ oK.data = .cell v0 ∧ Off4 I C K D nx ∧ J i ys nx) ?_ (its.size + 1)
    ⟨s.heap, s.toks, 0, [], news, oI, oK, none, rfl, Nat.zero_le _, rfl, rfl, hit, F, N, hoK, off, hJ⟩
  rintro k s' ⟨h1, tk, i, ys, nx, oI1, oK1, v0, rfl, hi, rfl, hyl, hit1, F1, N1, hoK1, off1, hJ1⟩
  have hm := hJs _ _ _ hJ1
  have hax : h1.IsList ax its := ⟨_, (N1 _ (List.mem_cons_of_mem _ (List.mem_cons_of_mem _ (List.mem_cons_of_mem _ (List.mem_cons_of_mem _ hm))))).1, rfl, _, rfl⟩
  have hne : ax ≠ I := (off1 _ (hJs _ _ _ hJ1)).1
  have W : Walks prog w A I [I, ax] [I] its.size (fun i v => its[i]? = some v) (fun i h => h.IsListIter I ax i ∧ h.IsList ax its) := Walks.list hh I ax hne its
  by_cases hlt : i < its.size
  · refine W.item i _ _ _ hlt ⟨hit1, hax⟩ fun v h2 tk2 hPv hst2 hk2 => ?_
    have F2 : Fr h₀ L h2 m := LCg.fr_but F1 hk2 hIL hI₀
    have k2 : ∀ a o, a ≠ I → h1.get? a = some o → h2.get? a = some o := fun a o ha e => hk2 a o (by simpa using ha) e
    have zK2 : h2.get? K = some oK1 := k2 _ _ (Ne.symm hIK) (N1 (K, oK1) (by simp)).1
    refine wpAny_assign_Name (wpAny_storeName_cell hk hx hc ⟨oK1, zK2, hoK1⟩ (fun h3 hcK hs3 => ?_))
    refine wpAny_tests_nil ?_
    simp only [if_true]
    obtain ⟨oK3, zK3, hoK3⟩ := hcK
    obtain ⟨oI3, zI3, hI3⟩ := hst2.1
    have k3 : ∀ a o, a ≠ K → h2.get? a = some o → h3.get? a = some o := fun a o ha e => hs3.extBut a o ha e
    have F3 : Fr h₀ L h3 m := F2.change hs3 hKL hK₀
    have N3 : News h₀ L h3 ((I, oI3) :: (C, oC) :: (K, oK3) :: (D, LCg.lst ys) :: nx) := by
      intro p hp
      simp only [List.mem_cons] at hp
      rcases hp with rfl | rfl | rfl | rfl | hp
      · exact ⟨k3 _ _ hIK zI3, Ne.symm hIL, hI₀⟩
      · exact ⟨k3 _ _ hCK (k2 _ _ (Ne.symm hIC) (N1 (C, oC) (by simp)).1), hC9⟩
      · exact ⟨zK3, hKL, hK₀⟩
      · exact ⟨k3 _ _ (Ne.symm hKD) (k2 _ _ (Ne.symm hID) (N1 (D, LCg.lst ys) (by simp)).1), hDL, hD₀⟩
      · have z := N1 p (by simp [hp])
        exact ⟨k3 _ _ (off1 p hp).2.2.1 (k2 _ _ (off1 p hp).1 z.1), z.2⟩
    refine wpAny_mono (turn i v nx oI3 oK3 ys h3 _ _ hlt hPv hJ1 hoK3 F3 N3 off1) (fun y s4 h4 => ?_) fun _ _ e => e
    obtain ⟨h4, tk4, nx4, rfl, F4, N4, off4, hJ4⟩ := h4
    have zI := (N4 (I, oI3) (by simp)).1
    have zC := (N4 (C, oC) (by simp)).1
    have zK := (N4 (K, oK3) (by simp)).1
    have zD := (N4 (D, LCg.lst ys) (by simp)).1
    refine append_at (hsz := by show ys.toArray.size ≤ sizeLine; rw [List.size_toArray, hyl]; exact Nat.le_trans hi hsz) zD fun h5 hs5 hD5 => ?_
    have k5 : ∀ a o, a ≠ D → h4.get? a = some o → h5.get? a = some o := fun a o ha e => hs5.extBut a o ha e
    refine ⟨its.size + 1 - (i + 1), by omega, h5, tk4, i + 1, ys ++ [y], nx4, oI3, oK3, some v, rfl, hlt, rfl, by rw [List.length_append, List.length_singleton, hyl], ⟨oI3, k5 _ _ hID zI, hI3⟩, F4.change hs5 hDL hD₀, ?_, hoK3, off4, hJ4⟩
    intro p hp
    simp only [List.mem_cons] at hp
    rcases hp with rfl | rfl | rfl | rfl | hp
    · exact ⟨k5 _ _ hID zI, Ne.symm hIL, hI₀⟩
    · exact ⟨k5 _ _ hCD zC, hC9⟩
    · exact ⟨k5 _ _ hKD zK, hKL, hK₀⟩
    · exact ⟨hD5.trans (congrArg some (LCg.lst_snoc ys y)), hDL, hD₀⟩
    · have z := N4 p (by simp [hp])
      exact ⟨k5 _ _ (off4 p hp).2.2.2 z.1, z.2⟩
  · obtain rfl : i = its.size := Nat.le_antisymm hi (Nat.not_lt.mp hlt)
    refine W.done _ _ _ ⟨hit1, hax⟩ fun h2 tk2 hk2 => ?_
    have k2 : ∀ a o, a ≠ I → h1.get? a = some o → h2.get? a = some o := fun a o ha e => hk2 a o (by simpa using ha) e
    refine fin ys nx oK1 h2 tk2 hJ1 (LCg.fr_but F1 hk2 hIL hI₀) ?_ off1
    refine news_kept (b := I) (cb_drop N1 (by intro p hp; exact List.mem_cons_of_mem _ hp)) ?_ k2
    intro p hp
    simp only [List.mem_cons] at hp
    rcases hp with rfl | rfl | rfl | hp
    · exact Ne.symm hIC
    · exact Ne.symm hIK
    · exact Ne.symm hID
    · exact (off1 p hp).1
theorem newEnv_cell {A : Around} {E : Value → Shared → Prop} {env : Env} {globals : Addr} {qual : Str} {Q : Env → Shared → Prop}
    (hpc : ∀ h, pushCells h scope.names = h.push { cls := .type "cell", data := .cell none }) (hcf : ∀ n, cellsFrom n scope.names cl = (x, n) :: cl)
    (h : Q (newEnv scope s.heap.objs.size globals ((x, s.heap.objs.size + 1) :: cl) qual none .none (some env) builtinsNs) { s with heap := (s.heap.push { cls := .type "dict", data := .dict #[] }).push { cls := .type "cell", data := .cell none } }) :
    wpAny (model prog w) A (newFunctionEnv scope globals cl [] qual none .none (some env)) Q E s := by
  simp only [newFunctionEnv, Option.isSome_some, if_true]
  refine wpAny_bind (wpAny_alloc ?_)
  refine wpAny_bind (wpAny_layCells _ (fun name kind cells => by cases hkc : kind == NameKind.cell <;> simp [hkc]) _ _ _ _ ?_)
  rw [hcf, hpc]
  refine wpAny_bind ?_
  rw [List.forIn_nil]
  refine wpAny_pure (wpAny_pure ?_)
  rw [Heap.size_push]
  exact h
theorem Assign_comp_cell {E : Value → Shared → Prop} {env : Env} {y : Str} {py : Pos} {spos : Pos} {ax : Addr} {its : Array Value} {kn : Nat} {Q : Flow → Shared → Prop}
    (J : Nat → List Value → List (Addr × Obj) → Prop) (F : Fr h₀ L s.heap m) (N : News h₀ L s.heap news) (hm : (ax, ({ cls := .type "list", data := .seq its kn } : Obj)) ∈ news) (hLe : env.locals = L) (hh : A.handled = none)
    (hsw : swapsWith (.ListComp elt [⟨.Name x px, iter, [], 0⟩] scope pos) (some (.Name y py)) spos.line env = pure true)
    (hclos : closureFor scope env = pure cl) (hkind : scope.kind = .function) (hnames : ∀ z ∈ scope.names, z.2 = .local → scope.names.lookup z.1 = some .local)
    (hpc : ∀ h, pushCells h scope.names = h.push { cls := .type "cell", data := .cell none }) (hcf : ∀ n, cellsFrom n scope.names cl = (x, n) :: cl)
    (hx : ∀ C K, (compEnvC scope ((x, K) :: cl) C env).kindOf x = some .cell)
    (hy : env.kindOf y = some .local) (hp : (env.scope.kind == .class || (env.scope.kind == .module && env.locals != env.globals)) = false)
    (hs : ∀ x, foldedSetIterable iter env x = pure x) (hsz : its.size ≤ sizeLine)
    (hi : ∀ Q' : Value → Shared → Prop, Q' (.ref ax) s → wpAny (model prog w) A (eval iter env) Q' E s)
    (hJs : ∀ i ys nx, J i ys nx → (ax, ({ cls := .type "list", data := .seq its kn } : Obj)) ∈ nx) (hJ : J 0 [] news)
    (turn : ∀ I C K D oC i v nx oI oK ys h tk (E' : Value → Shared → Prop), (@Ne Nat I C) ∧ (@Ne Nat I K) ∧ (@Ne Nat I D) ∧ (@Ne Nat C K) ∧ (@Ne Nat C D) ∧ (@Ne Nat K D) → i < its.size → its[i]? = some v → J i ys nx → oK.data = .cell (some v) → Fr h₀ L h m → News h₀ L h ((I, oI) :: (C, oC) :: (K, oK) :: (D, LCg.lst ys) :: nx) → Off4 I C K D nx →
      wpAny (model prog w) A (eval elt (compEnvC scope ((x, K) :: cl) C env)) (CellEnd h₀ L m { s with heap := h, toks := tk } I oI C oC K oK D (LCg.lst ys) (fun y nx' => J (i + 1) (ys ++ [y]) nx')) E' { s with heap := h, toks := tk })
    (fin : ∀ D ys nx h tk, J its.size ys nx → Fr h₀ L h (fun z => if z = y then some (.ref D) else m z) → News h₀ L h ((D, LCg.lst ys) :: nx) → (∀ p ∈ nx, p.1 ≠ D) → Q .next { s with heap := h, toks := tk }) :
    wpAny (model prog w) A (exec (.Assign [.Name y py] (.ListComp elt [⟨.Name x px, iter, [], 0⟩] scope pos) spos) env) Q E s := by
  subst hLe
  rw [exec_Assign_Name_used _ _ _ _ hsw]
  refine wpAny_bind (wpAny_standAt (wpAny_bind ?_))
  show wpAny _ A (do let _ ← comprehension (.ListComp elt [⟨.Name x px, iter, [], 0⟩] scope pos) scope env _ (newList []) false (eval iter env) (some (assign (.Name y py) env))) _ _ s
  refine wpAny_bind (wpAny_mono (wpAny_comprehension_free (use := some (assign (.Name y py) env)) (Q := fun _ s' => Q .next s') rfl hs hclos hkind hnames
    (hi _ ?_)) (fun _ s' hq => wpAny_pure (wpAny_pure hq)) fun _ _ e => e)
  have hl : s.heap.IsList ax its := ⟨_, (N _ hm).1, rfl, _, rfl⟩
  refine wpAny_pyIter_list hl ?_
  refine wpAny_newObj_type (newEnv_cell hpc hcf ?_)
  have z0 := Heap.size_push s.heap { cls := .type "list_iterator", data := .fields #[.ref ax, .int 0 0] }
  generalize hH1 : s.heap.push { cls := .type "list_iterator", data := .fields #[.ref ax, .int 0 0] } = H1 at z0 ⊢
  have z1 := Heap.size_push H1 { cls := .type "list", dict := none, data := .seq ([] : List Value).toArray }
  dsimp only at z0 z1 ⊢
  generalize hH2 : H1.push { cls := .type "list", dict := none, data := .seq ([] : List Value).toArray } = H2 at z1 ⊢
  have z2 := Heap.size_push H2 { cls := .type "dict", data := .dict #[] }
  generalize hH3 : H2.push { cls := .type "dict", data := .dict #[] } = H3 at z2 ⊢
  generalize hH4 : H3.push { cls := .type "cell", data := .cell none } = H4
  have u1 : ∀ b o, s.heap.get? b = some o → H1.get? b = some o := fun b o e => hH1 ▸ Heap.get?_push_of_some _ e
  have u2 : ∀ b o, H1.get? b = some o → H2.get? b = some o := fun b o e => hH2 ▸ Heap.get?_push_of_some _ e
  have u3 : ∀ b o, H2.get? b = some o → H3.get? b = some o := fun b o e => hH3 ▸ Heap.get?_push_of_some _ e
  have u4 : ∀ b o, H3.get? b = some o → H4.get? b = some o := fun b o e => hH4 ▸ Heap.get?_push_of_some _ e
  have up : ∀ b o, s.heap.get? b = some o → H4.get? b = some o := fun b o e => u4 _ _ (u3 _ _ (u2 _ _ (u1 _ _ e)))
  have gI : H4.get? s.heap.objs.size = some { cls := .type "list_iterator", data := .fields #[.ref ax, .int 0 0] } := u4 _ _ (u3 _ _ (u2 _ _ (hH1 ▸ Heap.get?_push_size _ rfl)))
  have gD : H4.get? H1.objs.size = some (LCg.lst []) := u4 _ _ (u3 _ _ (hH2 ▸ Heap.get?_push_size _ rfl))
  have gC : H4.get? H2.objs.size = some { cls := .type "dict", data := .dict #[] } := u4 _ _ (hH3 ▸ Heap.get?_push_size _ rfl)
  have gK : H4.get? H3.objs.size = some { cls := .type "cell", data := .cell none } := hH4 ▸ Heap.get?_push_size _ rfl
  have hL9 : env.locals < s.heap.objs.size := F.ns.lt
  have new₀ : ∀ a : Addr, s.heap.objs.size ≤ a → h₀.get? a = none := fun a ha => by
    cases e : h₀.get? a with
    | none => rfl
    | some o' => exact absurd (Heap.lt_size (F.keep a o' e)) (Nat.not_lt.mpr ha)
  have off : ∀ a : Addr, s.heap.objs.size ≤ a → ∀ p ∈ news, p.1 ≠ a := fun a ha p hp e => absurd (Heap.lt_size (N p hp).1) (by rw [e]; exact Nat.not_lt.mpr ha)
  have i1 : s.heap.objs.size < H1.objs.size := by rw [z0]; exact Nat.lt_succ_self _
  have i2 : H1.objs.size < H2.objs.size := by rw [z1]; exact Nat.lt_succ_self _
  have i3 : H2.objs.size < H3.objs.size := by rw [z2]; exact Nat.lt_succ_self _
  have i12 := Nat.lt_trans i1 i2
  have i23 := Nat.lt_trans i2 i3
  have i13 := Nat.lt_trans i12 i3
  have hNs : LCg.NsObj { cls := .type "dict", data := .dict #[] } (fun _ => none) := by
    obtain ⟨o, e, hN⟩ := LCg.ns_obj (Heap.Ns.new H2 (.type "dict"))
    rw [show H2.push _ = H3 from hH3] at e
    have e2 : H3.get? H2.objs.size = some { cls := .type "dict", data := .dict #[] } := hH3 ▸ Heap.get?_push_size _ rfl
    rw [e2] at e
    cases e
    exact hN
  have it0 : H4.IsListIter s.heap.objs.size ax 0 := ⟨_, gI, rfl, rfl⟩
  have loop : codeAny (model prog w) A (.compLoop (.ListComp elt [⟨.Name x px, iter, [], 0⟩] scope pos) 0 (.ref s.heap.objs.size) (.ref H1.objs.size) (compEnvC scope ((x, H3.objs.size) :: cl) H2.objs.size env))
      (compPost (model prog w) A E (some (assign (.Name y py) env)) (fun _ s' => Q .next s') (.ref H1.objs.size) H2.objs.size) { s with heap := H4 } := by
    refine cell_loop (s := { s with heap := H4 }) (kn := kn) J hh (hx _ _) (by simp [compEnvC, relabel, hkind]) (by simp [compEnvC]) (Nat.ne_of_lt i12) (Nat.ne_of_lt i13) (Nat.ne_of_lt i1) (Nat.ne_of_lt i3) (Nat.ne_of_gt i2) (Nat.ne_of_gt i23) hsz hJs
      (fun i v nx oI oK ys h tk E' a b c d e f g => turn _ _ _ _ _ i v nx oI oK ys h tk E' ⟨Nat.ne_of_lt i12, Nat.ne_of_lt i13, Nat.ne_of_lt i1, Nat.ne_of_lt i3, Nat.ne_of_gt i2, Nat.ne_of_gt i23⟩ a b c d e f g) it0 (F.keeps up) (oC := { cls := .type "dict", data := .dict #[] }) (oK := { cls := .type "cell", data := .cell none }) (oI := { cls := .type "list_iterator", data := .fields #[.ref ax, .int 0 0] }) ?_ rfl (fun p hp => ⟨off _ (Nat.le_refl _) p hp, off _ (Nat.le_of_lt i12) p hp, off _ (Nat.le_of_lt i13) p hp, off _ (Nat.le_of_lt i1) p hp⟩) hJ ?_
    · intro p hp
      simp only [List.mem_cons] at hp
      rcases hp with rfl | rfl | rfl | rfl | hp
      · exact ⟨gI, Nat.ne_of_gt hL9, new₀ _ (Nat.le_refl _)⟩
      · exact ⟨gC, Nat.ne_of_gt (Nat.lt_trans hL9 i12), new₀ _ (Nat.le_of_lt i12)⟩
      · exact ⟨gK, Nat.ne_of_gt (Nat.lt_trans hL9 i13), new₀ _ (Nat.le_of_lt i13)⟩
      · exact ⟨gD, Nat.ne_of_gt (Nat.lt_trans hL9 i1), new₀ _ (Nat.le_of_lt i1)⟩
      · exact ⟨up _ _ (N p hp).1, (N p hp).2⟩
    · intro ys nx oK h tk hJ1 F1 N1 off1
      show wpAny _ A (assign (.Name y py) env (.ref H1.objs.size)) _ _ _
      refine wpAny_assign_Name (wpAny_storeName_local hy F1.ns (fun h₂ hn₂ hs₂ => ?_) hp)
      have hL₀ : h₀.get? env.locals = none := Heap.get?_none_of_le F1.above
      have F₂ : Fr h₀ env.locals h₂ (fun z => if z = y then some (.ref H1.objs.size) else m z) := ⟨hn₂, fun b o e => hs₂.extBut b o (fun q => by rw [q, hL₀] at e; cases e) (F1.keep b o e), F1.above⟩
      have zC := N1 (H2.objs.size, { cls := .type "dict", data := .dict #[] }) (by simp)
      have hCL : H2.objs.size ≠ env.locals := zC.2.1
      have zC2 : h₂.get? H2.objs.size = some { cls := .type "dict", data := .dict #[] } := hs₂.extBut _ _ hCL zC.1
      refine ⟨_, hNs.ns zC2, fun h'' hs'' => fin _ ys nx h'' _ hJ1 (F₂.change hs'' hCL zC.2.2) ?_ (fun p hp => (off1 p hp).2.2.2)⟩
      intro p hp
      have hp' : p ∈ (H2.objs.size, ({ cls := .type "dict", data := .dict #[] } : Obj)) :: (H3.objs.size, oK) :: (H1.objs.size, LCg.lst ys) :: nx := List.mem_cons_of_mem _ (List.mem_cons_of_mem _ hp)
      have z := N1 p hp'
      refine ⟨hs''.extBut _ _ ?_ (hs₂.extBut _ _ z.2.1 z.1), z.2⟩
      rcases List.mem_cons.mp hp with rfl | hp
      · exact Nat.ne_of_lt i2
      · exact (off1 p hp).2.1
  rw [← z2]
  exact codeAny_compStart_list loop (wpAny_pyIter_listiter it0 loop)
end



theorem fr_any {h₀ h : Heap} {L : Addr} {x : Str} {v : Option Value} {m : Str → Option Value} (F : Fr h₀ L h (fun y => if y = x then v else m y)) : ∃ m' : Str → Option Value, Fr h₀ L h (fun y => if y = x then v else m' y) := ⟨m, F⟩
theorem own_one {c : Addr} {rest : List (Addr × Obj)} (h1 : ∀ p ∈ rest, p.1 ≠ c) : OwnOff rest [c] := by
  intro p hp b hb
  rw [List.mem_singleton.mp hb]; exact h1 p hp
theorem fr_tok {h₀ h : Heap} {L : Addr} {x : Str} {i : Int} {t : Tok} {m : Str → Option Value} (F : Fr h₀ L h (fun y => if y = x then some (.int i t) else m y)) : ∃ t : Tok, Fr h₀ L h (fun y => if y = x then some (.int i t) else m y) := ⟨t, F⟩
theorem law_cells {h₀ h : Heap} {L c a1 a2 a3 a4 : Addr} {oc o1 o2 o3 o4 : Obj} {n : Int} {t : Tok} (N : News h₀ L h [(c, oc), (a4, o4), (a3, o3), (a2, o2), (a1, o1)])
    (d1 : o1.data = .cell (some (.ref c))) (d2 : o2.data = .cell (some (.int n t))) (d3 : o3.data = .cell none) (d4 : o4.data = .cell none) :
    ∃ oC oT oM oP t, oC.data = .cell (some (.ref c)) ∧ oT.data = .cell (some (.int n t)) ∧ oM.data = .cell none ∧ oP.data = .cell none ∧ News h₀ L h [(c, oc), (a4, oP), (a3, oM), (a2, oT), (a1, oC)] :=
  ⟨o1, o2, o3, o4, t, d1, d2, d3, d4, N⟩
def ColDat (n : Int) (e : Dat) : Prop := ∃ is : List Int, e = Dat.list (is.map Dat.int) ∧ (is.length : Int) = n ∧ ∀ i ∈ is, 0 ≤ i ∧ i < 50
structure ColJ (c : Addr) (rest : List (Addr × Obj)) (n : Int) (i : Nat) (ys : List Value) (nx : List (Addr × Obj)) : Prop where
  out : ∃ cv ck ci tl es, nx = (c, listOf cv.toArray ck) :: (tl ++ rest) ∧ IntsAre cv ci ∧ ci.length ≤ 140 ∧ (∀ p ∈ tl, p.1 ≠ c) ∧ (∀ p ∈ tl, ∀ q ∈ rest, q.1 ≠ p.1) ∧ DatAll tl ys es ∧ es.length = i ∧ ∀ e ∈ es, ColDat n e
structure CellJ (c : Addr) (rest : List (Addr × Obj)) (i : Nat) (zs : List Value) (nx : List (Addr × Obj)) : Prop where
  out : ∃ cv ck ci is, nx = (c, listOf cv.toArray ck) :: rest ∧ IntsAre cv ci ∧ ci.length ≤ 140 ∧ IntsAre zs is ∧ is.length = i ∧ ∀ x ∈ is, 0 ≤ x ∧ x < 50
theorem own_out {c : Addr} {rest : List (Addr × Obj)} (h1 : ∀ p ∈ rest, p.1 ≠ c) : OwnOff rest [c] := by
  intro p hp b hb
  rw [List.mem_singleton.mp hb]; exact h1 p hp
section
variable {h₀ h' : Heap} {L I C D : Addr} {m : Str → Option Value} {s₁ : Shared} {oI oC oD : Obj} {S : List (Addr × Obj) → Prop} {rs : Value → List (Addr × Obj) → Prop} {y : Value} {tk : Nat} {dd cc cc' : Addr × Obj} {rest : List (Addr × Obj)}
theorem comp_end_c (F : Fr h₀ L h' m) (N : News h₀ L h' (cc :: (I, oI) :: (C, oC) :: (D, oD) :: rest)) (off : LCg.Off3 I C D (cc' :: rest)) (e : cc.1 = cc'.1) (hS : S (cc :: rest)) (r : rs y (cc :: rest)) :
    LCg.CompEnd h₀ L m s₁ I oI C oC D oD S rs y { s₁ with heap := h', toks := tk } :=
  LCg.CompEnd.intro F N (cc :: rest) (by intro p hp; simp only [List.mem_cons] at hp ⊢; rcases hp with h | h | h | h | h <;> simp [h]) ⟨by rw [e]; exact off.1, off.2⟩ hS r
theorem comp_end_d (F : Fr h₀ L h' m) (N : News h₀ L h' (dd :: cc :: (I, oI) :: (C, oC) :: (D, oD) :: rest)) (off : LCg.Off3 I C D (cc' :: rest)) (e : cc.1 = cc'.1) (n1 : @Ne Nat I dd.1) (n2 : @Ne Nat C dd.1) (n3 : @Ne Nat D dd.1) (hS : S (cc :: dd :: rest)) (r : rs y (cc :: dd :: rest)) :
    LCg.CompEnd h₀ L m s₁ I oI C oC D oD S rs y { s₁ with heap := h', toks := tk } :=
  LCg.CompEnd.intro F N (cc :: dd :: rest) (by intro p hp; simp only [List.mem_cons] at hp ⊢; rcases hp with h | h | h | h | h | h <;> simp [h]) ⟨by rw [e]; exact off.1, ⟨Ne.symm n1, Ne.symm n2, Ne.symm n3⟩, off.2⟩ hS r
end
def Off (as : List Nat) (X : List (Addr × Obj)) : Prop := ∀ p ∈ X, ∀ a ∈ as, @Ne Nat p.1 a
theorem Off.nil {as : List Nat} : Off as [] := fun _ h => nomatch h
theorem Off.cons {as : List Nat} {p : Addr × Obj} {X : List (Addr × Obj)} (h : ∀ a ∈ as, @Ne Nat p.1 a) (t : Off as X) : Off as (p :: X) := List.forall_mem_cons.mpr ⟨h, t⟩
/-- the ledger of the law: its cells, the cards, the rest -/
theorem seg1_pack {h₀ h : Heap} {L c D a1 a2 a3 a4 : Addr} {oc oC oT oM oP : Obj} {ys : List Value} {es : List Dat} {tl : List (Addr × Obj)} (N : News h₀ L h ((D, LCg.lst ys) :: (c, oc) :: (tl ++ [(a4, oP), (a3, oM), (a2, oT), (a1, oC)])))
    (o : LCg.Off1 D ((c, oc) :: (tl ++ [(a4, oP), (a3, oM), (a2, oT), (a1, oC)]))) (hc : ∀ p ∈ tl, p.1 ≠ c) (hr : ∀ p ∈ tl, ∀ q ∈ [(a4, oP), (a3, oM), (a2, oT), (a1, oC)], q.1 ≠ p.1) (hda : DatAll tl ys es) :
    ∃ X, News h₀ L h ((a3, oM) :: (a4, oP) :: (a2, oT) :: (a1, oC) :: (c, oc) :: X) ∧ (D, LCg.lst ys) ∈ X ∧ DatAll X ys es ∧ Off [a1, a2, a3, a4, c] X := by
  refine ⟨(D, LCg.lst ys) :: tl, cb_drop N ?_, List.mem_cons_self, hda.mono (fun p hp => List.mem_cons_of_mem _ hp), Off.cons ?_ ?_⟩
  · intro p hp
    simp only [List.mem_cons, List.mem_append, List.not_mem_nil, or_false] at hp ⊢
    rcases hp with h | h | h | h | h | h | h <;> simp [h]
  · intro a ha
    have q := off1_mem o
    simp only [List.mem_cons, List.not_mem_nil, or_false] at ha
    rcases ha with rfl | rfl | rfl | rfl | rfl
    · exact Ne.symm (q (a, oC) (by simp))
    · exact Ne.symm (q (a, oT) (by simp))
    · exact Ne.symm (q (a, oM) (by simp))
    · exact Ne.symm (q (a, oP) (by simp))
    · exact Ne.symm (q (a, oc) (by simp))
  · intro p hp a ha
    simp only [List.mem_cons, List.not_mem_nil, or_false] at ha
    rcases ha with rfl | rfl | rfl | rfl | rfl
    · exact Ne.symm (hr p hp (a, oC) (by simp))
    · exact Ne.symm (hr p hp (a, oT) (by simp))
    · exact Ne.symm (hr p hp (a, oM) (by simp))
    · exact Ne.symm (hr p hp (a, oP) (by simp))
    · exact hc p hp
theorem pick_take (l : List Value) {y : Int} (h : 0 ≤ y) : kms_pick l none (some y) = l.take y.toNat := by
  have e : kms_hi (some y) l.length = min y.toNat l.length := by
    show (if y < 0 then _ else _) = _
    rw [if_neg (by omega)]
  unfold kms_pick
  rw [e, show kms_lo none l.length = 0 from rfl, List.drop_zero, Nat.sub_zero, List.take_eq_take_iff]; omega
/-- a slice from the front of a list, whatever the list's own expression -/
theorem slice_front {prog : Program} {w : World} {A : Around} {E : Value → Shared → Prop} {s : Shared} {h₀ : Heap} {L l : Addr} {m : Str → Option Value} {news : List (Addr × Obj)} {value slice : PySem.Expr} {its : Array Value} {vu : Value} {y : Int} {Q : Value → Shared → Prop}
    (F : Fr h₀ L s.heap m) (N : News h₀ L s.heap news) (hl : s.heap.IsList l its) (pu : IsPart vu (some y)) (hy : 0 ≤ y)
    (h : ∀ D h', Fr h₀ L h' m → News h₀ L h' ((D, listOf (its.toList.take y.toNat).toArray 0) :: news) → (∀ p ∈ news, p.1 < D) → Q (.ref D) { s with heap := h' })
    (hs : subscripted slice false (.ref l) (.ref s.heap.objs.size) = operate [.ref s.heap.objs.size, .ref l] (getItem (.ref l) (.ref s.heap.objs.size))) (hz : its.size ≤ sizeLine) :
    wpAny (model prog w) A (subscriptTail value slice (.ref l) (.ref s.heap.objs.size)) Q E { s with heap := s.heap.push { cls := .type "slice", data := .fields #[.none, vu, .none] } } := by
  refine tail_any (Heap.IsList.typeIs (s := { s with heap := s.heap.push { cls := .type "slice", data := .fields #[.none, vu, .none] } }) (hl.push _)) list_getitem_lookup
    (wpAny_getItem_list_slice (hl.push _) (Heap.IsSliceOf.new ..) .none pu .none (by simp) ?_ hz) hs
  have N1 := News.push (F.push { cls := .type "slice", data := .fields #[.none, vu, .none] }) (N.grown fun _ _ e => Heap.get?_push_of_some _ e) { cls := .type "list", data := .seq (slicePick its none (some y) none) }
  rw [Heap.size_push] at N1
  show Q (.ref (s.heap.push _).objs.size) _
  rw [Heap.size_push]
  rw [kms_pick_eq, pick_take _ hy] at N1
  refine h _ _ ((F.push _).push _) ?_ (fun p hp => Nat.lt_succ_of_lt (Heap.lt_size (N p hp).1))
  rw [kms_pick_eq, pick_take _ hy]
  exact N1
theorem Off.five {a1 a2 a3 a4 c d : Nat} (h1 : d ≠ a1) (h2 : d ≠ a2) (h3 : d ≠ a3) (h4 : d ≠ a4) (h5 : d ≠ c) : ∀ a ∈ [a1, a2, a3, a4, c], @Ne Nat d a := by
  intro a ha
  simp only [List.mem_cons, List.not_mem_nil, or_false] at ha
  rcases ha with rfl | rfl | rfl | rfl | rfl <;> assumption
structure MarksIn (X : List (Addr × Obj)) (mt : Addr) (n : Int) (kd : Str) (md : List Dat) (lt : List Str) : Prop where
  out : ∃ ml mv k tk kt, (mt, ({ cls := .type "tuple", data := .seq #[Value.str kd tk, Value.ref ml] kt } : Obj)) ∈ X ∧ (ml, listOf mv.toArray k) ∈ X ∧ DatAll [] mv md
  lab : LabOk kd md lt
  len : (md.length : Int) = n
  short : ∀ x ∈ lt, x.length ≤ 10
  ok : ∀ d ∈ md, kqdOk 0 d = true
  kok : PyData.strOk kd = true
/-- behind the menu of the row names -/
def IfPost (h₀ : Heap) (L : Addr) (m : Str → Option Value) (a1 a2 a3 a4 c : Addr) (oC oT oP : Obj) (n : Int) (X0 : List (Addr × Obj)) (s : Shared) (f : Flow) (s' : Shared) : Prop :=
  ∃ h' tk' oM mt X cv ck ci kd md lt, f = .next ∧ s' = { s with heap := h', toks := tk' } ∧ Fr h₀ L h' m ∧ News h₀ L h' ((a3, oM) :: (a4, oP) :: (a2, oT) :: (a1, oC) :: (c, listOf (List.toArray cv) ck) :: X) ∧ oM.data = .cell (some (.ref mt)) ∧ MarksIn X mt n kd md lt ∧ IntsAre cv ci ∧ ci.length ≤ 140 ∧ (∀ p ∈ X0, p ∈ X) ∧ Off [a1, a2, a3, a4, c] X
theorem marks_ints {vs : List Value} {q : Int} {kt kk : Nat} {mt ml : Addr} {tk : Tok} {X : List (Addr × Obj)} (q0 : 0 ≤ q) (q1 : q < 4) (h : IntsAre vs (rangeKs 1 (1 + q + 1 - 1).toNat))
    (h1 : (mt, ({ cls := .type "tuple", data := .seq #[Value.str (Str.ofString "integer") tk, Value.ref ml] kt } : Obj)) ∈ X) (h2 : (ml, listOf vs.toArray kk) ∈ X) :
    ∃ md lt, MarksIn X mt (1 + q) (Str.ofString "integer") md lt := by
  have hb : ∀ i ∈ rangeKs 1 (1 + q + 1 - 1).toNat, 0 ≤ i ∧ i ≤ 1000 := fun i hi => by have := mem_rangeKs hi; omega
  refine ⟨_, _, ⟨ml, vs, kk, tk, kt, h1, h2, ints_dat h⟩, LabOk.int _ hb, by simp [rangeKs_length]; omega, ?_, ?_, by decide +kernel⟩
  · intro x hx
    obtain ⟨i, hi, rfl⟩ := List.mem_map.mp hx
    have := KT.len_num (n := i) (by have := hb i hi; omega) (by have := hb i hi; omega)
    omega
  · intro d hd
    obtain ⟨i, hi, rfl⟩ := List.mem_map.mp hd
    rfl
theorem strs_dat {ts : List (Str × Tok)} : DatAll [] (ts.map fun p => Value.str p.1 p.2) ((ts.map (·.1)).map Dat.str) := by
  induction ts with
  | nil => exact .nil
  | cons p r ih => exact .cons (.str _ _) ih
theorem news_rot3 {h₀ h : Heap} {L : Addr} {A B C D : Addr × Obj} {news : List (Addr × Obj)} (N : News h₀ L h (A :: B :: C :: D :: news)) : News h₀ L h (D :: A :: B :: C :: news) := cb_drop N (by intro p hp; simp only [List.mem_cons] at hp ⊢; rcases hp with h | h | h | h | h <;> simp [h])
theorem ColJ.start {c : Addr} {rest : List (Addr × Obj)} {n : Int} {cv : List Value} {ck : Nat} {ci : List Int} (h : IntsAre cv ci) (hl : ci.length ≤ 140) : ColJ c rest n 0 [] ((c, listOf cv.toArray ck) :: rest) := ⟨cv, ck, ci, [], [], rfl, h, hl, by simp, by simp, .nil, rfl, by simp⟩
theorem CellJ.start {c : Addr} {rest : List (Addr × Obj)} {cv : List Value} {ck : Nat} {ci : List Int} (h : IntsAre cv ci) (hl : ci.length ≤ 140) : CellJ c rest 0 [] ((c, listOf cv.toArray ck) :: rest) := ⟨cv, ck, ci, [], rfl, h, hl, .nil, rfl, by simp⟩
theorem seg2_pack {h₀ h : Heap} {L : Addr} {a1 a2 a3 a4 c : Nat} {x1 x2 x3 x4 : Addr × Obj} {oM oP oT oC oc : Obj} {X : List (Addr × Obj)}
    (N : News h₀ L h (x1 :: x2 :: x3 :: x4 :: (a3, oM) :: (a4, oP) :: (a2, oT) :: (a1, oC) :: (c, oc) :: X)) (hX : Off [a1, a2, a3, a4, c] X)
    (h1 : ∀ a ∈ [a1, a2, a3, a4, c], @Ne Nat x1.1 a) (h2 : ∀ a ∈ [a1, a2, a3, a4, c], @Ne Nat x2.1 a) (h3 : ∀ a ∈ [a1, a2, a3, a4, c], @Ne Nat x3.1 a) :
    ∃ X2, x1 ∈ X2 ∧ x2 ∈ X2 ∧ x3 ∈ X2 ∧ (∀ p ∈ X, p ∈ X2) ∧ News h₀ L h ((a3, oM) :: (a4, oP) :: (a2, oT) :: (a1, oC) :: (c, oc) :: X2) ∧ Off [a1, a2, a3, a4, c] X2 := by
  refine ⟨x1 :: x2 :: x3 :: X, by simp, by simp, by simp, fun p hp => by simp [hp], cb_drop N ?_, Off.cons h1 (Off.cons h2 (Off.cons h3 hX))⟩
  intro p hp
  simp only [List.mem_cons] at hp ⊢
  rcases hp with h | h | h | h | h | h | h | h | h <;> simp [h]
theorem heads_dat {r : Int} {tu tv : Tok} (r0 : 0 ≤ r) (r1 : r < 2) : ∃ nms : List Str, DatAll [] (([Value.str (Str.ofString "u") tu, Value.str (Str.ofString "v") tv]).take (1 + r).toNat) (nms.map Dat.str) ∧ nms.length ≤ 2 ∧ ∀ x ∈ nms, PyData.strOk x = true := by
  have hr : r = 0 ∨ r = 1 := by omega
  rcases hr with rfl | rfl
  · exact ⟨[Str.ofString "u"], .cons (.str _ _) .nil, by decide, by decide +kernel⟩
  · exact ⟨[Str.ofString "u", Str.ofString "v"], .cons (.str _ _) (.cons (.str _ _) .nil), by decide, by decide +kernel⟩
theorem heads_in {r : Int} {tu tv : Tok} {hd : Addr} {X : List (Addr × Obj)} (h : (hd, listOf (([Value.str (Str.ofString "u") tu, Value.str (Str.ofString "v") tv]).take (1 + r).toNat).toArray 0) ∈ X) (r0 : 0 ≤ r) (r1 : r < 2) :
    ∃ (nms : List Str) (hv : List Value), (hd, listOf hv.toArray 0) ∈ X ∧ DatAll [] hv (nms.map Dat.str) ∧ nms.length ≤ 2 ∧ ∀ x ∈ nms, PyData.strOk x = true := by
  obtain ⟨nms, h1, h2, h3⟩ := heads_dat (tu := tu) (tv := tv) r0 r1
  exact ⟨nms, _, h, h1, h2, h3⟩
theorem if_join {prog : Program} {w : World} {A : Around} {E : Value → Shared → Prop} {s : Shared} {c : Sem Flow} {Q : Flow → Shared → Prop} {h₀ : Heap} {L a1 a2 a3 a4 cc : Addr} {m : Str → Option Value} {oM oP oT oC oc : Obj} {X0 : List (Addr × Obj)} (n : Int)
    (F : Fr h₀ L s.heap m) (N : News h₀ L s.heap ((a3, oM) :: (a4, oP) :: (a2, oT) :: (a1, oC) :: (cc, oc) :: X0))
    (walk : wpAny (model prog w) A c (IfPost h₀ L m a1 a2 a3 a4 cc oC oT oP n X0 s) E s)
    (rest : ∀ h' tk' oM mt X cv ck ci kd md lt, Fr h₀ L h' m → News h₀ L h' ((a3, oM) :: (a4, oP) :: (a2, oT) :: (a1, oC) :: (cc, listOf (List.toArray cv) ck) :: X) → oM.data = .cell (some (.ref mt)) → MarksIn X mt n kd md lt → IntsAre cv ci → ci.length ≤ 140 → (∀ p ∈ X0, p ∈ X) → Off [a1, a2, a3, a4, cc] X → Q .next { s with heap := h', toks := tk' }) :
    wpAny (model prog w) A c Q E s := by
  refine wpAny_mono walk ?_ (fun _ _ e => e)
  rintro f s' ⟨h', tk', oM, mt, X, cv, ck, ci, kd, md, lt, rfl, rfl, F, N, d, M, I, l, hs, o⟩
  exact rest h' tk' oM mt X cv ck ci kd md lt F N d M I l hs o
theorem news_card {h₀ h : Heap} {L : Addr} {A B C D E : Addr × Obj} {X : List (Addr × Obj)} (N : News h₀ L h (A :: B :: C :: D :: E :: X)) : News h₀ L h (E :: A :: B :: C :: D :: X) := cb_drop N (by intro p hp; simp only [List.mem_cons] at hp ⊢; rcases hp with h | h | h | h | h | h <;> simp [h])
theorem news_back {h₀ h : Heap} {L : Addr} {A B C D E : Addr × Obj} {X : List (Addr × Obj)} (N : News h₀ L h (E :: A :: B :: C :: D :: X)) : News h₀ L h (A :: B :: C :: D :: E :: X) := cb_drop N (by intro p hp; simp only [List.mem_cons] at hp ⊢; rcases hp with h | h | h | h | h | h <;> simp [h])
theorem off_own {a1 a2 a3 a4 c : Nat} {o1 o2 o3 o4 : Obj} {X : List (Addr × Obj)} (hX : Off [a1, a2, a3, a4, c] X) (h1 : a1 ≠ c) (h2 : a2 ≠ c) (h3 : a3 ≠ c) (h4 : a4 ≠ c) : OwnOff ((a3, o3) :: (a4, o4) :: (a2, o2) :: (a1, o1) :: X) [c] :=
  own_out (List.forall_mem_cons.mpr ⟨h3, List.forall_mem_cons.mpr ⟨h4, List.forall_mem_cons.mpr ⟨h2, List.forall_mem_cons.mpr ⟨h1, fun p hp => hX p hp c (by simp)⟩⟩⟩⟩)
theorem dat_take {L : List (Addr × Obj)} : ∀ {vs : List Value} {ds : List Dat}, DatAll L vs ds → ∀ k : Nat, DatAll L (vs.take k) (ds.take k)
  | _, _, _, 0 => .nil
  | _, _, .nil, _ + 1 => .nil
  | _, _, .cons a r, k + 1 => .cons a (dat_take r k)
theorem if_pack {h₀ h : Heap} {L : Addr} {a1 a2 a3 a4 c : Nat} {x1 x2 x3 : Addr × Obj} {oM oP oT oC oc : Obj} {X : List (Addr × Obj)}
    (N : News h₀ L h (x1 :: x2 :: x3 :: (a3, oM) :: (a4, oP) :: (a2, oT) :: (a1, oC) :: (c, oc) :: X)) (hX : Off [a1, a2, a3, a4, c] X)
    (h1 : ∀ a ∈ [a1, a2, a3, a4, c], @Ne Nat x1.1 a) (h2 : ∀ a ∈ [a1, a2, a3, a4, c], @Ne Nat x2.1 a) :
    ∃ X2, x1 ∈ X2 ∧ x2 ∈ X2 ∧ (∀ p ∈ X, p ∈ X2) ∧ News h₀ L h ((a3, oM) :: (a4, oP) :: (a2, oT) :: (a1, oC) :: (c, oc) :: X2) ∧ Off [a1, a2, a3, a4, c] X2 := by
  refine ⟨x1 :: x2 :: X, by simp, by simp, fun p hp => by simp [hp], cb_drop N ?_, Off.cons h1 (Off.cons h2 hX)⟩
  intro p hp
  simp only [List.mem_cons] at hp ⊢
  rcases hp with h | h | h | h | h | h | h | h <;> simp [h]
theorem marks_strs {q : Int} {kt kk : Nat} {mt ml : Addr} {tk t1 t2 t3 t4 : Tok} {X : List (Addr × Obj)} (q0 : 0 ≤ q) (q1 : q < 4)
    (h1 : (mt, ({ cls := .type "tuple", data := .seq #[Value.str (Str.ofString "character") tk, Value.ref ml] kt } : Obj)) ∈ X)
    (h2 : (ml, listOf (([Value.str (Str.ofString "k") t1, Value.str (Str.ofString "k.1") t2, Value.str (Str.ofString "m") t3, Value.str (Str.ofString "NA") t4]).take (1 + q).toNat).toArray kk) ∈ X) :
    ∃ md lt, MarksIn X mt (1 + q) (Str.ofString "character") md lt := by
  have hd : DatAll [] ([Value.str (Str.ofString "k") t1, Value.str (Str.ofString "k.1") t2, Value.str (Str.ofString "m") t3, Value.str (Str.ofString "NA") t4]) (([Str.ofString "k", Str.ofString "k.1", Str.ofString "m", Str.ofString "NA"]).map Dat.str) := .cons (.str _ _) (.cons (.str _ _) (.cons (.str _ _) (.cons (.str _ _) .nil)))
  have hd2 := dat_take hd (1 + q).toNat
  rw [← List.map_take] at hd2
  have hm : ∀ x ∈ ([Str.ofString "k", Str.ofString "k.1", Str.ofString "m", Str.ofString "NA"]).take (1 + q).toNat, x.length ≤ 10 ∧ PyData.strOk x = true := fun x hx =>
    (show ∀ x ∈ [Str.ofString "k", Str.ofString "k.1", Str.ofString "m", Str.ofString "NA"], x.length ≤ 10 ∧ PyData.strOk x = true by decide +kernel) x (List.mem_of_mem_take hx)
  refine ⟨_, _, ⟨ml, _, kk, tk, kt, h1, h2, hd2⟩, LabOk.str _, by simp; omega, fun x hx => (hm x hx).1, ?_, by decide +kernel⟩
  intro d hd
  obtain ⟨x, hx, rfl⟩ := List.mem_map.mp hd
  exact (hm x hx).2
theorem fr_two {h₀ h : Heap} {L : Addr} {x y : Str} {u v : Value} {m : Str → Option Value} (F : Fr h₀ L h (fun z => if z = x then some u else if z = y then some v else m z)) : ∃ m' : Str → Option Value, Fr h₀ L h (fun z => if z = x then some u else if z = y then some v else m' z) := ⟨m, F⟩
theorem cell_tok {o : Obj} {v : Value} (h : o.data = .cell (some v)) : ∃ o' : Obj, o' = o ∧ o'.data = .cell (some v) := ⟨o, rfl, h⟩



theorem ints_of {L : List (Addr × Obj)} : ∀ {vs : List Value} {is : List Int}, DatAll L vs (is.map Dat.int) → IntsAre vs is
  | [], [], _ => .nil
  | _ :: _, _ :: _, .cons (.int _ _) r => .cons _ _ (ints_of r)
theorem dat_col {L : List (Addr × Obj)} {v : Value} {n : Int} {e : Dat} (h : DatIn L v e) (hc : ColDat n e) :
    ∃ a vs k is, v = .ref a ∧ (a, listOf (List.toArray vs) k) ∈ L ∧ IntsAre vs is ∧ e = Dat.list (is.map Dat.int) ∧ (is.length : Int) = n ∧ ∀ i ∈ is, 0 ≤ i ∧ i < 50 := by
  obtain ⟨is, rfl, h1, h2⟩ := hc
  cases h with
  | list hm hd => exact ⟨_, _, _, is, rfl, hm, ints_of hd, rfl, h1, h2⟩
theorem dat_atL {L : List (Addr × Obj)} {vs : List Value} {ds : List Dat} (hd : DatAll L vs ds) {i : Nat} {v : Value} (hv : vs.toArray[i]? = some v) : ∃ d, ds[i]? = some d ∧ d ∈ ds ∧ DatIn L v d := by
  have hv : vs[i]? = some v := by simpa using hv
  have hi : i < vs.length := (List.getElem?_eq_some_iff.mp hv).1
  obtain ⟨v', hv', hD⟩ := hd.get (k := i) (by rw [← hd.length]; exact hi)
  rw [hv] at hv'
  cases hv'
  exact ⟨_, List.getElem?_eq_getElem (by rw [← hd.length]; exact hi), List.getElem_mem _, hD⟩
theorem VecJ.snoc' {w : World} {base tl : List (Addr × Obj)} {cols : List Addr} {es : List Dat} {i : Nat} {x dx lc : Addr} {t0 t1 t2 t3 t4 t5 : Tok} {vs : List Value} {is : List Int} {k : Nat}
    (hFr : Fresh w tl cols (es.take i)) (hoff : ∀ p ∈ tl, ∀ q ∈ base, @Ne Nat q.1 p.1) (hd : es[i]? = some (Dat.list (is.map Dat.int))) (hv : IntsAre vs is) (hl : is.length ≤ 7)
    (l1 : AllLt lc (tl ++ base)) (l2 : @LT.lt Nat _ lc dx) (l3 : @LT.lt Nat _ dx x) :
    VecJ w base es (i + 1) (cols.map Value.ref ++ [Value.ref x]) ((x, instObj 164 dx) :: (dx, dictOf (vecEs w (Str.ofString "integer") t0 (.ref lc) .none false false t1 t2 t3 t4 t5) 5) :: (lc, listOf vs.toArray k) :: (tl ++ base)) :=
  VecJ.snocD hFr hoff hd (ints_dat hv) (by intro d hd; obtain ⟨i, _, rfl⟩ := List.mem_map.mp hd; rfl) (by simpa using hl) l1 l2 l3
theorem vec_off {x dx lc D : Addr} {ox od ol oD : Obj} {tl base : List (Addr × Obj)} (o1 : LCg.Off1 D (tl ++ base)) (lA : AllLt lc (tl ++ base)) (lB : @LT.lt Nat _ lc dx) (lx : @LT.lt Nat _ dx x) (hoff : ∀ p ∈ tl, ∀ q ∈ base, @Ne Nat q.1 p.1) :
    ∀ p ∈ tl, ∀ q ∈ (x, ox) :: (dx, od) :: (lc, ol) :: (D, oD) :: base, @Ne Nat q.1 p.1 := by
  intro p hp
  have h := all_off3 lA lB lx p (List.mem_append_left _ hp)
  exact List.forall_mem_cons.mpr ⟨Ne.symm h.1, List.forall_mem_cons.mpr ⟨Ne.symm h.2.1, List.forall_mem_cons.mpr ⟨Ne.symm h.2.2, List.forall_mem_cons.mpr ⟨Ne.symm (off1_mem o1 p (List.mem_append_left _ hp)), fun q hq => hoff p hp q hq⟩⟩⟩⟩
theorem news_front {h₀ h : Heap} {L : Addr} {x1 x2 x3 x4 : Addr × Obj} {tl base : List (Addr × Obj)} (N : News h₀ L h (x1 :: x2 :: x3 :: x4 :: (tl ++ base))) : News h₀ L h (tl ++ (x1 :: x2 :: x3 :: x4 :: base)) := cb_drop N (by
  intro p hp; simp only [List.mem_cons, List.mem_append] at hp ⊢; rcases hp with h | h | h | h | h | h <;> simp [h])
theorem seg4_pack {h₀ h : Heap} {L a1 a2 a3 a4 c x dx lc D pl : Addr} {ox od ol oD oM oP oT oC oc op : Obj} {tl tl0 X : List (Addr × Obj)}
    (N : News h₀ L h ((pl, op) :: (tl ++ (x, ox) :: (dx, od) :: (lc, ol) :: (D, oD) :: (a3, oM) :: (a4, oP) :: (a2, oT) :: (a1, oC) :: (c, oc) :: X)))
    (lp : AllLt pl (tl ++ (x, ox) :: (dx, od) :: (lc, ol) :: (D, oD) :: (a3, oM) :: (a4, oP) :: (a2, oT) :: (a1, oC) :: (c, oc) :: X))
    (hof : ∀ p ∈ tl, ∀ q ∈ (x, ox) :: (dx, od) :: (lc, ol) :: (D, oD) :: (a3, oM) :: (a4, oP) :: (a2, oT) :: (a1, oC) :: (c, oc) :: X, p.1 ≠ q.1)
    (lA : AllLt lc (tl0 ++ (a3, oM) :: (a4, oP) :: (a2, oT) :: (a1, oC) :: (c, oc) :: X)) (lB : @LT.lt Nat _ lc dx) (lx : @LT.lt Nat _ dx x) (hX : Off [a1, a2, a3, a4, c] X) :
    ∃ X4, News h₀ L h ((pl, op) :: (a3, oM) :: (a4, oP) :: (a2, oT) :: (a1, oC) :: (c, oc) :: X4) ∧ (∀ p ∈ tl, p ∈ X4) ∧ (x, ox) ∈ X4 ∧ (dx, od) ∈ X4 ∧ (lc, ol) ∈ X4 ∧ (∀ p ∈ X, p ∈ X4) ∧ Off [a1, a2, a3, a4, c] X4 ∧
      (∀ p ∈ (a3, oM) :: (a4, oP) :: (a2, oT) :: (a1, oC) :: (c, oc) :: X4, @Ne Nat p.1 pl) := by
  have hp := ktn_ltOf lp
  have hb := all_off3 lA lB lx
  have o5 : ∀ y : Addr, (∀ q ∈ (a3, oM) :: (a4, oP) :: (a2, oT) :: (a1, oC) :: (c, oc) :: X, @Ne Nat y q.1) → ∀ a ∈ [a1, a2, a3, a4, c], @Ne Nat y a := fun y hy => Off.five (hy (a1, oC) (by simp)) (hy (a2, oT) (by simp)) (hy (a3, oM) (by simp)) (hy (a4, oP) (by simp)) (hy (c, oc) (by simp))
  have hb' := fun q (hq : q ∈ (a3, oM) :: (a4, oP) :: (a2, oT) :: (a1, oC) :: (c, oc) :: X) => hb q (List.mem_append_right _ hq)
  refine ⟨tl ++ ((x, ox) :: (dx, od) :: (lc, ol) :: X), cb_drop N ?_, fun p hp => List.mem_append_left _ hp, by simp, by simp, by simp, fun p hp => by simp [hp], ?_, ?_⟩
  · intro p hp
    simp only [List.mem_cons, List.mem_append] at hp ⊢
    rcases hp with h | h | h | h | h | h | h | h | h | h | h <;> simp [h]
  · intro p hp
    rcases List.mem_append.mp hp with hp | hp
    · exact o5 p.1 (fun q hq => hof p hp q (by simp only [List.mem_cons] at hq ⊢; rcases hq with h | h | h | h | h | h <;> simp [h]))
    · rcases List.mem_cons.mp hp with rfl | hp
      · exact o5 x (fun q hq => Ne.symm (hb' q hq).1)
      · rcases List.mem_cons.mp hp with rfl | hp
        · exact o5 dx (fun q hq => Ne.symm (hb' q hq).2.1)
        · rcases List.mem_cons.mp hp with rfl | hp
          · exact o5 lc (fun q hq => Ne.symm (hb' q hq).2.2)
          · exact hX p hp
  · intro p hq
    refine Nat.ne_of_lt (hp p ?_)
    simp only [List.mem_cons, List.mem_append] at hq ⊢
    rcases hq with h | h | h | h | h | h | h | h | h | h <;> simp [h]
theorem fr_four {h₀ h : Heap} {L : Addr} {x y z t : Str} {u v a b : Value} {m : Str → Option Value} (F : Fr h₀ L h (fun q => if q = x then some u else if q = y then some v else if q = z then some a else if q = t then some b else m q)) : ∃ m' : Str → Option Value, Fr h₀ L h (fun q => if q = x then some u else if q = y then some v else if q = z then some a else if q = t then some b else m' q) := ⟨m, F⟩
theorem seg4_state {w : World} {h₀ h : Heap} {L a1 a2 a3 a4 c pl f x dx lc : Addr} {op oM oP oT oC oc : Obj} {X : List (Addr × Obj)} {cols : List Addr} {nms : List Str} {d : FrD} {kd : Str} {mv : List Value} {k : Nat} {t0 t1 t2 t3 t4 t5 : Tok} {y z t : Str} {v a b : Value} {m : Str → Option Value}
    (N : News h₀ L h ((pl, op) :: (a3, oM) :: (a4, oP) :: (a2, oT) :: (a1, oC) :: (c, oc) :: X)) (F : Fr h₀ L h (fun q => if q = Str.ofString "places" then some (.ref pl) else if q = y then some v else if q = z then some a else if q = t then some b else m q))
    (hp : ∀ p ∈ (a3, oM) :: (a4, oP) :: (a2, oT) :: (a1, oC) :: (c, oc) :: X, @Ne Nat p.1 pl) (hF : FrameIn w X f cols nms x d)
    (h1 : (x, instObj 164 dx) ∈ X) (h2 : (dx, dictOf (vecEs w kd t0 (.ref lc) .none false false t1 t2 t3 t4 t5) 5) ∈ X) (h3 : (lc, listOf mv.toArray k) ∈ X) :
    ∃ pl rv gr, ∃ m' : Str → Option Value, News h₀ L h ((pl, op) :: (a3, oM) :: (a4, oP) :: (a2, oT) :: (a1, oC) :: (c, oc) :: X) ∧ Fr h₀ L h (fun q => if q = Str.ofString "places" then some (.ref pl) else if q = y then some v else if q = z then some a else if q = t then some b else m' q) ∧
      (∀ p ∈ (a3, oM) :: (a4, oP) :: (a2, oT) :: (a1, oC) :: (c, oc) :: X, @Ne Nat p.1 pl) ∧ FrameIn w X f cols nms rv d ∧ VecIn w X rv kd mv gr :=
  ⟨pl, x, _, m, N, F, hp, hF, VecIn.of h1 h2 h3⟩
theorem news_card6 {h₀ h : Heap} {L : Addr} {P A B C D E : Addr × Obj} {X : List (Addr × Obj)} (N : News h₀ L h (P :: A :: B :: C :: D :: E :: X)) : News h₀ L h (E :: P :: A :: B :: C :: D :: X) := cb_drop N (by intro p hp; simp only [List.mem_cons] at hp ⊢; rcases hp with h | h | h | h | h | h | h <;> simp [h])
theorem news_swap {h₀ h : Heap} {L : Addr} {A B : Addr × Obj} {X : List (Addr × Obj)} (N : News h₀ L h (A :: B :: X)) : News h₀ L h (B :: A :: X) := cb_drop N (by intro p hp; simp only [List.mem_cons] at hp ⊢; rcases hp with h | h | h <;> simp [h])
theorem off_own6 {a1 a2 a3 a4 c pl : Nat} {o1 o2 o3 o4 op : Obj} {X : List (Addr × Obj)} (hX : Off [a1, a2, a3, a4, c] X) (h0 : pl ≠ c) (h1 : a1 ≠ c) (h2 : a2 ≠ c) (h3 : a3 ≠ c) (h4 : a4 ≠ c) : OwnOff ((pl, op) :: (a3, o3) :: (a4, o4) :: (a2, o2) :: (a1, o1) :: X) [c] :=
  own_out (List.forall_mem_cons.mpr ⟨h0, List.forall_mem_cons.mpr ⟨h3, List.forall_mem_cons.mpr ⟨h4, List.forall_mem_cons.mpr ⟨h2, List.forall_mem_cons.mpr ⟨h1, fun p hp => hX p hp c (by simp)⟩⟩⟩⟩⟩)
theorem fr_eq {h₀ h : Heap} {L : Addr} {m m' : Str → Option Value} (F : Fr h₀ L h m) (e : ∀ y, m y = m' y) : Fr h₀ L h m' := by
  have : m = m' := funext e
  rw [← this]; exact F
theorem fr_after {h₀ h : Heap} {L : Addr} {x s a b c d : Str} {u m : Str → Option Value} {va vb vc vd : Value} (F : Fr h₀ L h (fun y => if y = x then u y else kstB (fun z => if [s].contains z then u z else if z = a then some va else if z = b then some vb else if z = c then some vc else if z = d then some vd else m z) [] y))
    (ha : a ≠ x ∧ a ≠ s) (hb : b ≠ x ∧ b ≠ s) (hc : c ≠ x ∧ c ≠ s) (hd : d ≠ x ∧ d ≠ s) : ∃ m' : Str → Option Value, Fr h₀ L h (fun z => if z = a then some va else if z = b then some vb else if z = c then some vc else if z = d then some vd else m' z) := by
  refine ⟨_, fr_eq F (m' := fun z => if z = a then some va else if z = b then some vb else if z = c then some vc else if z = d then some vd else (if z = x then u z else kstB (fun z => if [s].contains z then u z else if z = a then some va else if z = b then some vb else if z = c then some vc else if z = d then some vd else m z) [] z)) (fun y => ?_)⟩
  by_cases h1 : y = a
  · subst h1; simp [ha.1, ha.2, kstB]
  · by_cases h2 : y = b
    · subst h2; simp [hb.1, hb.2, kstB, h1]
    · by_cases h3 : y = c
      · subst h3; simp [hc.1, hc.2, kstB, h1, h2]
      · by_cases h4 : y = d
        · subst h4; simp [hd.1, hd.2, kstB, h1, h2, h3]
        · simp [h1, h2, h3, h4]
structure PS where
  cv : List Value
  ck : Nat
  ci : List Int
  pv : List Value
  pk : Nat
  ps : List (Option Int)
theorem cells_pl {a1 a2 a3 a4 c pl : Addr} {oM oP oT oC oc : Obj} {X : List (Addr × Obj)} (h : ∀ p ∈ (a3, oM) :: (a4, oP) :: (a2, oT) :: (a1, oC) :: (c, oc) :: X, @Ne Nat p.1 pl) : (∀ p ∈ (a3, oM) :: (a4, oP) :: (a2, oT) :: (a1, oC) :: X, @Ne Nat p.1 pl) ∧ @Ne Nat c pl :=
  ⟨fun p hp => h p (by simp only [List.mem_cons] at hp ⊢; rcases hp with h | h | h | h | h <;> simp [h]), h (c, oc) (by simp)⟩
theorem cells_c {a1 a2 a3 a4 c : Addr} {oM oP oT oC : Obj} {X : List (Addr × Obj)} (hX : Off [a1, a2, a3, a4, c] X) (h1 : @Ne Nat a1 c) (h2 : @Ne Nat a2 c) (h3 : @Ne Nat a3 c) (h4 : @Ne Nat a4 c) : ∀ p ∈ (a3, oM) :: (a4, oP) :: (a2, oT) :: (a1, oC) :: X, @Ne Nat p.1 c :=
  List.forall_mem_cons.mpr ⟨h3, List.forall_mem_cons.mpr ⟨h4, List.forall_mem_cons.mpr ⟨h2, List.forall_mem_cons.mpr ⟨h1, fun p hp => hX p hp c (by simp)⟩⟩⟩⟩
theorem own_two {c pl : Addr} {op : Obj} {X : List (Addr × Obj)} (h1 : @Ne Nat pl c) (h2 : ∀ p ∈ X, @Ne Nat p.1 c) : OwnOff ((pl, op) :: X) [c] := own_out (List.forall_mem_cons.mpr ⟨h1, h2⟩)
structure Bnd8 (z : Int) : Prop where
  lo : 0 ≤ z
  hi : z < 8



theorem dat_snoc {L : List (Addr × Obj)} {vs : List Value} {ps : List (Option Int)} {v : Value} {x : Option Int} (h : DatAll L vs (ps.map plD)) (hv : DatIn L v (plD x)) : DatAll L (vs ++ [v]) ((ps ++ [x]).map plD) := by
  rw [List.map_append]; exact h.append (.one hv)
theorem seg5_pack {h₀ h : Heap} {L a1 a2 a3 a4 c pl : Addr} {op oM oP oT oC oc : Obj} {X tl : List (Addr × Obj)} (N : News h₀ L h ((pl, op) :: (c, oc) :: (a3, oM) :: (a4, oP) :: (a2, oT) :: (a1, oC) :: (X ++ tl)))
    (hX : Off [a1, a2, a3, a4, c] X) (hcp : ∀ p ∈ (a3, oM) :: (a4, oP) :: (a2, oT) :: (a1, oC) :: X, @Ne Nat p.1 pl) (nc : @Ne Nat c pl) :
    ∃ X5, News h₀ L h ((a3, oM) :: (a4, oP) :: (a2, oT) :: (a1, oC) :: X5) ∧ (pl, op) ∈ X5 ∧ (∀ p ∈ X, p ∈ X5) ∧ Off [a1, a2, a3, a4, c] X5 := by
  refine ⟨(pl, op) :: X, cb_drop N ?_, List.mem_cons_self, fun p hp => List.mem_cons_of_mem _ hp, Off.cons (Off.five (Ne.symm (hcp (a1, oC) (by simp))) (Ne.symm (hcp (a2, oT) (by simp))) (Ne.symm (hcp (a3, oM) (by simp))) (Ne.symm (hcp (a4, oP) (by simp))) (Ne.symm nc)) hX⟩
  intro p hp
  simp only [List.mem_cons, List.mem_append] at hp ⊢
  rcases hp with h | h | h | h | h | h <;> simp [h]
/-- the ledger of the law behind the cards: its cells, the rest -/
theorem seg6_pack {h₀ h : Heap} {L a1 a2 a3 a4 c : Addr} {oM oP oT oC : Obj} {x : Addr × Obj} {tl X : List (Addr × Obj)} (N : News h₀ L h (tl ++ x :: (a3, oM) :: (a4, oP) :: (a2, oT) :: (a1, oC) :: X))
    (hX : Off [a1, a2, a3, a4, c] X) (hof : ∀ p ∈ tl, ∀ q ∈ x :: (a3, oM) :: (a4, oP) :: (a2, oT) :: (a1, oC) :: X, p.1 ≠ q.1) :
    ∃ X6, News h₀ L h ((a3, oM) :: (a4, oP) :: (a2, oT) :: (a1, oC) :: X6) ∧ (∀ p ∈ tl, p ∈ X6) ∧ (∀ p ∈ X, p ∈ X6) ∧ ∀ p ∈ X6, @Ne Nat p.1 a4 := by
  refine ⟨tl ++ X, cb_drop N ?_, fun p hp => List.mem_append_left _ hp, fun p hp => List.mem_append_right _ hp, ?_⟩
  · intro p hp
    simp only [List.mem_cons, List.mem_append] at hp ⊢
    rcases hp with h | h | h | h | h | h <;> simp [h]
  · intro p hp
    rcases List.mem_append.mp hp with hp | hp
    · exact hof p hp (a4, oP) (by simp)
    · exact hX p hp a4 (by simp)
def norm (n : Int) : Option Int → Option Int
  | none => none
  | some i => if i < n then some i else none
def normD (n : Int) : Dat → Dat
  | .int i => if i < n then .int i else .none
  | _ => .none
theorem normD_pl (n : Int) (x : Option Int) : normD n (plD x) = plD (norm n x) := by
  cases x with
  | none => rfl
  | some i => simp only [plD, normD, norm]; split <;> rfl
theorem normD_map (n : Int) (ps : List (Option Int)) : (ps.map plD).map (normD n) = (ps.map (norm n)).map plD := by
  rw [List.map_map, List.map_map]; exact List.map_congr_left fun x _ => normD_pl n x
theorem present_first {h₀ h : Heap} {L : Addr} {A B C D E : Addr × Obj} {X : List (Addr × Obj)} (N : News h₀ L h (A :: B :: C :: D :: E :: X)) : News h₀ L h (C :: A :: B :: D :: E :: X) := cb_drop N (by intro p hp; simp only [List.mem_cons] at hp ⊢; rcases hp with h | h | h | h | h | h <;> simp [h])
theorem present_off {a1 a2 a3 a4 D : Addr} {od o1 o2 o3 : Obj} {X : List (Addr × Obj)} (n0 : @Ne Nat a4 D) (n1 : @Ne Nat a1 a4) (n2 : @Ne Nat a2 a4) (n3 : @Ne Nat a3 a4) (hX : ∀ p ∈ X, @Ne Nat p.1 a4) : ∀ p ∈ (D, od) :: (a3, o3) :: (a2, o2) :: (a1, o1) :: X, p.1 ≠ a4 :=
  List.forall_mem_cons.mpr ⟨Ne.symm n0, List.forall_mem_cons.mpr ⟨n3, List.forall_mem_cons.mpr ⟨n2, List.forall_mem_cons.mpr ⟨n1, hX⟩⟩⟩⟩
theorem seg6_state {h₀ h : Heap} {L a1 a2 a3 a4 D : Addr} {oM oP oT oC : Obj} {tv : List Value} {X : List (Addr × Obj)} (N : News h₀ L h ((a4, oP) :: (D, LCg.lst tv) :: (a3, oM) :: (a2, oT) :: (a1, oC) :: X)) (dP : oP.data = .cell (some (.ref D))) :
    ∃ pr X7, News h₀ L h ((a3, oM) :: (a4, oP) :: (a2, oT) :: (a1, oC) :: X7) ∧ oP.data = .cell (some (.ref pr)) ∧ (pr, LCg.lst tv) ∈ X7 ∧ ∀ p ∈ X, p ∈ X7 :=
  ⟨D, (D, LCg.lst tv) :: X, cb_drop N (by intro p hp; simp only [List.mem_cons] at hp ⊢; rcases hp with h | h | h | h | h | h <;> simp [h]), dP, List.mem_cons_self, fun p hp => List.mem_cons_of_mem _ hp⟩
structure DueJ (base : List (Addr × Obj)) (es : List Dat) (qs : List (Option Int)) (i : Nat) (ys : List Value) (nx : List (Addr × Obj)) : Prop where
  out : ∃ tl, nx = tl ++ base ∧ DatAll tl ys ((es.take i).map (pickL qs))
theorem DueJ.start {base : List (Addr × Obj)} {es : List Dat} {qs : List (Option Int)} : DueJ base es qs 0 [] base := ⟨[], rfl, .nil⟩
def dueD (ds : List Dat) : Dat → Dat
  | .int i => pickE ds (some i)
  | _ => .none
theorem dueD_pl (ds : List Dat) (x : Option Int) : dueD ds (plD x) = pickE ds x := by cases x <;> rfl
theorem dueD_map (ds : List Dat) (qs : List (Option Int)) : (qs.map plD).map (dueD ds) = qs.map (pickE ds) := by
  rw [List.map_map]; exact List.map_congr_left fun x _ => dueD_pl ds x
theorem norm_mem {n : Int} {ps : List (Option Int)} {i : Int} (h : some i ∈ ps.map (norm n)) : some i ∈ ps ∧ i < n := by
  obtain ⟨x, hx, e⟩ := List.mem_map.mp h
  cases x with
  | none => cases e
  | some j =>
    simp only [norm] at e
    split at e
    · cases e; exact ⟨hx, by assumption⟩
    · cases e
theorem int_at {vs : List Value} {is : List Int} (h : IntsAre vs is) {k : Nat} (hk : k < is.length) : ∃ v t, vs[k]? = some v ∧ v = .int is[k] t := by
  induction h generalizing k with
  | nil => exact absurd hk (Nat.not_lt_zero _)
  | cons n t _ ih =>
    cases k with
    | zero => exact ⟨_, t, rfl, rfl⟩
    | succ k => exact ih (by simpa using hk)
theorem cell_end {h₀ h' : Heap} {L I C K D D2 : Addr} {m : Str → Option Value} {s₁ : Shared} {oI oC oK oD od : Obj} {rs : Value → List (Addr × Obj) → Prop} {y : Value} {tk : Nat} {nx : List (Addr × Obj)}
    (F : Fr h₀ L h' m) (N : News h₀ L h' ((D2, od) :: (I, oI) :: (C, oC) :: (K, oK) :: (D, oD) :: nx)) (off : Off4 I C K D nx) (o1 : @Ne Nat I D2 ∧ @Ne Nat C D2 ∧ @Ne Nat K D2 ∧ @Ne Nat D D2) (r : rs y ((D2, od) :: nx)) :
    CellEnd h₀ L m s₁ I oI C oC K oK D oD rs y { s₁ with heap := h', toks := tk } :=
  ⟨h', tk, (D2, od) :: nx, rfl, F, cb_drop N (by intro p hp; simp only [List.mem_cons] at hp ⊢; rcases hp with h | h | h | h | h | h <;> simp [h]), List.forall_mem_cons.mpr ⟨⟨Ne.symm o1.1, Ne.symm o1.2.1, Ne.symm o1.2.2.1, Ne.symm o1.2.2.2⟩, off⟩, r⟩
theorem due_int {is : List Int} {j : Int} {t : Tok} (h0 : 0 ≤ j) (h1 : j.toNat < is.length) : DatIn [] (.int (is[j.toNat]'h1) t) (dueD (is.map Dat.int) (plD (some j))) := by
  have e : dueD (is.map Dat.int) (plD (some j)) = Dat.int (is[j.toNat]'h1) := by
    rw [dueD_pl]
    simp only [pickE, List.length_map]
    rw [if_pos (by omega), List.getElem?_map, List.getElem?_eq_getElem h1]; rfl
  rw [e]; exact .int _ _
theorem norm_pick {n : Int} {ds : List Dat} (h : (ds.length : Int) = n) (x : Option Int) : pickE ds (norm n x) = pickE ds x := by
  cases x with
  | none => rfl
  | some i =>
    simp only [norm]
    by_cases hi : i < n
    · rw [if_pos hi]
    · rw [if_neg hi]; simp only [pickE]; rw [if_neg (by omega)]
theorem due_eq {n : Int} {es : List Dat} {ps : List (Option Int)} (h : ∀ e ∈ es, ColDat n e) : es.map (pickL (ps.map (norm n))) = es.map (pickL ps) := by
  refine List.map_congr_left fun e he => ?_
  obtain ⟨is, rfl, h1, _⟩ := h e he
  simp only [pickL, List.map_map]
  congr 1
  exact List.map_congr_left fun x _ => norm_pick (by simpa using h1) x
theorem DueJ.snoc {base tl : List (Addr × Obj)} {es : List Dat} {qs : List (Option Int)} {i : Nat} {zs uv : List Value} {D : Addr} {ds : List Dat} (h : DatAll tl zs ((es.take i).map (pickL qs))) (he : es[i]? = some (Dat.list ds)) (hu : DatAll [] uv (qs.map (pickE ds))) :
    DueJ base es qs (i + 1) (zs ++ [.ref D]) ((D, LCg.lst uv) :: (tl ++ base)) := by
  refine ⟨(D, LCg.lst uv) :: tl, rfl, ?_⟩
  rw [List.take_add_one, he, List.map_append]
  exact (h.mono (fun p hp => List.mem_cons_of_mem _ hp)).append (.one (.list List.mem_cons_self (hu.mono (by simp))))
theorem seg7_pack {h₀ h : Heap} {L : Addr} {x A B C D : Addr × Obj} {tl X : List (Addr × Obj)} (N : News h₀ L h (x :: (tl ++ A :: B :: C :: D :: X))) :
    ∃ X8, News h₀ L h (A :: B :: C :: D :: X8) ∧ x ∈ X8 ∧ (∀ p ∈ tl, p ∈ X8) ∧ ∀ p ∈ X, p ∈ X8 :=
  ⟨x :: (tl ++ X), cb_drop N (by intro p hp; simp only [List.mem_cons, List.mem_append] at hp ⊢; rcases hp with h | h | h | h | h | h | h <;> simp [h]), List.mem_cons_self, fun p hp => by simp [hp], fun p hp => by simp [hp]⟩
theorem news_tail {h₀ h : Heap} {L : Addr} {x : Addr × Obj} {X : List (Addr × Obj)} (N : News h₀ L h (x :: X)) : News h₀ L h X := fun p hp => N p (List.mem_cons_of_mem _ hp)



def If8Post (h₀ : Heap) (L : Addr) (news : List (Addr × Obj)) (f D : Addr) (s : Shared) (fl : Flow) (s' : Shared) : Prop :=
  ∃ h' tk', ∃ m' : Str → Option Value, fl = .next ∧ s' = { s with heap := h', toks := tk' } ∧ Fr h₀ L h' (fun y => if y = Str.ofString "df" then some (.ref f) else if y = Str.ofString "columns" then some (.ref D) else m' y) ∧ News h₀ L h' news
theorem if8_join {prog : Program} {w : World} {A : Around} {E : Value → Shared → Prop} {s : Shared} {c : Sem Flow} {Q : Flow → Shared → Prop} {h₀ : Heap} {L : Addr} {m : Str → Option Value} {news : List (Addr × Obj)} (f D : Addr)
    (F : Fr h₀ L s.heap m) (N : News h₀ L s.heap news)
    (walk : wpAny (model prog w) A c (If8Post h₀ L news f D s) E s)
    (rest : ∀ h' tk' (m' : Str → Option Value), Fr h₀ L h' (fun y => if y = Str.ofString "df" then some (.ref f) else if y = Str.ofString "columns" then some (.ref D) else m' y) → News h₀ L h' news → Q .next { s with heap := h', toks := tk' }) :
    wpAny (model prog w) A c Q E s := by
  refine wpAny_mono walk ?_ (fun _ _ e => e)
  rintro f s' ⟨h', tk', m', rfl, rfl, F, N⟩
  exact rest h' tk' m' F N
theorem fr_pick {h₀ h : Heap} {L : Addr} {a b : Str} {va vb : Value} {m : Str → Option Value} (F : Fr h₀ L h m) (ha : m a = some va) (hb : m b = some vb) : ∃ m' : Str → Option Value, Fr h₀ L h (fun y => if y = a then some va else if y = b then some vb else m' y) := by
  refine ⟨m, fr_eq F (fun y => ?_)⟩
  by_cases h1 : y = a
  · subst h1; simp [ha]
  · by_cases h2 : y = b
    · subst h2; simp [hb, h1]
    · simp [h1, h2]
def CondPost (h₀ : Heap) (L : Addr) (m : Str → Option Value) (news : List (Addr × Obj)) (b : Bool) (s : Shared) (b' : Bool) (s' : Shared) : Prop :=
  ∃ h' tk', b' = b ∧ s' = { s with heap := h', toks := tk' } ∧ Fr h₀ L h' m ∧ News h₀ L h' news
theorem cond_join {prog : Program} {w : World} {A : Around} {E : Value → Shared → Prop} {s : Shared} {c : Sem Bool} {Q : Bool → Shared → Prop} {h₀ : Heap} {L : Addr} {m : Str → Option Value} {news : List (Addr × Obj)} (b : Bool)
    (F : Fr h₀ L s.heap m) (N : News h₀ L s.heap news)
    (walk : wpAny (model prog w) A c (CondPost h₀ L m news b s) E s)
    (rest : ∀ h' tk', Fr h₀ L h' m → News h₀ L h' news → Q b { s with heap := h', toks := tk' }) :
    wpAny (model prog w) A c Q E s := by
  refine wpAny_mono walk ?_ (fun _ _ e => e)
  rintro f s' ⟨h', tk', rfl, rfl, F, N⟩
  exact rest h' tk' F N
section
variable {prog : Program} {w : World} {A : Around} {h₀ : Heap} {L : Addr} {m : Str → Option Value} {env : Env} {ct elt : PySem.Expr} {x : Str} {scope : Scope} {cl : List (Str × Addr)} {s : Shared} {S : List (Addr × Obj) → Prop} {P : Nat → Value → Prop} {Fin : List Value → List (Addr × Obj) → Prop} {news : List (Addr × Obj)}
/-- a block's turns, with a test, by what holds of what was made -/
theorem comp_ledT {n : Nat} (J : Nat → List Value → List (Addr × Obj) → Prop) (h0 : J 0 [] news)
    (turn : ∀ i v nx I oI C oC D m₂ ys h tk (E' : Value → Shared → Prop), i < n → P i v → J i ys nx → LCg.NsObj oC m₂ → m₂ x = some v → Fr h₀ L h m → News h₀ L h ((I, oI) :: (C, oC) :: (D, LCg.lst ys) :: nx) → LCg.Off3 I C D nx → ((@Ne Nat I C) ∧ (@Ne Nat I D) ∧ (@Ne Nat C D)) →
      wpAny (model prog w) A (isTrue ct (compEnvC scope cl C env) (eval ct (compEnvC scope cl C env))) (fun ok s' => if ok = true then
        wpAny (model prog w) A (eval elt (compEnvC scope cl C env)) (LCg.CompEnd h₀ L m { s with heap := h, toks := tk } I oI C oC D (LCg.lst ys) S (fun y nx' => J (i + 1) (ys ++ [y]) nx')) E' s'
        else LCg.CompEnd h₀ L m { s with heap := h, toks := tk } I oI C oC D (LCg.lst ys) S (fun _ nx' => J (i + 1) ys nx') Value.none s') E' { s with heap := h, toks := tk })
    (fin : ∀ ys nx, J n ys nx → Fin ys nx) : LCt.CompRestT prog w A h₀ L m env ct elt x scope cl s S P Fin n 0 [] news := by
  have key : ∀ (j i : Nat) (ys : List Value) nx, i + j = n → J i ys nx → LCt.CompRestT prog w A h₀ L m env ct elt x scope cl s S P Fin j i ys nx := by
    intro j
    induction j with
    | zero => intro i ys nx hi hy; have e : i = n := by omega
              subst e; exact LCt.CompRestT.zero (fin ys nx hy)
    | succ j ih =>
      intro i ys nx hi hy
      refine LCt.CompRestT.succ ?_
      intro v I oI C oC D m₂ h tk E' hv hC hx F N off ne
      refine wpAny_mono (turn i v nx I oI C oC D m₂ ys h tk E' (by omega) hv hy hC hx F N off ne) (fun ok s₂ hq => ?_) fun _ _ e => e
      cases ok with
      | true =>
        simp only [if_true] at hq ⊢
        refine wpAny_mono hq (fun y s₂ hq => ?_) fun _ _ e => e
        obtain ⟨h', tk', nw, e, F', N', off', hS, hJ⟩ := hq
        exact ⟨h', tk', nw, e, F', N', off', hS, ih (i + 1) _ _ (by omega) hJ⟩
      | false =>
        simp only [Bool.false_eq_true, if_false] at hq ⊢
        obtain ⟨h', tk', nw, e, F', N', off', hS, hJ⟩ := hq
        exact ⟨h', tk', nw, e, F', N', off', hS, ih (i + 1) _ _ (by omega) hJ⟩
  exact key n 0 [] news (by omega) h0
theorem eq_pl {A : Around} {s : Shared} {v y : Value} {x q : Option Int} (hy : DatIn [] y (plD q)) (hv : DatIn [] v (plD x)) : SeqAt.EqAt A s y v (decide (q = x)) := by
  cases q with
  | none =>
    cases hy
    cases x with
    | none => cases hv; exact fun prog w E Q h => eqBool_none_none (by simpa using h)
    | some i => cases hv; exact fun prog w E Q h => eqBool_none_int (by simpa using h)
  | some j =>
    cases hy
    cases x with
    | none => cases hv; exact fun prog w E Q h => eqBool_int_none (by simpa using h)
    | some i =>
      cases hv
      exact fun prog w E Q h => wpAny_eqBool_int (by have e : (j == i) = decide (some j = some i) := by { by_cases h : j = i <;> simp [h] }
                                                     rw [e]; exact h)
theorem isPl_eq {y : Value} {x q : Option Int} (h1 : DatIn [] y (plD q)) : isPl x y = decide (q = x) := by
  cases q with
  | none => cases h1; cases x <;> simp [isPl, Value.isInt]
  | some j =>
    cases h1
    cases x with
    | none => simp [isPl]
    | some i =>
      simp only [isPl, Value.isInt, Option.some.injEq]
      by_cases h : j = i
      · subst h; simp
      · simp [h]
theorem count_at {s : Shared} {A : Around} {v : Value} {x : Option Int} (hv : DatIn [] v (plD x)) : ∀ {vs : List Value} {qs : List (Option Int)}, DatAll [] vs (qs.map plD) →
    ∃ e : Value → Bool, (∀ y ∈ vs, SeqAt.EqAt A s y v (e y)) ∧ vs.countP e = qs.count x := by
  intro vs qs h
  refine ⟨isPl x, ?_, ?_⟩
  · induction qs generalizing vs with
    | nil => cases h; simp
    | cons q qs ih =>
      cases h with
      | cons h1 h2 =>
        intro y hy
        rcases List.mem_cons.mp hy with rfl | hy
        · have := eq_pl (A := A) (s := s) h1 hv
          rw [isPl_eq h1]; exact this
        · exact ih h2 y hy
  · induction qs generalizing vs with
    | nil => cases h; rfl
    | cons q qs ih =>
      cases h with
      | cons h1 h2 =>
        rw [List.countP_cons, List.count_cons, ih h2, isPl_eq h1]
        congr 1
        by_cases h : q = x <;> simp [h]
theorem count_pl {E : Value → Shared → Prop} {l : Addr} {vs : List Value} {qs : List (Option Int)} {x : Option Int} {v : Value} {Q : Value → Shared → Prop} (hl : s.heap.IsList l vs.toArray) (hd : DatAll [] vs (qs.map plD)) (hv : DatIn [] v (plD x))
    (h : Q (.int (qs.count x : Nat) s.toks) { s with toks := s.toks + 1 }) : wpAny (model prog w) A (call (.builtin "list.count") [.ref l, v]) Q E s := by
  obtain ⟨⟨cls, dd, data, sl⟩, ho, hc, n, hd'⟩ := id hl
  simp only at hc hd'
  subst hc hd'
  obtain ⟨e, he, hn⟩ := count_at (s := s) (A := A.in1) hv hd
  refine call_meets PySem.F.slot_list_count ⟨_, ho, rfl⟩ PySem.F.entry_list_count (PySem.F.args_list_count_2 _ _) (SeqAt.list_countAt l vs.toArray n dd sl v e) ⟨ho, fun y hy => he y (by simpa using hy), ?_⟩
  rw [show vs.toArray.toList = vs from rfl, hn]
  exact h
end
theorem none_pl {n : Int} {ps : List (Option Int)} : Dat.none ∈ (ps.map (norm n)).map plD ↔ none ∈ ps.map (norm n) := by
  constructor
  · intro h
    obtain ⟨x, hx, e⟩ := List.mem_map.mp h
    cases x with
    | none => exact hx
    | some i => cases e
  · intro h
    exact List.mem_map.mpr ⟨none, h, rfl⟩
theorem norm_none {n : Int} {ps : List (Option Int)} : none ∈ ps.map (norm n) ↔ none ∈ ps ∨ ∃ j, some j ∈ ps ∧ n ≤ j := by
  constructor
  · intro h
    obtain ⟨x, hx, e⟩ := List.mem_map.mp h
    cases x with
    | none => exact .inl hx
    | some i =>
      simp only [norm] at e
      split at e
      · cases e
      · exact .inr ⟨i, hx, by omega⟩
  · rintro (h | ⟨j, h, hj⟩)
    · exact List.mem_map.mpr ⟨none, h, rfl⟩
    · exact List.mem_map.mpr ⟨some j, h, if_neg (by omega)⟩
theorem norm_id {n : Int} {ps : List (Option Int)} (h : none ∉ ps.map (norm n)) : ps.map (norm n) = ps := by
  conv => rhs; rw [← List.map_id ps]
  refine List.map_congr_left fun x hx => ?_
  have h := fun e => h (norm_none.mpr e)
  cases x with
  | none => exact absurd (.inl hx) h
  | some i =>
    simp only [norm, id]
    rw [if_pos]
    rcases Int.lt_or_le i n with h' | h'
    · exact h'
    · exact absurd (.inr ⟨i, hx, h'⟩) h
theorem lacks_iff {n : Int} {ps : List (Option Int)} (h : none ∉ ps.map (norm n)) : LacksP n ps ↔ ¬ (ps.map (norm n)).Nodup := by
  have e := norm_id h
  rw [e]
  have h := fun e => h (norm_none.mpr e)
  constructor
  · rintro (a | a | a)
    · exact absurd (.inl a) h
    · exact absurd (.inr a) h
    · exact a
  · exact fun a => .inr (.inr a)
theorem lacks_none {n : Int} {ps : List (Option Int)} (h : none ∈ ps.map (norm n)) : LacksP n ps := by
  rcases norm_none.mp h with h | h
  · exact .inl h
  · exact .inr (.inl h)
/-- the picks that stand more than once -/
def dups (qs : List (Option Int)) (k : Nat) : List (Option Int) := (qs.take k).filter fun p => decide (1 < qs.count p)
theorem dups_nil {qs : List (Option Int)} : dups qs qs.length = [] ↔ qs.Nodup := by
  unfold dups
  rw [List.take_length, List.filter_eq_nil_iff, List.nodup_iff_count]
  constructor
  · intro h a
    by_cases ha : a ∈ qs
    · have := h a ha; simp at this; exact this
    · rw [List.count_eq_zero_of_not_mem ha]; omega
  · intro h a _
    have := h a; simp; exact this
theorem dups_yes {qs : List (Option Int)} {i : Nat} {p : Option Int} (h : qs[i]? = some p) (hp : 1 < qs.count p) : (dups qs (i + 1)).length = (dups qs i).length + 1 := by
  unfold dups
  rw [List.take_add_one, h, List.filter_append]; simp [hp]
theorem dups_no {qs : List (Option Int)} {i : Nat} {p : Option Int} (h : qs[i]? = some p) (hp : ¬ 1 < qs.count p) : dups qs (i + 1) = dups qs i := by
  unfold dups
  rw [List.take_add_one, h, List.filter_append]; simp [hp]
theorem pl_at {qs : List (Option Int)} {i : Nat} {d : Dat} (h : (qs.map plD)[i]? = some d) : ∃ p, qs[i]? = some p ∧ d = plD p := by
  rw [List.getElem?_map] at h
  cases hq : qs[i]? with
  | none => rw [hq] at h; cases h
  | some p => rw [hq] at h; exact ⟨p, rfl, (Option.some.inj h).symm⟩
theorem pl_ok {qs : List (Option Int)} : ∀ d ∈ qs.map plD, kqdOk 8 d = true := by
  intro d hd
  obtain ⟨p, _, rfl⟩ := List.mem_map.mp hd
  cases p <;> rfl
theorem lacks_bool (n : Int) (ps : List (Option Int)) : ∃ b : Bool, (b = true ↔ ¬ LacksP n ps) := by
  by_cases h : LacksP n ps
  · exact ⟨false, by simp [h]⟩
  · exact ⟨true, by simp [h]⟩
section
variable {prog : Program} {w : World} {A : Around} {E : Value → Shared → Prop} {s : Shared} {h₀ : Heap} {L a : Addr} {news : List (Addr × Obj)} {tv : List Value} {k : Nat} {Q : Value → Shared → Prop}
theorem plD_mem {x : Option Int} {qs : List (Option Int)} : plD x ∈ qs.map plD ↔ x ∈ qs := by
  constructor
  · intro h; obtain ⟨y, hy, e⟩ := List.mem_map.mp h; exact plD_inj e ▸ hy
  · exact fun h => List.mem_map.mpr ⟨x, h, rfl⟩
theorem dec_is (p : Prop) {inst : Decidable p} (b : Bool) (h : b = true ↔ ¬ p) : (!(@decide p inst)) = b := by
  by_cases hp : p
  · rw [decide_eq_true hp]; exact (Bool.eq_false_iff.mpr fun x => h.mp x hp).symm
  · rw [decide_eq_false hp]; exact (h.mpr hp).symm
theorem notin_none {qs : List (Option Int)} (N : News h₀ L s.heap news) (ma : (a, listOf tv.toArray k) ∈ news) (hd : DatAll [] tv (qs.map plD)) (hu : A.units + 64 < cLine) (b : Bool) (hb : b = true ↔ none ∉ qs) (h : Q (.bool b) s) :
    wpAny (model prog w) A (compareOp .NotIn .none (.ref a)) Q E s := by
  refine kqd_notIn (oa := listOf tv.toArray k) N ma rfl rfl hd (by simp) (DatIn.none (news := [])) (by simp) pl_ok rfl hu ?_
  rw [dec_is _ b (by rw [hb]; exact not_congr (plD_mem (x := none)).symm)]; exact h
theorem notin_str {xs : List Str} {x : Str} {t : Tok} (N : News h₀ L s.heap news) (ma : (a, listOf tv.toArray k) ∈ news) (hd : DatAll [] tv (xs.map Dat.str)) (hk : ∀ x ∈ xs, PyData.strOk x = true) (hx : PyData.strOk x = true) (hu : A.units + 64 < cLine) (b : Bool) (hb : b = true ↔ x ∉ xs) (h : Q (.bool b) s) :
    wpAny (model prog w) A (compareOp .NotIn (.str x t) (.ref a)) Q E s := by
  refine kqd_notIn (oa := listOf tv.toArray k) N ma rfl rfl hd (by simp) (DatIn.str (news := []) x t) (by simp) (fun d hd => ?_) (by exact hx) hu ?_
  · obtain ⟨y, hy, rfl⟩ := List.mem_map.mp hd; exact hk y hy
  rw [dec_is _ b (by
    rw [hb]
    refine not_congr ⟨fun h => List.mem_map.mpr ⟨x, h, rfl⟩, fun h => ?_⟩
    obtain ⟨y, hy, e⟩ := List.mem_map.mp h; cases e; exact hy)]
  exact h
end
theorem meth_count {prog : Program} {w : World} {A : Around} {E' : Value → Shared → Prop} {s : Shared} {h₀ : Heap} {L a : Addr} {news : List (Addr × Obj)} {tv : List Value} {k : Nat} {pl : Sem Bool} {Q : Value × List Value → Shared → Prop}
    (N : News h₀ L s.heap news) (ma : (a, listOf tv.toArray k) ∈ news) (h : Q (.builtin "list.count", [.ref a]) s) :
    wpAny (model prog w) A (getMethod (.ref a) (Str.ofString "count") pl) Q E' s := by
  have hl : s.heap.IsList a tv.toArray := ⟨_, (N _ ma).1, rfl, k, rfl⟩
  exact getMethod_list_of PySem.F.slot_list_count PySem.F.type_list_count hl ⟨_, (N _ ma).1, rfl⟩ h
theorem dups_le {qs : List (Option Int)} {i : Nat} : (dups qs i).length ≤ qs.length := by
  unfold dups
  exact Nat.le_trans (List.length_filter_le _ _) (by rw [List.length_take]; omega)
theorem cond_yes {b : Bool} {n : Int} {ps : List (Option Int)} {k : Nat} (hb : b = true ↔ ¬ LacksP n ps) (hnn : none ∉ ps.map (norm n)) (hk : k = (dups (ps.map (norm n)) (ps.map (norm n)).length).length) (h0 : k = 0) : true = b := by
  refine (hb.mpr fun hl => (lacks_iff hnn).mp hl (dups_nil.mp (List.length_eq_zero_iff.mp ?_))).symm
  omega
theorem cond_no {b : Bool} {n : Int} {ps : List (Option Int)} {k : Nat} (hb : b = true ↔ ¬ LacksP n ps) (hnn : none ∉ ps.map (norm n)) (hk : k = (dups (ps.map (norm n)) (ps.map (norm n)).length).length) (h0 : k ≠ 0) : false = b := by
  refine (Bool.eq_false_iff.mpr fun e => hb.mp e ((lacks_iff hnn).mpr fun hd => h0 ?_)).symm
  rw [hk, dups_nil.mpr hd]; rfl
theorem pick_at {mv : List Value} {md : List Dat} (h : DatAll [] mv md) {j : Int} (h0 : 0 ≤ j) (h1 : j < md.length) : ∃ v, mv[j.toNat]? = some v ∧ DatIn [] v (dueD md (plD (some j))) := by
  obtain ⟨v, hv, hd⟩ := h.get (k := j.toNat) (by omega)
  refine ⟨v, hv, ?_⟩
  rw [dueD_pl]
  simp only [pickE]
  rw [if_pos h1, List.getElem?_eq_getElem (by omega)]
  exact hd
theorem pickE_norm {n : Int} {md : List Dat} (h : (md.length : Int) = n) (ps : List (Option Int)) : (ps.map (norm n)).map (pickE md) = ps.map (pickE md) := by
  rw [List.map_map]; exact List.map_congr_left fun x _ => norm_pick h x



theorem text_front (a b : Str) {j : Int} (hj : j = a.length) : Txt.slice (a ++ b) none (some j) = a := by
  rw [eq_of_beq (slice_closes_toL (by omega) (by rw [Str.length_append]; omega))]
  refine Str.ext' ?_
  have h1 : (j - 0).toNat = a.cps.toList.length := by rw [Array.length_toList]; show _ = a.length; omega
  rw [h1, show ((0 : Int).toNat) = 0 from rfl, List.drop_zero, Str.cps_append, Array.toList_append, List.take_left', Array.toArray_toList]
  rfl
theorem text_back (a b : Str) {j : Int} (hj : j = a.length) : Txt.slice (a ++ b) (some j) none = b := by
  rw [eq_of_beq (slice_closes_fromL (by omega) (by rw [Str.length_append]; omega) rfl)]
  refine Str.ext' ?_
  have h1 : j.toNat = a.cps.toList.length := by rw [Array.length_toList]; show _ = a.length; omega
  have h2 : (((a ++ b).length : Int) - j).toNat = b.cps.toList.length := by rw [Array.length_toList]; show _ = b.length; rw [Str.length_append]; omega
  rw [h1, h2, Str.cps_append, Array.toList_append, List.drop_left', List.take_length, Array.toArray_toList]
  rfl
def nameD (lt : List Str) : Dat → Dat
  | .int i => .str (foundT lt (some i))
  | _ => .str (foundT lt none)
theorem nameD_pl (lt : List Str) (x : Option Int) : nameD lt (plD x) = .str (foundT lt x) := by cases x <;> rfl
theorem foundT_norm {n : Int} {lt : List Str} (h : (lt.length : Int) = n) (x : Option Int) : foundT lt (norm n x) = foundT lt x := by
  cases x with
  | none => rfl
  | some i =>
    simp only [norm]
    by_cases hi : i < n
    · rw [if_pos hi]
    · rw [if_neg hi]; simp only [foundT]; rw [if_neg (by omega)]
theorem nameD_map {n : Int} {lt : List Str} (h : (lt.length : Int) = n) (ps : List (Option Int)) : ((ps.map (norm n)).map plD).map (nameD lt) = (ps.map (foundT lt)).map Dat.str := by
  rw [List.map_map, List.map_map, List.map_map]
  refine List.map_congr_left fun x _ => ?_
  show nameD lt (plD (norm n x)) = _
  rw [nameD_pl, foundT_norm h]; rfl
theorem name_at {kd : Str} {md : List Dat} {lt : List Str} {mv : List Value} (hL : LabOk kd md lt) (hm : DatAll [] mv md) {j : Int} (h0 : 0 ≤ j) (h1 : j < mv.length) :
    ∃ v, mv[j.toNat]? = some v ∧ ((∃ k t, v = .int k t ∧ foundT lt (some j) = Str.ofString (toString k) ∧ 0 ≤ k ∧ k ≤ 1000) ∨ ∃ x t, v = .str x t ∧ foundT lt (some j) = x) := by
  have hl := hL.len
  have hml := hm.length
  obtain ⟨v, hv, hd⟩ := hm.get (k := j.toNat) (by omega)
  refine ⟨v, hv, ?_⟩
  have hf : foundT lt (some j) = (lt[j.toNat]?).getD (Str.ofString "NA") := by
    simp only [foundT]; rw [if_pos (by omega)]
  cases hL with
  | int is hi =>
    have hk : j.toNat < is.length := by have e : (List.map Dat.int is).length = is.length := List.length_map _; omega
    left
    simp only [List.getElem_map] at hd
    cases hd with
    | int k t =>
      refine ⟨_, _, rfl, ?_, (hi _ (List.getElem_mem hk)).1, (hi _ (List.getElem_mem hk)).2⟩
      rw [hf, List.getElem?_map, List.getElem?_eq_getElem hk]; rfl
  | str xs =>
    have hk : j.toNat < lt.length := by omega
    right
    simp only [List.getElem_map] at hd
    cases hd with
    | str x t =>
      refine ⟨_, _, rfl, ?_⟩
      rw [hf, List.getElem?_eq_getElem hk]; rfl
theorem strs_of {L : List (Addr × Obj)} : ∀ {vs : List Value} {xs : List Str}, DatAll L vs (xs.map Dat.str) → StrsAre vs xs
  | [], [], _ => .nil
  | _ :: _, _ :: _, .cons (.str _ _) r => .cons _ _ (strs_of r)
theorem str_at {L : List (Addr × Obj)} {vs : List Value} {xs : List Str} (h : DatAll L vs (xs.map Dat.str)) {k : Nat} (hk : k < xs.length) : ∃ t, vs[k]? = some (.str xs[k] t) := by
  obtain ⟨v, hv, hd⟩ := h.get (k := k) (by simpa using hk)
  simp only [List.getElem_map] at hd
  cases hd with
  | str x t => exact ⟨t, hv⟩
theorem countP_str (k : Str) : ∀ {vs : List Value} {xs : List Str}, StrsAre vs xs → vs.countP (isStrOf k) = xs.count k
  | _, _, .nil => rfl
  | _, _, .cons n u h => by
    rw [List.countP_cons, List.count_cons, countP_str k h]
    rfl
section
variable {prog : Program} {w : World} {A : Around} {E : Value → Shared → Prop} {s : Shared}
theorem count_str {l : Addr} {vs : List Value} {xs : List Str} {x : Str} {t : Tok} {Q : Value → Shared → Prop} (hl : s.heap.IsList l vs.toArray) (hi : StrsAre vs xs)
    (h : Q (.int (xs.count x : Nat) s.toks) { s with toks := s.toks + 1 }) : wpAny (model prog w) A (call (.builtin "list.count") [.ref l, .str x t]) Q E s := by
  obtain ⟨⟨cls, dd, data, sl⟩, ho, hc, n, hd⟩ := id hl
  simp only at hc hd
  subst hc hd
  refine call_meets PySem.F.slot_list_count ⟨_, ho, rfl⟩ PySem.F.entry_list_count (PySem.F.args_list_count_2 _ _) (SeqAt.list_countAt l vs.toArray n dd sl (.str x t) (isStrOf x)) ⟨ho, fun y hy => (eq_isStrOf x t hi y (by simpa using hy)).at _ _, ?_⟩
  rw [show vs.toArray.toList = vs from rfl, countP_str x hi]
  exact h
end



theorem num_ok {n : Int} (h0 : 0 ≤ n) : PyData.strOk (Str.ofString (toString n)) = true := by
  obtain ⟨k, rfl⟩ := Int.eq_ofNat_of_zero_le h0
  unfold PyData.strOk
  rw [← Array.all_toList, KIN.signs_num, List.all_eq_true]
  intro c hc
  obtain ⟨ch, hch, rfl⟩ := List.mem_map.mp hc
  have hd := digit_range (Nat.isDigit_of_mem_toDigits (by omega) (by omega) hch)
  exact decide_eq_true (by omega)
theorem foundT_mem (lt : List Str) (x : Option Int) : foundT lt x = Str.ofString "NA" ∨ foundT lt x ∈ lt := by
  cases x with
  | none => exact .inl rfl
  | some i =>
    simp only [foundT]
    split
    · cases h : lt[i.toNat]? with
      | none => exact .inl rfl
      | some y => exact .inr (List.mem_of_getElem? h)
    · exact .inl rfl
theorem lab_ok {kd : Str} {md : List Dat} {lt : List Str} (h : LabOk kd md lt) (hk : ∀ d ∈ md, kqdOk 0 d = true) : ∀ x ∈ lt, PyData.strOk x = true := by
  intro x hx
  cases h with
  | int is hi =>
    obtain ⟨i, him, rfl⟩ := List.mem_map.mp hx
    exact num_ok (hi i him).1
  | str xs => exact hk _ (List.mem_map.mpr ⟨x, hx, rfl⟩)
theorem found_facts {kd : Str} {md : List Dat} {lt : List Str} (h : LabOk kd md lt) (hk : ∀ d ∈ md, kqdOk 0 d = true) (hs : ∀ x ∈ lt, x.length ≤ 10) (ps : List (Option Int)) : ∀ x ∈ ps.map (foundT lt), x.length ≤ 10 ∧ PyData.strOk x = true := by
  intro x hx
  obtain ⟨p, _, rfl⟩ := List.mem_map.mp hx
  rcases foundT_mem lt p with e | e
  · rw [e]; exact ⟨by decide, by decide +kernel⟩
  · exact ⟨hs _ e, lab_ok h hk _ e⟩
/-- the names of the picked rows, as the law asks of them -/
structure NamesOk (xs us : List Str) : Prop where
  len : us.length = xs.length
  one : ∀ i (h : i < us.length), us.count us[i] = 1
  small : ∀ x ∈ xs, x.length ≤ 10
  ok : ∀ x ∈ xs, PyData.strOk x = true
  new : ∀ i (h : i < us.length) (h' : i < xs.length), xs[i] ∉ xs.take i → us[i] = xs[i]
  again : ∀ i (h : i < us.length) (h' : i < xs.length), xs[i] ∈ xs.take i → ∃ n : Int, 1 ≤ n ∧ n ≤ 1000 ∧ us[i] = xs[i] ++ Str.ofString "." ++ Str.ofString (toString n)
theorem NamesOk.of {xs us : List Str} (h : MuOk xs us) (hs : ∀ x ∈ xs, x.length ≤ 10 ∧ PyData.strOk x = true) : NamesOk xs us :=
  ⟨h.len, fun i hi => h.nd.count.trans (if_pos (List.getElem_mem hi)), fun x hx => (hs x hx).1, fun x hx => (hs x hx).2, fun i h1 h2 => (h.each i h2 h1).1, fun i h1 h2 => (h.each i h2 h1).2⟩
theorem fr_named {h₀ h : Heap} {L D : Addr} {x : Str} {m : Str → Option Value} {A : Addr × Obj} {o : Obj} {X : List (Addr × Obj)} (F : Fr h₀ L h (fun z => if z = x then some (.ref D) else m z)) (N : News h₀ L h ((D, o) :: X)) : ∃ D, Fr h₀ L h (fun z => if z = x then some (.ref D) else m z) ∧ News h₀ L h ((D, o) :: X) := ⟨D, F, N⟩



local macro_rules | `(tactic| k_qdec) => `(tactic| decide +kernel)
set_option maxRecDepth 100000 in
set_option maxHeartbeats 8000000 in
theorem said : Challenge.rw_pq1321_01.wellSaid = true := by
  unfold OpenLaw.wellSaid
  repeat' (with_reducible refine look_both ?_ ?_)
  all_goals (try (unfold OpenRow.wellSaid OpenRow.partSaid looksOpen; repeat' (with_reducible refine look_both ?_ ?_)))
  all_goals decide +kernel


















theorem range_dat {vs : List Value} {n : Nat} (h : IntsAre vs (rangeKs 0 n)) : DatAll [] vs (((rangeKs 0 n).map some).map plD) := by
  rw [List.map_map]; exact ints_dat h
theorem range_mem {i : Int} {n : Nat} (h : some i ∈ (rangeKs 0 n).map some) : 0 ≤ i ∧ i < n := by
  obtain ⟨j, hj, e⟩ := List.mem_map.mp h
  cases e
  have := mem_rangeKs hj
  omega
theorem range_at {n k : Nat} (h : k < n) : (rangeKs 0 n)[k]? = some (k : Int) := by simp [rangeKs, h]
theorem range_nodup (n : Nat) : ((rangeKs 0 n).map some).Nodup := by
  rw [rangeKs, List.map_map]
  exact List.Pairwise.map _ (by intro a b h e; simp at e; omega) List.nodup_range
theorem range_keeps {n : Nat} : ¬ LacksP (n : Int) ((rangeKs 0 n).map some) := by
  rintro (h | ⟨j, h, hj⟩ | h)
  · obtain ⟨j, _, e⟩ := List.mem_map.mp h; cases e
  · have := range_mem h; omega
  · exact h (range_nodup n)
theorem pickE_range (ds : List Dat) {n : Nat} (h : ds.length = n) : ((rangeKs 0 n).map some).map (pickE ds) = ds := by
  refine List.ext_getElem? fun k => ?_
  rw [List.getElem?_map, List.getElem?_map]
  by_cases hk : k < n
  · rw [range_at hk]
    simp only [Option.map_some, pickE]
    rw [if_pos (by omega), show ((k : Int)).toNat = k from rfl, List.getElem?_eq_getElem (by omega)]; rfl
  · rw [show (rangeKs 0 n)[k]? = none from List.getElem?_eq_none (by rw [rangeKs_length]; omega), List.getElem?_eq_none (by omega)]; rfl
theorem pickD_range (mv : List Value) {n : Nat} (h : mv.length = n) : (((rangeKs 0 n).map some).map plD).map (pickD mv) = mv := by
  refine List.ext_getElem? fun k => ?_
  rw [List.getElem?_map, List.getElem?_map, List.getElem?_map]
  by_cases hk : k < n
  · rw [range_at hk]
    simp only [Option.map_some, plD, pickD]
    rw [if_pos (by omega), show ((k : Int)).toNat = k from rfl, List.getElem?_eq_getElem (by omega)]; rfl
  · rw [show (rangeKs 0 n)[k]? = none from List.getElem?_eq_none (by rw [rangeKs_length]; omega), List.getElem?_eq_none (by omega)]; rfl
theorem pickL_range {es : List Dat} {n : Nat} (h : ∀ e ∈ es, ColDat (n : Int) e) : es.map (pickL ((rangeKs 0 n).map some)) = es := by
  conv => rhs; rw [← List.map_id es]
  refine List.map_congr_left fun e he => ?_
  obtain ⟨is, rfl, h1, _⟩ := h e he
  simp only [pickL, id]
  rw [pickE_range _ (by simpa using (by omega : is.length = n))]
theorem lab_all {kd kk : Str} {mv vals : List Value} {lt : List Str} {n : Nat} (hn : mv.length = n) (h : LabRes kd mv lt ((rangeKs 0 n).map some) kk vals) : kk = kd ∧ vals = mv := by
  rcases h with ⟨_, rfl, rfl⟩ | ⟨hl, _⟩
  · exact ⟨rfl, pickD_range mv hn⟩
  · rw [hn] at hl; exact absurd hl range_keeps







structure Hide (P : Prop) : Prop where
  out : P

set_option maxRecDepth 1000000 in
set_option maxHeartbeats 0 in
noncomputable def cut0 : PSigma fun P : Prop => Hide P → Challenge.rw_pq1321_01.Holds := by
  refine' ⟨_, fun kont => _⟩
  rotate_left
  focus
    w_on
    refine holds_law said fun said => ?_
    refine holds_open (q := q) (loose := lo) (Xt := fun s => xlAt q [] s && recOk (RowW.records Challenge.rw_pq1321_01.row.toRowW) s) (XP := XL q []) (Yf := (kHook K addrs as_eq).obs) (Ya := (kHook K addrs as_eq).val) (YP := (kHook K addrs as_eq).says) (N := 1800) left (kHook K addrs as_eq).of (kHook K addrs as_eq).keeps (fun s e => xl_of s (Bool.and_eq_true_iff.mp e).1) XL.keeps (by rfl) (by rfl) (by rfl) (fun s e => recFacts_of (Bool.and_eq_true_iff.mp e).2) (by rfl) said (by decide +kernel) ⟨rfl, rfl, rfl, rfl, rfl, by decide +kernel⟩ ?hw_pq30 ?hc_pq30
    case hw_pq30 => w_witness2
    clear said
    k_go0
    all_goals try k_fold
    (repeat' (first | (k_unfold; (try dsimp only)) | ((fail_if_success (first | (with_reducible show wpAny _ _ (setItem _ _ _) _ _ _) | (with_reducible show wpAny _ _ (call (Value.builtin "dict.get") _) _ _ _) | (with_reducible show wpAny _ _ (exec (Stmt.While _ _ _ _) _) _ _ _) | (with_reducible show wpAny _ _ (exec (Stmt.For _ _ _ _ _) _) _ _ _) | (with_reducible show wpAny _ _ (pyIter _) _ _ _) | (with_reducible show wpAny _ _ (call (Value.builtin "list.append") _) _ _ _) | (with_reducible show wpAny _ _ (eval (Expr.ListComp _ _ _ _) _) _ _ _) | (with_reducible show wpAny _ _ (exec (Stmt.Assign _ (Expr.ListComp _ _ _ _) _) _) _ _ _) | (with_reducible show wpAny _ _ (compareOp CmpOp.NotEq (Value.ref _) (Value.ref _)) _ _ _) | (with_reducible show wpAny _ _ (compareOp CmpOp.Eq (Value.ref _) (Value.ref _)) _ _ _) | (with_reducible show wpAny _ _ (call (Value.ref 308) _) _ _ _))); (first | walk1 | (dsimp only; walk1)))))
    first | with_reducible rename IntsAre _ _ => hI | rename IntsAre _ _ => hI
    first | with_reducible rename News _ _ _ _ => N0 | rename News _ _ _ _ => N0
    first | with_reducible rename Fr _ _ _ _ => F0 | rename Fr _ _ _ _ => F0
    rename Heap.IsList _ _ _ => hL
    rename ¬ (((63 : Nat) : Int) < _) => h63
    k_dflt (refine' cards_tell ?B_pq30 ?F_pq30 ?X_pq30 ?T_pq30 ?hk_pq30 ?hd_pq30 ?hu_pq30 N0 hL hI ?hn_pq30 ?_; (case B_pq30 => k_asm); (case F_pq30 => k_asm); (case X_pq30 => k_asm); (case T_pq30 => k_asm); (case hk_pq30 => exact rfl); (case hd_pq30 => ktr_room); (case hu_pq30 => ktr_units); (case hn_pq30 => omega))
    intro c cv ci ck h1 tk1 F1 N1 hlt hI1 hln1
    k_lt hlt
    (repeat' (first | (k_unfold; (try dsimp only)) | ((fail_if_success (first | (with_reducible show wpAny _ _ (setItem _ _ _) _ _ _) | (with_reducible show wpAny _ _ (call (Value.builtin "dict.get") _) _ _ _) | (with_reducible show wpAny _ _ (exec (Stmt.While _ _ _ _) _) _ _ _) | (with_reducible show wpAny _ _ (exec (Stmt.For _ _ _ _ _) _) _ _ _) | (with_reducible show wpAny _ _ (pyIter _) _ _ _) | (with_reducible show wpAny _ _ (call (Value.builtin "list.append") _) _ _ _) | (with_reducible show wpAny _ _ (eval (Expr.ListComp _ _ _ _) _) _ _ _) | (with_reducible show wpAny _ _ (exec (Stmt.Assign _ (Expr.ListComp _ _ _ _) _) _) _ _ _) | (with_reducible show wpAny _ _ (compareOp CmpOp.NotEq (Value.ref _) (Value.ref _)) _ _ _) | (with_reducible show wpAny _ _ (compareOp CmpOp.Eq (Value.ref _) (Value.ref _)) _ _ _) | (with_reducible show wpAny _ _ (call (Value.ref 315) _) _ _ _))); (first | walk1 | (dsimp only; walk1)))))
    first | with_reducible rename News _ _ _ _ => N5 | rename News _ _ _ _ => N5
    k_dflt (refine' card_tell ?B_pq30 ?F_pq30 ?X_pq30 ?T_pq30 ?hk_pq30 ?hd_pq30 ?hu_pq30 N5 ?hO_pq30 hI1 hln1 ?hm1_pq30 ?hm2_pq30 ?_; (case B_pq30 => k_asm); (case F_pq30 => k_asm); (case X_pq30 => k_asm); (case T_pq30 => k_asm); (case hk_pq30 => exact rfl); (case hd_pq30 => ktr_room); (case hu_pq30 => ktr_units); (case hm1_pq30 => omega); (case hm2_pq30 => omega))
    case hO_pq30 =>
      intro p hp b hb
      rw [List.mem_singleton.mp hb]
      simp only [List.mem_cons, List.not_mem_nil, or_false] at hp
      rcases hp with rfl | rfl | rfl | rfl <;> (refine neN ?_; dsimp only; omega)
    clear hI1 hln1
    intro r tr cv ck ci h1 tk1 r0 r1 hI1 hln1 F1 N1
    (repeat' (first | (k_unfold; (try dsimp only)) | ((fail_if_success (first | (with_reducible show wpAny _ _ (setItem _ _ _) _ _ _) | (with_reducible show wpAny _ _ (call (Value.builtin "dict.get") _) _ _ _) | (with_reducible show wpAny _ _ (exec (Stmt.While _ _ _ _) _) _ _ _) | (with_reducible show wpAny _ _ (exec (Stmt.For _ _ _ _ _) _) _ _ _) | (with_reducible show wpAny _ _ (pyIter _) _ _ _) | (with_reducible show wpAny _ _ (call (Value.builtin "list.append") _) _ _ _) | (with_reducible show wpAny _ _ (eval (Expr.ListComp _ _ _ _) _) _ _ _) | (with_reducible show wpAny _ _ (exec (Stmt.Assign _ (Expr.ListComp _ _ _ _) _) _) _ _ _) | (with_reducible show wpAny _ _ (compareOp CmpOp.NotEq (Value.ref _) (Value.ref _)) _ _ _) | (with_reducible show wpAny _ _ (compareOp CmpOp.Eq (Value.ref _) (Value.ref _)) _ _ _) | (with_reducible show wpAny _ _ (call (Value.ref 315) _) _ _ _))); (first | walk1 | (dsimp only; walk1)))))
    first | with_reducible rename News _ _ _ _ => N5 | rename News _ _ _ _ => N5
    k_dflt (refine' card_tell ?B_pq30 ?F_pq30 ?X_pq30 ?T_pq30 ?hk_pq30 ?hd_pq30 ?hu_pq30 N5 ?hO_pq30 hI1 hln1 ?hm1_pq30 ?hm2_pq30 ?_; (case B_pq30 => k_asm); (case F_pq30 => k_asm); (case X_pq30 => k_asm); (case T_pq30 => k_asm); (case hk_pq30 => exact rfl); (case hd_pq30 => ktr_room); (case hu_pq30 => ktr_units); (case hm1_pq30 => omega); (case hm2_pq30 => omega))
    case hO_pq30 =>
      intro p hp b hb
      rw [List.mem_singleton.mp hb]
      simp only [List.mem_cons, List.not_mem_nil, or_false] at hp
      rcases hp with rfl | rfl | rfl | rfl <;> (refine neN ?_; dsimp only; omega)
    clear hI1 hln1
    intro q tr cv ck ci h1 tk1 q0 q1 hI1 hln1 F1 N1
    (repeat' (first | (k_unfold; (try dsimp only)) | ((fail_if_success (first | (with_reducible show wpAny _ _ (setItem _ _ _) _ _ _) | (with_reducible show wpAny _ _ (call (Value.builtin "dict.get") _) _ _ _) | (with_reducible show wpAny _ _ (exec (Stmt.While _ _ _ _) _) _ _ _) | (with_reducible show wpAny _ _ (exec (Stmt.For _ _ _ _ _) _) _ _ _) | (with_reducible show wpAny _ _ (pyIter _) _ _ _) | (with_reducible show wpAny _ _ (call (Value.builtin "list.append") _) _ _ _) | (with_reducible show wpAny _ _ (eval (Expr.ListComp _ _ _ _) _) _ _ _) | (with_reducible show wpAny _ _ (exec (Stmt.Assign _ (Expr.ListComp _ _ _ _) _) _) _ _ _) | (with_reducible show wpAny _ _ (compareOp CmpOp.NotEq (Value.ref _) (Value.ref _)) _ _ _) | (with_reducible show wpAny _ _ (compareOp CmpOp.Eq (Value.ref _) (Value.ref _)) _ _ _) | (with_reducible show wpAny _ _ (compareOp CmpOp.In _ (Value.ref _)) _ _ _) | (with_reducible show wpAny _ _ (compareOp CmpOp.NotIn _ (Value.ref _)) _ _ _))); (first | walk1 | (dsimp only; walk1)))))
    first | with_reducible rename Fr _ _ _ _ => F2 | rename Fr _ _ _ _ => F2
    first | with_reducible rename News _ _ _ _ => N2 | rename News _ _ _ _ => N2
    rename (Obj.data _ = Data.cell (some (Value.int _ _))) => dT0
    rename (Obj.data _ = Data.cell (some (Value.ref c))) => dC
    obtain ⟨m0, F3⟩ := fr_any F2
    obtain ⟨tW, F3⟩ := fr_tok F3
    obtain ⟨oC, oT, oM, oP, tT, dC2, dT, dM, dP, N3⟩ := law_cells N2 dC dT0 (by k_asm) (by k_asm)
    clear F2 dT0 N2 dC
    k_dflt (refine LCg.Assign_ListComp_U (F₀ := by k_asm) (by rfl) (by with_unfolding_all rfl) (by with_unfolding_all rfl) (by decide) (by rfl) (by decide) (by rfl) (by rfl) (by rfl) ?_)
    (repeat' (first | (k_unfold; (try dsimp only)) | ((fail_if_success (first | (with_reducible show wpAny _ _ (setItem _ _ _) _ _ _) | (with_reducible show wpAny _ _ (call (Value.builtin "dict.get") _) _ _ _) | (with_reducible show wpAny _ _ (exec (Stmt.While _ _ _ _) _) _ _ _) | (with_reducible show wpAny _ _ (exec (Stmt.For _ _ _ _ _) _) _ _ _) | (with_reducible show wpAny _ _ (pyIter _) _ _ _) | (with_reducible show wpAny _ _ (call (Value.builtin "list.append") _) _ _ _) | (with_reducible show wpAny _ _ (eval (Expr.ListComp _ _ _ _) _) _ _ _) | (with_reducible show wpAny _ _ (exec (Stmt.Assign _ (Expr.ListComp _ _ _ _) _) _) _ _ _) | (with_reducible show wpAny _ _ (compareOp CmpOp.NotEq (Value.ref _) (Value.ref _)) _ _ _) | (with_reducible show wpAny _ _ (compareOp CmpOp.Eq (Value.ref _) (Value.ref _)) _ _ _) | (with_reducible show wpAny _ _ (compareOp CmpOp.In _ (Value.ref _)) _ _ _) | (with_reducible show wpAny _ _ (compareOp CmpOp.NotIn _ (Value.ref _)) _ _ _) | (with_reducible show LCg.CompSrc _ _ _ _ _ _ _ _ _ _ _ _ _ _) | (with_reducible show LCt.CompSrcT _ _ _ _ _ _ _ _ _ _ _ _ _ _ _))); (first | walk1 | (dsimp only; walk1)))))
    first | with_reducible rename IsRange _ _ _ _ _ _ _ _ => hR | rename IsRange _ _ _ _ _ _ _ _ => hR
    first | with_reducible rename News _ _ _ _ => N1 | rename News _ _ _ _ => N1
    first | with_reducible rename Fr _ _ _ _ => F1 | rename Fr _ _ _ _ => F1
    k_dflt (refine LCg.CompSrc.range (n := (1 + r - 0).toNat) (by rfl) F1 N1 hR (small_one (by omega) (by omega) (by omega) (by omega)) (rangeSize_nat _ _) (by rw [PySem.sizeLine_eq]; omega) ?_)
    intro g2
    refine' comp_led (ColJ c _ (1 + q)) (ColJ.start hI1 hln1) ?turn_pq31 ?fin_pq31
    case turn_pq31 =>
      clear N1 F1 hR hI1 hln1
      rintro i v nx I oI C oC D m₂ ys h tk E' hi hv ⟨⟨cv, ck, ci, tl, es, rfl, hI1, hln1, hoff, hrest, hda, hes, hcol⟩⟩ hC hx F1 N1 off ne
      k_dflt (refine LCg.ListComp_U (F₀ := by k_asm) (by with_unfolding_all rfl) (by decide) (by rfl) (by decide) (by rfl) ?_)
      (repeat' (first | (k_unfold; (try dsimp only)) | ((fail_if_success (first | (with_reducible show wpAny _ _ (setItem _ _ _) _ _ _) | (with_reducible show wpAny _ _ (call (Value.builtin "dict.get") _) _ _ _) | (with_reducible show wpAny _ _ (exec (Stmt.While _ _ _ _) _) _ _ _) | (with_reducible show wpAny _ _ (exec (Stmt.For _ _ _ _ _) _) _ _ _) | (with_reducible show wpAny _ _ (pyIter _) _ _ _) | (with_reducible show wpAny _ _ (call (Value.builtin "list.append") _) _ _ _) | (with_reducible show wpAny _ _ (eval (Expr.ListComp _ _ _ _) _) _ _ _) | (with_reducible show wpAny _ _ (exec (Stmt.Assign _ (Expr.ListComp _ _ _ _) _) _) _ _ _) | (with_reducible show wpAny _ _ (compareOp CmpOp.NotEq (Value.ref _) (Value.ref _)) _ _ _) | (with_reducible show wpAny _ _ (compareOp CmpOp.Eq (Value.ref _) (Value.ref _)) _ _ _) | (with_reducible show wpAny _ _ (compareOp CmpOp.In _ (Value.ref _)) _ _ _) | (with_reducible show wpAny _ _ (compareOp CmpOp.NotIn _ (Value.ref _)) _ _ _) | (with_reducible show LCg.CompSrc _ _ _ _ _ _ _ _ _ _ _ _ _ _) | (with_reducible show LCt.CompSrcT _ _ _ _ _ _ _ _ _ _ _ _ _ _ _))); (first | walk1 | (dsimp only; walk1)))))
      first | with_reducible rename IsRange _ _ _ _ _ _ _ _ => hR | rename IsRange _ _ _ _ _ _ _ _ => hR
      first | with_reducible rename News _ _ _ _ => N1 | rename News _ _ _ _ => N1
      first | with_reducible rename Fr _ _ _ _ => F1 | rename Fr _ _ _ _ => F1
      k_dflt (refine LCg.CompSrc.range (n := (1 + q - 0).toNat) (by rfl) F1 (news_rot3 N1) hR (small_one (by omega) (by omega) (by omega) (by omega)) (rangeSize_nat _ _) (by rw [PySem.sizeLine_eq]; omega) ?_)
      intro g3
      refine' comp_led (CellJ c _) (CellJ.start hI1 hln1) ?turn2_pq31 ?fin2_pq31
      case turn2_pq31 =>
        clear N1 F1 hR hI1 hln1
        rintro i v nx I2 oI2 C2 oC2 D2 m₂ zs h tk E' hi hv ⟨⟨cv, ck, ci, is, rfl, hI1, hln1, hzs, his, hib⟩⟩ hC hx F1 N1 off2 ne2
        (repeat' (first | (k_unfold; (try dsimp only)) | ((fail_if_success (first | (with_reducible show wpAny _ _ (setItem _ _ _) _ _ _) | (with_reducible show wpAny _ _ (call (Value.builtin "dict.get") _) _ _ _) | (with_reducible show wpAny _ _ (exec (Stmt.While _ _ _ _) _) _ _ _) | (with_reducible show wpAny _ _ (exec (Stmt.For _ _ _ _ _) _) _ _ _) | (with_reducible show wpAny _ _ (pyIter _) _ _ _) | (with_reducible show wpAny _ _ (call (Value.builtin "list.append") _) _ _ _) | (with_reducible show wpAny _ _ (eval (Expr.ListComp _ _ _ _) _) _ _ _) | (with_reducible show wpAny _ _ (exec (Stmt.Assign _ (Expr.ListComp _ _ _ _) _) _) _ _ _) | (with_reducible show wpAny _ _ (compareOp CmpOp.NotEq (Value.ref _) (Value.ref _)) _ _ _) | (with_reducible show wpAny _ _ (compareOp CmpOp.Eq (Value.ref _) (Value.ref _)) _ _ _) | (with_reducible show wpAny _ _ (call (Value.ref 315) _) _ _ _))); (first | walk1 | (dsimp only; walk1)))))
        first | with_reducible rename News _ _ _ _ => N5 | rename News _ _ _ _ => N5
        k_dflt (refine' card_tell ?B_pq31 ?F_pq31 ?X_pq31 ?T_pq31 ?hk_pq31 ?hd_pq31 ?hu_pq31 (news_rot3 N5) ?hO_pq31 hI1 hln1 ?hm1_pq31 ?hm2_pq31 ?_; (case B_pq31 => k_asm); (case F_pq31 => k_asm); (case X_pq31 => k_asm); (case T_pq31 => k_asm); (case hk_pq31 => exact rfl); (case hd_pq31 => ktr_room); (case hu_pq31 => ktr_units); (case hm1_pq31 => omega); (case hm2_pq31 => omega))
        case hO_pq31 =>
          refine own_out ?_
          intro p hp
          simp only [List.mem_cons, List.mem_append, List.not_mem_nil, or_false] at hp
          have o1 := off.1
          have o2 := off2.1
          rcases hp with rfl | rfl | rfl | rfl | rfl | rfl | hp | rfl | rfl | rfl | rfl
          · exact Ne.symm o2.1
          · exact Ne.symm o2.2.1
          · exact Ne.symm o2.2.2
          · exact Ne.symm o1.1
          · exact Ne.symm o1.2.1
          · exact Ne.symm o1.2.2
          · exact hoff p hp
          all_goals (refine neN ?_; dsimp only; omega)
        intro x tx cv' ck' ci' h' tk' x0 x1 hI2 hln2 F2 N2
        (repeat' (first | (k_unfold; (try dsimp only)) | ((fail_if_success (first | (with_reducible show wpAny _ _ (setItem _ _ _) _ _ _) | (with_reducible show wpAny _ _ (call (Value.builtin "dict.get") _) _ _ _) | (with_reducible show wpAny _ _ (exec (Stmt.While _ _ _ _) _) _ _ _) | (with_reducible show wpAny _ _ (exec (Stmt.For _ _ _ _ _) _) _ _ _) | (with_reducible show wpAny _ _ (pyIter _) _ _ _) | (with_reducible show wpAny _ _ (call (Value.builtin "list.append") _) _ _ _) | (with_reducible show wpAny _ _ (eval (Expr.ListComp _ _ _ _) _) _ _ _) | (with_reducible show wpAny _ _ (exec (Stmt.Assign _ (Expr.ListComp _ _ _ _) _) _) _ _ _) | (with_reducible show wpAny _ _ (compareOp CmpOp.NotEq (Value.ref _) (Value.ref _)) _ _ _) | (with_reducible show wpAny _ _ (compareOp CmpOp.Eq (Value.ref _) (Value.ref _)) _ _ _) | (with_reducible show wpAny _ _ (compareOp CmpOp.In _ (Value.ref _)) _ _ _) | (with_reducible show wpAny _ _ (compareOp CmpOp.NotIn _ (Value.ref _)) _ _ _))); (first | walk1 | (dsimp only; walk1)))))
        refine comp_end_c (by k_asm) N2 off2 rfl trivial ?_
        · refine ⟨cv', ck', ci', is ++ [x], rfl, hI2, hln2, hzs.append (.cons _ _ .nil), by simp [his], ?_⟩
          intro y hy
          rcases List.mem_append.mp hy with hy | hy
          · exact hib y hy
          · rw [List.mem_singleton.mp hy]; exact ⟨x0, x1⟩
      case fin2_pq31 =>
        clear N1 F1 hR hI1 hln1
        rintro zs nx ⟨⟨cv, ck, ci, is, rfl, hI1, hln1, hzs, his, hib⟩⟩
        (repeat' (first | (k_unfold; (try dsimp only)) | ((fail_if_success (first | (with_reducible show wpAny _ _ (setItem _ _ _) _ _ _) | (with_reducible show wpAny _ _ (call (Value.builtin "dict.get") _) _ _ _) | (with_reducible show wpAny _ _ (exec (Stmt.While _ _ _ _) _) _ _ _) | (with_reducible show wpAny _ _ (exec (Stmt.For _ _ _ _ _) _) _ _ _) | (with_reducible show wpAny _ _ (pyIter _) _ _ _) | (with_reducible show wpAny _ _ (call (Value.builtin "list.append") _) _ _ _) | (with_reducible show wpAny _ _ (eval (Expr.ListComp _ _ _ _) _) _ _ _) | (with_reducible show wpAny _ _ (exec (Stmt.Assign _ (Expr.ListComp _ _ _ _) _) _) _ _ _) | (with_reducible show wpAny _ _ (compareOp CmpOp.NotEq (Value.ref _) (Value.ref _)) _ _ _) | (with_reducible show wpAny _ _ (compareOp CmpOp.Eq (Value.ref _) (Value.ref _)) _ _ _) | (with_reducible show wpAny _ _ (compareOp CmpOp.In _ (Value.ref _)) _ _ _) | (with_reducible show wpAny _ _ (compareOp CmpOp.NotIn _ (Value.ref _)) _ _ _))); (first | walk1 | (dsimp only; walk1)))))
        rename (c ≠ _ ∧ _) => oD
        rename_i D' _ _ F2 N2
        refine comp_end_d (by k_asm) N2 off rfl oD.2.1 oD.2.2.1 oD.2.2.2.1 trivial ?_
        refine ⟨cv, ck, ci, (D', LCg.lst zs) :: tl, es ++ [Dat.list (is.map Dat.int)], rfl, hI1, hln1, List.forall_mem_cons.mpr ⟨Ne.symm oD.1, hoff⟩, List.forall_mem_cons.mpr ⟨fun q hq => off1_mem oD.2.2.2.2 q (List.mem_append_right _ hq), hrest⟩, (hda.mono (fun p hp => List.mem_cons_of_mem _ hp)).append (.one (.list (List.mem_cons_self) (ints_dat hzs))), by simp [hes], ?_⟩
        intro e he
        rcases List.mem_append.mp he with he | he
        · exact hcol e he
        · rw [List.mem_singleton.mp he]; exact ⟨is, rfl, by omega, hib⟩
    case fin_pq31 =>
      clear N1 F1 hR hI1 hln1
      rintro ys nx ⟨⟨cv, ck, ci, tl, es, rfl, hI1, hln1, hoff, hrest, hda, hes, hcol⟩⟩
      unfold LCg.FinA
      intro D h' tk' F1 N1 o1
      obtain ⟨X, N1, hD, hdaX, hX⟩ := seg1_pack N1 o1 hoff hrest hda
      clear hrest hoff hda o1
      dsimp only
      (repeat' (first | (k_unfold; (try dsimp only)) | ((fail_if_success (first | (with_reducible show wpAny _ _ (setItem _ _ _) _ _ _) | (with_reducible show wpAny _ _ (call (Value.builtin "dict.get") _) _ _ _) | (with_reducible show wpAny _ _ (exec (Stmt.While _ _ _ _) _) _ _ _) | (with_reducible show wpAny _ _ (exec (Stmt.For _ _ _ _ _) _) _ _ _) | (with_reducible show wpAny _ _ (pyIter _) _ _ _) | (with_reducible show wpAny _ _ (call (Value.builtin "list.append") _) _ _ _) | (with_reducible show wpAny _ _ (eval (Expr.ListComp _ _ _ _) _) _ _ _) | (with_reducible show wpAny _ _ (exec (Stmt.Assign _ (Expr.ListComp _ _ _ _) _) _) _ _ _) | (with_reducible show wpAny _ _ (compareOp CmpOp.NotEq (Value.ref _) (Value.ref _)) _ _ _) | (with_reducible show wpAny _ _ (compareOp CmpOp.Eq (Value.ref _) (Value.ref _)) _ _ _) | (with_reducible show wpAny _ _ (subscriptTail _ _ (Value.ref _) (Value.ref _)) _ _ _))); (first | walk1 | (dsimp only; walk1)))))
      k_dflt (refine' slice_front ?sF_pq31 ?sN_pq31 ?sl_pq31 ?sq_pq31 ?se_pq31 ?_ ?ss_pq31 ?sz_pq31; (case sF_pq31 => k_asm); (case sN_pq31 => k_asm); (case sl_pq31 => kmk_list); (case sq_pq31 => kmk_part); (case se_pq31 => omega); (case ss_pq31 => with_unfolding_all rfl); (case sz_pq31 => kmk_size))
      intro hd h2 F2 N2 l2
      k_lt l2
      dsimp only
      (repeat' (first | (k_unfold; (try dsimp only)) | ((fail_if_success (first | (with_reducible show wpAny _ _ (setItem _ _ _) _ _ _) | (with_reducible show wpAny _ _ (call (Value.builtin "dict.get") _) _ _ _) | (with_reducible show wpAny _ _ (exec (Stmt.While _ _ _ _) _) _ _ _) | (with_reducible show wpAny _ _ (exec (Stmt.For _ _ _ _ _) _) _ _ _) | (with_reducible show wpAny _ _ (pyIter _) _ _ _) | (with_reducible show wpAny _ _ (call (Value.builtin "list.append") _) _ _ _) | (with_reducible show wpAny _ _ (eval (Expr.ListComp _ _ _ _) _) _ _ _) | (with_reducible show wpAny _ _ (exec (Stmt.Assign _ (Expr.ListComp _ _ _ _) _) _) _ _ _) | (with_reducible show wpAny _ _ (compareOp CmpOp.NotEq (Value.ref _) (Value.ref _)) _ _ _) | (with_reducible show wpAny _ _ (compareOp CmpOp.Eq (Value.ref _) (Value.ref _)) _ _ _) | (with_reducible show wpAny _ _ (subscriptTail _ _ (Value.ref _) (Value.ref _)) _ _ _) | (with_reducible show wpAny _ _ (exec (Stmt.If _ _ _ _) _) _ _ _))); (first | walk1 | (dsimp only; walk1)))))
      first | with_reducible rename News _ _ _ _ => N2 | rename News _ _ _ _ => N2
      first | with_reducible rename Fr _ _ _ _ => F2 | rename Fr _ _ _ _ => F2
      rename (Obj.data _ = Data.cell (some (Value.ref _))) => dM2
      first | with_reducible rename IntsAre _ (rangeKs _ _) => hmI | rename IntsAre _ (rangeKs _ _) => hmI
      obtain ⟨X2, hx1, hx2, hx3, hXX, N3, hX2⟩ := seg2_pack N2 hX (by (refine Off.five ?_ ?_ ?_ ?_ ?_ <;> (refine neN ?_; (try dsimp only); omega))) (by (refine Off.five ?_ ?_ ?_ ?_ ?_ <;> (refine neN ?_; (try dsimp only); omega))) (by (refine Off.five ?_ ?_ ?_ ?_ ?_ <;> (refine neN ?_; (try dsimp only); omega)))
      obtain ⟨md, lt, hM⟩ := marks_ints q0 q1 hmI hx1 hx2
      obtain ⟨nms, hv, hhd, hnm, hnl, hnk⟩ := heads_in hx3 r0 r1
      obtain ⟨m1, F3⟩ := fr_two F2
      have hdaX2 := hdaX.mono hXX
      have hD2 := hXX _ hD
      obtain ⟨oM2, N4, dM3⟩ : ∃ oM2, News _ _ _ ((_, oM2) :: _) ∧ oM2.data = _ := ⟨_, N3, dM2⟩
      clear N2 F2 hmI hx1 hx2 hx3 hXX N3 dM2 hX hD hdaX dM
      (repeat (with_reducible rename (∀ (_ : Addr) (_ : Obj), Heap.get? _ _ = some _ → Heap.get? _ _ = some _) => zz; clear zz)); (repeat (with_reducible rename IsRange _ _ _ _ _ _ _ _ => zz; clear zz)); (repeat (with_reducible rename AllLt _ _ => zz; clear zz)); (repeat (with_reducible rename (_ ∧ AllLt _ _) => zz; clear zz)); (repeat (with_reducible rename (_ ∧ _ ∧ AllLt _ _) => zz; clear zz)); (repeat (with_reducible rename (_ ∧ _ ∧ _ ∧ AllLt _ _) => zz; clear zz)); (repeat (with_reducible rename (_ ∧ _ ∧ _ ∧ _ ∧ AllLt _ _) => zz; clear zz)); (repeat (with_reducible rename (_ ∧ _ ∧ _ ∧ _ ∧ _ ∧ AllLt _ _) => zz; clear zz)); (repeat (with_reducible rename (_ ∧ _ ∧ _ ∧ _ ∧ _ ∧ _ ∧ AllLt _ _) => zz; clear zz)); (repeat (with_reducible rename (_ ∧ _ ∧ _ ∧ _ ∧ _ ∧ _ ∧ _ ∧ AllLt _ _) => zz; clear zz)); (repeat (with_reducible rename (_ ∧ _ ∧ _ ∧ _ ∧ _ ∧ _ ∧ _ ∧ _ ∧ AllLt _ _) => zz; clear zz)); (repeat (with_reducible rename (_ ∧ _ ∧ _ ∧ _ ∧ _ ∧ _ ∧ _ ∧ _ ∧ _ ∧ AllLt _ _) => zz; clear zz)); (repeat (with_reducible rename (_ ∧ _ ∧ _ ∧ _ ∧ _ ∧ _ ∧ _ ∧ _ ∧ _ ∧ _ ∧ AllLt _ _) => zz; clear zz))
      refine if_join (1 + q) F3 N4 ?walk_pq32 ?rest_pq32
      case rest_pq32 =>
        clear hI1 hln1 hM
        intro h' tk' oM mt X cv ck ci kd md lt F1 N1 dM hM hI1 hln1 hXX hX
        have hda := hdaX2.mono hXX
        have hD := hXX _ hD2
        have hh := hXX _ hhd
        clear F3 N4 dM3 hX2 hdaX2 hD2 hhd hXX
        (repeat (with_reducible rename (∀ (_ : Addr) (_ : Obj), Heap.get? _ _ = some _ → Heap.get? _ _ = some _) => zz; clear zz)); (repeat (with_reducible rename IsRange _ _ _ _ _ _ _ _ => zz; clear zz)); (repeat (with_reducible rename AllLt _ _ => zz; clear zz)); (repeat (with_reducible rename (_ ∧ AllLt _ _) => zz; clear zz)); (repeat (with_reducible rename (_ ∧ _ ∧ AllLt _ _) => zz; clear zz)); (repeat (with_reducible rename (_ ∧ _ ∧ _ ∧ AllLt _ _) => zz; clear zz)); (repeat (with_reducible rename (_ ∧ _ ∧ _ ∧ _ ∧ AllLt _ _) => zz; clear zz)); (repeat (with_reducible rename (_ ∧ _ ∧ _ ∧ _ ∧ _ ∧ AllLt _ _) => zz; clear zz)); (repeat (with_reducible rename (_ ∧ _ ∧ _ ∧ _ ∧ _ ∧ _ ∧ AllLt _ _) => zz; clear zz)); (repeat (with_reducible rename (_ ∧ _ ∧ _ ∧ _ ∧ _ ∧ _ ∧ _ ∧ AllLt _ _) => zz; clear zz)); (repeat (with_reducible rename (_ ∧ _ ∧ _ ∧ _ ∧ _ ∧ _ ∧ _ ∧ _ ∧ AllLt _ _) => zz; clear zz)); (repeat (with_reducible rename (_ ∧ _ ∧ _ ∧ _ ∧ _ ∧ _ ∧ _ ∧ _ ∧ _ ∧ AllLt _ _) => zz; clear zz)); (repeat (with_reducible rename (_ ∧ _ ∧ _ ∧ _ ∧ _ ∧ _ ∧ _ ∧ _ ∧ _ ∧ _ ∧ AllLt _ _) => zz; clear zz))
        (repeat (rename _ => zz; revert zz)); intro kont; exact kont.out
      case walk_pq32 =>
        (repeat' (first | (k_unfold; (try dsimp only)) | ((fail_if_success (first | (with_reducible show wpAny _ _ (setItem _ _ _) _ _ _) | (with_reducible show wpAny _ _ (call (Value.builtin "dict.get") _) _ _ _) | (with_reducible show wpAny _ _ (exec (Stmt.While _ _ _ _) _) _ _ _) | (with_reducible show wpAny _ _ (exec (Stmt.For _ _ _ _ _) _) _ _ _) | (with_reducible show wpAny _ _ (pyIter _) _ _ _) | (with_reducible show wpAny _ _ (call (Value.builtin "list.append") _) _ _ _) | (with_reducible show wpAny _ _ (eval (Expr.ListComp _ _ _ _) _) _ _ _) | (with_reducible show wpAny _ _ (exec (Stmt.Assign _ (Expr.ListComp _ _ _ _) _) _) _ _ _) | (with_reducible show wpAny _ _ (compareOp CmpOp.NotEq (Value.ref _) (Value.ref _)) _ _ _) | (with_reducible show wpAny _ _ (compareOp CmpOp.Eq (Value.ref _) (Value.ref _)) _ _ _) | (with_reducible show wpAny _ _ (subscriptTail _ _ (Value.ref _) (Value.ref _)) _ _ _) | (with_reducible show wpAny _ _ (call (Value.ref 315) _) _ _ _))); (first | walk1 | (dsimp only; walk1)))))
        k_dflt (refine' card_tell ?B_pq32 ?F_pq32 ?X_pq32 ?T_pq32 ?hk_pq32 ?hd_pq32 ?hu_pq32 (news_card N4) ?hO_pq32 hI1 hln1 ?hm1_pq32 ?hm2_pq32 ?_; (case B_pq32 => k_asm); (case F_pq32 => k_asm); (case X_pq32 => k_asm); (case T_pq32 => k_asm); (case hk_pq32 => exact rfl); (case hd_pq32 => ktr_room); (case hu_pq32 => ktr_units); (case hm1_pq32 => omega); (case hm2_pq32 => omega))
        case hO_pq32 => exact off_own hX2 (by refine neN ?_; omega) (by refine neN ?_; omega) (by refine neN ?_; omega) (by refine neN ?_; omega)
        clear hI1 hln1
        intro z tz cv ck ci h1 tk1 z0 z1 hI1 hln1 F5 N5
        replace N5 := news_back N5
        (repeat' (first | (k_unfold; (try dsimp only)) | ((fail_if_success (first | (with_reducible show wpAny _ _ (setItem _ _ _) _ _ _) | (with_reducible show wpAny _ _ (call (Value.builtin "dict.get") _) _ _ _) | (with_reducible show wpAny _ _ (exec (Stmt.While _ _ _ _) _) _ _ _) | (with_reducible show wpAny _ _ (exec (Stmt.For _ _ _ _ _) _) _ _ _) | (with_reducible show wpAny _ _ (pyIter _) _ _ _) | (with_reducible show wpAny _ _ (call (Value.builtin "list.append") _) _ _ _) | (with_reducible show wpAny _ _ (eval (Expr.ListComp _ _ _ _) _) _ _ _) | (with_reducible show wpAny _ _ (exec (Stmt.Assign _ (Expr.ListComp _ _ _ _) _) _) _ _ _) | (with_reducible show wpAny _ _ (compareOp CmpOp.NotEq (Value.ref _) (Value.ref _)) _ _ _) | (with_reducible show wpAny _ _ (compareOp CmpOp.Eq (Value.ref _) (Value.ref _)) _ _ _) | (with_reducible show wpAny _ _ (subscriptTail _ _ (Value.ref _) (Value.ref _)) _ _ _) | (with_reducible show wpAny _ _ (exec (Stmt.If _ _ _ _) _) _ _ _))); (first | walk1 | (dsimp only; walk1)))))
        · k_dflt (refine' slice_front ?sF_pq32 ?sN_pq32 ?sl_pq32 ?sq_pq32 ?se_pq32 ?_ ?ss_pq32 ?sz_pq32; (case sF_pq32 => k_asm); (case sN_pq32 => k_asm); (case sl_pq32 => kmk_list); (case sq_pq32 => kmk_part); (case se_pq32 => omega); (case ss_pq32 => with_unfolding_all rfl); (case sz_pq32 => kmk_size))
          intro ml h2 F2 N2 l2
          k_lt l2
          dsimp only
          (repeat' (first | (k_unfold; (try dsimp only)) | ((fail_if_success (first | (with_reducible show wpAny _ _ (setItem _ _ _) _ _ _) | (with_reducible show wpAny _ _ (call (Value.builtin "dict.get") _) _ _ _) | (with_reducible show wpAny _ _ (exec (Stmt.While _ _ _ _) _) _ _ _) | (with_reducible show wpAny _ _ (exec (Stmt.For _ _ _ _ _) _) _ _ _) | (with_reducible show wpAny _ _ (pyIter _) _ _ _) | (with_reducible show wpAny _ _ (call (Value.builtin "list.append") _) _ _ _) | (with_reducible show wpAny _ _ (eval (Expr.ListComp _ _ _ _) _) _ _ _) | (with_reducible show wpAny _ _ (exec (Stmt.Assign _ (Expr.ListComp _ _ _ _) _) _) _ _ _) | (with_reducible show wpAny _ _ (compareOp CmpOp.NotEq (Value.ref _) (Value.ref _)) _ _ _) | (with_reducible show wpAny _ _ (compareOp CmpOp.Eq (Value.ref _) (Value.ref _)) _ _ _) | (with_reducible show wpAny _ _ (subscriptTail _ _ (Value.ref _) (Value.ref _)) _ _ _) | (with_reducible show wpAny _ _ (exec (Stmt.If _ _ _ _) _) _ _ _))); (first | walk1 | (dsimp only; walk1)))))
          first | with_reducible rename News _ _ _ _ => N2 | rename News _ _ _ _ => N2
          first | with_reducible rename Fr _ _ _ _ => F2 | rename Fr _ _ _ _ => F2
          rename (Obj.data _ = Data.cell (some (Value.ref _))) => dM2
          obtain ⟨X3, hx1, hx2, hXX, N3, hX3⟩ := if_pack N2 hX2 (by (refine Off.five ?_ ?_ ?_ ?_ ?_ <;> (refine neN ?_; (try dsimp only); omega))) (by (refine Off.five ?_ ?_ ?_ ?_ ?_ <;> (refine neN ?_; (try dsimp only); omega)))
          obtain ⟨md, lt, hM⟩ := marks_strs q0 q1 hx1 hx2
          exact ⟨_, _, _, _, X3, cv, ck, ci, _, md, lt, rfl, rfl, F2, N3, dM2, hM, hI1, hln1, hXX, hX3⟩
        · exact ⟨_, _, oM2, _, X2, cv, ck, ci, _, md, lt, rfl, rfl, F5, N5, dM3, hM, hI1, hln1, fun _ h => h, hX2⟩


set_option maxRecDepth 1000000 in
set_option maxHeartbeats 0 in
noncomputable def cut1 : PSigma fun P : Prop => Hide P → cut0.1 := by
  refine' ⟨_, fun kont => _⟩
  rotate_left
  focus
    intro _ _ _ _ _ _ _ _ _ _ _ _ _ _ _ _ _ _ _ _ _ _ _ _ _ _ _ _ _ _ _ _ _ _ _ _ _ _ hL _ _ _ hI _ h63 _ _ _ _ _ _ _ _ _ _ _ _ _ _ qk ek c cv ci ck h1 tk1 hlt _ _ tk r tr cv ck ci h1 tk1 r0 r1 _ tk q tr cv ck ci h1 tk1 q0 q1 _ _ tk m0 tW oC oT oM oP tT dC2 dT dP _ _ _ _ _ g2 ys cv ck ci tl es hes hcol D h' tk' X _ _ hd h2 _ tk _ _ _ _ _ _ _ _ _ _ _ _ _ _ tk X2 md lt nms hv hnm hnl hnk m1 oM2 h' tk' oM mt X cv ck ci kd md lt F1 N1 dM hM hI1 hln1 hX hda hD hh
    rename World => w
    (repeat' (first | (k_unfold; (try dsimp only)) | ((fail_if_success (first | (with_reducible show wpAny _ _ (setItem _ _ _) _ _ _) | (with_reducible show wpAny _ _ (call (Value.builtin "dict.get") _) _ _ _) | (with_reducible show wpAny _ _ (exec (Stmt.While _ _ _ _) _) _ _ _) | (with_reducible show wpAny _ _ (exec (Stmt.For _ _ _ _ _) _) _ _ _) | (with_reducible show wpAny _ _ (pyIter _) _ _ _) | (with_reducible show wpAny _ _ (call (Value.builtin "list.append") _) _ _ _) | (with_reducible show wpAny _ _ (eval (Expr.ListComp _ _ _ _) _) _ _ _) | (with_reducible show wpAny _ _ (exec (Stmt.Assign _ (Expr.ListComp _ _ _ _) _) _) _ _ _) | (with_reducible show wpAny _ _ (compareOp CmpOp.NotEq (Value.ref _) (Value.ref _)) _ _ _) | (with_reducible show wpAny _ _ (compareOp CmpOp.Eq (Value.ref _) (Value.ref _)) _ _ _) | (with_reducible show wpAny _ _ (subscriptTail _ _ (Value.ref _) (Value.ref _)) _ _ _) | (with_reducible show wpAny _ _ (call (Value.ref 315) _) _ _ _) | (with_reducible show wpAny _ _ (call (Value.ref 251) _) _ _ _))); (first | walk1 | (dsimp only; walk1)))))
    k_dflt (refine LCg.ListComp_U (F₀ := by k_asm) (by with_unfolding_all rfl) (by decide) (by rfl) (by decide) (by rfl) ?_)
    (repeat' (first | (k_unfold; (try dsimp only)) | ((fail_if_success (first | (with_reducible show wpAny _ _ (setItem _ _ _) _ _ _) | (with_reducible show wpAny _ _ (call (Value.builtin "dict.get") _) _ _ _) | (with_reducible show wpAny _ _ (exec (Stmt.While _ _ _ _) _) _ _ _) | (with_reducible show wpAny _ _ (exec (Stmt.For _ _ _ _ _) _) _ _ _) | (with_reducible show wpAny _ _ (pyIter _) _ _ _) | (with_reducible show wpAny _ _ (call (Value.builtin "list.append") _) _ _ _) | (with_reducible show wpAny _ _ (eval (Expr.ListComp _ _ _ _) _) _ _ _) | (with_reducible show wpAny _ _ (exec (Stmt.Assign _ (Expr.ListComp _ _ _ _) _) _) _ _ _) | (with_reducible show wpAny _ _ (compareOp CmpOp.NotEq (Value.ref _) (Value.ref _)) _ _ _) | (with_reducible show wpAny _ _ (compareOp CmpOp.Eq (Value.ref _) (Value.ref _)) _ _ _) | (with_reducible show wpAny _ _ (compareOp CmpOp.In _ (Value.ref _)) _ _ _) | (with_reducible show wpAny _ _ (compareOp CmpOp.NotIn _ (Value.ref _)) _ _ _) | (with_reducible show LCg.CompSrc _ _ _ _ _ _ _ _ _ _ _ _ _ _) | (with_reducible show LCt.CompSrcT _ _ _ _ _ _ _ _ _ _ _ _ _ _ _))); (first | walk1 | (dsimp only; walk1)))))
    have hyl : ys.length ≤ 2 := by rw [hda.length, hes]; omega
    k_dflt (refine LCg.CompSrc.ledger (its := ys.toArray) (by rfl) (by k_asm) (by k_asm) (by k_mem) (by rw [List.size_toArray, PySem.sizeLine_eq]; omega) ?_)
    intro g2
    refine' comp_led (VecJ w _ es) VecJ.start ?turn_pq33 ?fin_pq33
    case turn_pq33 =>
      rintro i v nx I oI C oC DD m₂ zs h tk E' hi hv ⟨⟨tl, cols, rfl, rfl, hFr, hoff⟩⟩ hC hx F2 N2 off ne
      obtain ⟨d, hd1, hd2, hd3⟩ := dat_atL hda hv
      obtain ⟨a, vs, k, is, rfl, hav, hvs, rfl, hil, hib⟩ := dat_col hd3 (hcol _ hd2)
      have hvl : vs.length ≤ 1000 := by rw [hvs.length]; omega
      (repeat' (first | (k_unfold; (try dsimp only)) | ((fail_if_success (first | (with_reducible show wpAny _ _ (setItem _ _ _) _ _ _) | (with_reducible show wpAny _ _ (call (Value.builtin "dict.get") _) _ _ _) | (with_reducible show wpAny _ _ (exec (Stmt.While _ _ _ _) _) _ _ _) | (with_reducible show wpAny _ _ (exec (Stmt.For _ _ _ _ _) _) _ _ _) | (with_reducible show wpAny _ _ (pyIter _) _ _ _) | (with_reducible show wpAny _ _ (call (Value.builtin "list.append") _) _ _ _) | (with_reducible show wpAny _ _ (eval (Expr.ListComp _ _ _ _) _) _ _ _) | (with_reducible show wpAny _ _ (exec (Stmt.Assign _ (Expr.ListComp _ _ _ _) _) _) _ _ _) | (with_reducible show wpAny _ _ (compareOp CmpOp.NotEq (Value.ref _) (Value.ref _)) _ _ _) | (with_reducible show wpAny _ _ (compareOp CmpOp.Eq (Value.ref _) (Value.ref _)) _ _ _) | (with_reducible show wpAny _ _ (compareOp CmpOp.In _ (Value.ref _)) _ _ _) | (with_reducible show wpAny _ _ (compareOp CmpOp.NotIn _ (Value.ref _)) _ _ _))); (first | walk1 | (dsimp only; walk1)))))
      first | with_reducible rename News _ _ _ _ => N3 | rename News _ _ _ _ => N3
      first | with_reducible rename (I < _ ∧ C < _ ∧ DD < _ ∧ AllLt _ _) => lA | rename (I < _ ∧ C < _ ∧ DD < _ ∧ AllLt _ _) => lA
      first | with_reducible rename (_ ∧ I < _ ∧ C < _ ∧ DD < _ ∧ AllLt _ _) => lB | rename (_ ∧ I < _ ∧ C < _ ∧ DD < _ ∧ AllLt _ _) => lB
      refine comp_end_vec (by k_asm) N3 off lA lB.1 (by assumption) (src_ledger (by k_mem)) ?_
      exact VecJ.snoc' hFr hoff hd1 hvs (by clear lA lB; omega) lA.2.2.2 lB.1 (by assumption)
    case fin_pq33 =>
      rintro zs nx ⟨⟨tl, cols, rfl, rfl, hFr, hoff⟩⟩
      obtain ⟨ml, mv, mk, mtk, mkt, hmt, hml, hmd⟩ := hM.out
      have hmvl : mv.length ≤ 1000 := by rw [hmd.length]; have := hM.len; omega
      have hnvl : hv.length ≤ 4 := by rw [hnm.length, List.length_map]; omega
      (repeat' (first | (k_unfold; (try dsimp only)) | ((fail_if_success (first | (with_reducible show wpAny _ _ (setItem _ _ _) _ _ _) | (with_reducible show wpAny _ _ (call (Value.builtin "dict.get") _) _ _ _) | (with_reducible show wpAny _ _ (exec (Stmt.While _ _ _ _) _) _ _ _) | (with_reducible show wpAny _ _ (exec (Stmt.For _ _ _ _ _) _) _ _ _) | (with_reducible show wpAny _ _ (pyIter _) _ _ _) | (with_reducible show wpAny _ _ (call (Value.builtin "list.append") _) _ _ _) | (with_reducible show wpAny _ _ (eval (Expr.ListComp _ _ _ _) _) _ _ _) | (with_reducible show wpAny _ _ (exec (Stmt.Assign _ (Expr.ListComp _ _ _ _) _) _) _ _ _) | (with_reducible show wpAny _ _ (compareOp CmpOp.NotEq (Value.ref _) (Value.ref _)) _ _ _) | (with_reducible show wpAny _ _ (compareOp CmpOp.Eq (Value.ref _) (Value.ref _)) _ _ _) | (with_reducible show wpAny _ _ (subscriptTail _ _ (Value.ref _) (Value.ref _)) _ _ _) | (with_reducible show wpAny _ _ (call (Value.ref 315) _) _ _ _) | (with_reducible show wpAny _ _ (call (Value.ref 251) _) _ _ _))); (first | walk1 | (dsimp only; walk1)))))
      first | with_reducible rename News _ _ _ _ => kN | rename News _ _ _ _ => kN
      first | with_reducible rename (_ ∧ AllLt _ (tl ++ _)) => lA | rename (_ ∧ AllLt _ (tl ++ _)) => lA
      first | with_reducible rename (_ ∧ _ ∧ AllLt _ (tl ++ _)) => lB | rename (_ ∧ _ ∧ AllLt _ (tl ++ _)) => lB
      first | with_reducible rename LCg.Off1 _ (tl ++ _) => o1 | rename LCg.Off1 _ (tl ++ _) => o1
      rw [show es.take ys.toArray.size = es by rw [List.size_toArray, hda.length, List.take_length]] at hFr
      k_dflt (refine' new_frame_tell (nms := nms) ?B_pq33 ?F_pq33 ?X_pq33 ?T_pq33 ?hk_pq33 ?hd_pq33 ?hu_pq33 (news_front kN) hFr ?hw_pq33 (vec_off o1 lA.2 lB.1 ?lx_pq33 hoff) ?hcl_pq33 ?hnl_pq33 hnm hnvl ?_; (case B_pq33 => k_asm); (case F_pq33 => k_asm); (case X_pq33 => k_asm); (case T_pq33 => k_asm); (case hk_pq33 => exact rfl); (case hd_pq33 => ktr_room); (case hu_pq33 => ktr_units); (case hw_pq33 => have := hFr.len; omega); (case lx_pq33 => assumption); (case hcl_pq33 => k_mem); (case hnl_pq33 => k_mem))
      intro f tl5 fd h5 tk5 F5 N5 hF5 hC5 hof5
      (repeat' (first | (k_unfold; (try dsimp only)) | ((fail_if_success (first | (with_reducible show wpAny _ _ (setItem _ _ _) _ _ _) | (with_reducible show wpAny _ _ (call (Value.builtin "dict.get") _) _ _ _) | (with_reducible show wpAny _ _ (exec (Stmt.While _ _ _ _) _) _ _ _) | (with_reducible show wpAny _ _ (exec (Stmt.For _ _ _ _ _) _) _ _ _) | (with_reducible show wpAny _ _ (pyIter _) _ _ _) | (with_reducible show wpAny _ _ (call (Value.builtin "list.append") _) _ _ _) | (with_reducible show wpAny _ _ (eval (Expr.ListComp _ _ _ _) _) _ _ _) | (with_reducible show wpAny _ _ (exec (Stmt.Assign _ (Expr.ListComp _ _ _ _) _) _) _ _ _) | (with_reducible show wpAny _ _ (compareOp CmpOp.NotEq (Value.ref _) (Value.ref _)) _ _ _) | (with_reducible show wpAny _ _ (compareOp CmpOp.Eq (Value.ref _) (Value.ref _)) _ _ _) | (with_reducible show wpAny _ _ (call (Value.ref 315) _) _ _ _))); (first | walk1 | (dsimp only; walk1)))))
      first | with_reducible rename AllLt _ (tl5 ++ _) => lP | rename AllLt _ (tl5 ++ _) => lP
      first | with_reducible rename News _ _ _ _ => N6 | rename News _ _ _ _ => N6
      first | with_reducible rename Fr _ _ _ _ => F6 | rename Fr _ _ _ _ => F6
      obtain ⟨X4, N7, hs5, hx1, hx2, hx3, hXX, hX4, hpl⟩ := seg4_pack N6 lP hof5 lA.2 lB.1 (by assumption) hX
      obtain ⟨pl, rv, gr, m2, N8, F8, hpl, hF8, hV8⟩ := seg4_state N7 F6 hpl (hF5.mono hs5) hx1 hx2 hx3
      have hC8 := hC5.mono hs5
      have hD8 := hXX _ hD
      have hda8 := hda.mono hXX
      have hh8 := hXX _ hh
      have hmt8 := hXX _ hmt
      have hml8 := hXX _ hml
      have hcw : cols.length = 1 ∨ cols.length = 2 := by have := hFr.len; omega
      have hL := hM.lab
      have hLl := hM.len
      have hLs := hM.short
      have hLk := hM.ok
      have hLo := hM.kok
      (try clear N6); (try clear F6); (try clear N7); (try clear F5); (try clear N5); (try clear kN); (try clear lP); (try clear hof5); (try clear lA); (try clear lB); (try clear o1); (try clear hX); (try clear hoff); (try clear hFr); (try clear hF5); (try clear hC5); (try clear hs5); (try clear hx1); (try clear hx2); (try clear hx3); (try clear hXX); (try clear hD); (try clear hda); (try clear hh); (try clear hmt); (try clear hml); (try clear hM)
      (repeat (with_reducible rename (∀ (_ : Addr) (_ : Obj), Heap.get? _ _ = some _ → Heap.get? _ _ = some _) => zz; clear zz)); (repeat (with_reducible rename IsRange _ _ _ _ _ _ _ _ => zz; clear zz)); (repeat (with_reducible rename AllLt _ _ => zz; clear zz)); (repeat (with_reducible rename (_ ∧ AllLt _ _) => zz; clear zz)); (repeat (with_reducible rename (_ ∧ _ ∧ AllLt _ _) => zz; clear zz)); (repeat (with_reducible rename (_ ∧ _ ∧ _ ∧ AllLt _ _) => zz; clear zz)); (repeat (with_reducible rename (_ ∧ _ ∧ _ ∧ _ ∧ AllLt _ _) => zz; clear zz)); (repeat (with_reducible rename (_ ∧ _ ∧ _ ∧ _ ∧ _ ∧ AllLt _ _) => zz; clear zz)); (repeat (with_reducible rename (_ ∧ _ ∧ _ ∧ _ ∧ _ ∧ _ ∧ AllLt _ _) => zz; clear zz)); (repeat (with_reducible rename (_ ∧ _ ∧ _ ∧ _ ∧ _ ∧ _ ∧ _ ∧ AllLt _ _) => zz; clear zz)); (repeat (with_reducible rename (_ ∧ _ ∧ _ ∧ _ ∧ _ ∧ _ ∧ _ ∧ _ ∧ AllLt _ _) => zz; clear zz)); (repeat (with_reducible rename (_ ∧ _ ∧ _ ∧ _ ∧ _ ∧ _ ∧ _ ∧ _ ∧ _ ∧ AllLt _ _) => zz; clear zz)); (repeat (with_reducible rename (_ ∧ _ ∧ _ ∧ _ ∧ _ ∧ _ ∧ _ ∧ _ ∧ _ ∧ _ ∧ AllLt _ _) => zz; clear zz))
      revert N8 F8; (repeat (with_reducible rename News _ _ _ _ => zz; clear zz)); (repeat (with_reducible rename Fr _ _ _ _ => zz; clear zz)); intro N8 F8
      rename Shared => s1
      obtain ⟨hcp, nc⟩ := cells_pl hpl
      have hcc := cells_c (oM := oM) (oP := oP) (oT := oT) (oC := oC) hX4 (by refine neN ?_; omega) (by refine neN ?_; omega) (by refine neN ?_; omega) (by refine neN ?_; omega)
      clear hpl
      with_unfolding_all refine For_invVF F8 (by rfl) (by rfl) ?_
      (repeat' (first | (k_unfold; (try dsimp only)) | ((fail_if_success (first | (with_reducible show wpAny _ _ (setItem _ _ _) _ _ _) | (with_reducible show wpAny _ _ (call (Value.builtin "dict.get") _) _ _ _) | (with_reducible show wpAny _ _ (exec (Stmt.While _ _ _ _) _) _ _ _) | (with_reducible show wpAny _ _ (exec (Stmt.For _ _ _ _ _) _) _ _ _) | (with_reducible show wpAny _ _ (pyIter _) _ _ _) | (with_reducible show wpAny _ _ (call (Value.builtin "list.append") _) _ _ _) | (with_reducible show wpAny _ _ (eval (Expr.ListComp _ _ _ _) _) _ _ _) | (with_reducible show wpAny _ _ (exec (Stmt.Assign _ (Expr.ListComp _ _ _ _) _) _) _ _ _) | (with_reducible show wpAny _ _ (compareOp CmpOp.NotEq (Value.ref _) (Value.ref _)) _ _ _) | (with_reducible show wpAny _ _ (compareOp CmpOp.Eq (Value.ref _) (Value.ref _)) _ _ _) | (with_reducible show wpAny _ _ (call (Value.ref 315) _) _ _ _))); (first | walk1 | (dsimp only; walk1)))))
      k_dflt (refine' card_tell ?B_pq34 ?F_pq34 ?X_pq34 ?T_pq34 ?hk_pq34 ?hd_pq34 ?hu_pq34 (news_card6 N8) ?hO_pq34 hI1 hln1 ?hm1_pq34 ?hm2_pq34 ?_; (case B_pq34 => k_asm); (case F_pq34 => k_asm); (case X_pq34 => k_asm); (case T_pq34 => k_asm); (case hk_pq34 => exact rfl); (case hd_pq34 => ktr_room); (case hu_pq34 => ktr_units); (case hm1_pq34 => omega); (case hm2_pq34 => omega))
      case hO_pq34 => exact own_two (Ne.symm nc) hcc
      clear hI1 hln1 N8 F8
      intro z tz cv ck ci h1 tk1 z0 z1 hI1 hln1 F1 N1
      have hz : Bnd8 z := ⟨z0, z1⟩
      clear z0 z1
      (repeat' (first | (k_unfold; (try dsimp only)) | ((fail_if_success (first | (with_reducible show wpAny _ _ (setItem _ _ _) _ _ _) | (with_reducible show wpAny _ _ (call (Value.builtin "dict.get") _) _ _ _) | (with_reducible show wpAny _ _ (exec (Stmt.While _ _ _ _) _) _ _ _) | (with_reducible show wpAny _ _ (exec (Stmt.For _ _ _ _ _) _) _ _ _) | (with_reducible show wpAny _ _ (pyIter _) _ _ _) | (with_reducible show wpAny _ _ (call (Value.builtin "list.append") _) _ _ _) | (with_reducible show wpAny _ _ (eval (Expr.ListComp _ _ _ _) _) _ _ _) | (with_reducible show wpAny _ _ (exec (Stmt.Assign _ (Expr.ListComp _ _ _ _) _) _) _ _ _) | (with_reducible show wpAny _ _ (compareOp CmpOp.NotEq (Value.ref _) (Value.ref _)) _ _ _) | (with_reducible show wpAny _ _ (compareOp CmpOp.Eq (Value.ref _) (Value.ref _)) _ _ _) | (with_reducible show wpAny _ _ (compareOp CmpOp.In _ (Value.ref _)) _ _ _) | (with_reducible show wpAny _ _ (compareOp CmpOp.NotIn _ (Value.ref _)) _ _ _))); (first | walk1 | (dsimp only; walk1)))))
      obtain ⟨z0, z1⟩ := hz
      first | with_reducible rename Fr _ _ _ _ => F2 | rename Fr _ _ _ _ => F2
      first | with_reducible rename News _ _ _ _ => N2 | rename News _ _ _ _ => N2
      first | with_reducible rename IsRange _ _ _ _ _ _ _ _ => hR | rename IsRange _ _ _ _ _ _ _ _ => hR
      with_unfolding_all refine kd_range (σ := PS) (n := (z - 0).toNat) (fun d => [(pl, listOf d.pv.toArray d.pk), (c, listOf d.cv.toArray d.ck)]) ((s1.heap.objs.size + 1 + 1 + 1, oM) :: (s1.heap.objs.size + 1 + 1 + 1 + 1, oP) :: (s1.heap.objs.size + 1 + 1, oT) :: (s1.heap.objs.size + 1, oC) :: X4) (fun _ => []) (fun _ d => IntsAre d.cv d.ci ∧ DatAll [] d.pv (d.ps.map plD)) [Str.ofString "draw"] (fun pre d => d.ci.length ≤ 140 ∧ d.ps.length = pre.length ∧ ∀ i, some i ∈ d.ps → 0 ≤ i) (pl :: c :: (s1.heap.objs.size + 1 + 1 + 1) :: (s1.heap.objs.size + 1 + 1 + 1 + 1) :: (s1.heap.objs.size + 1 + 1) :: (s1.heap.objs.size + 1) :: X4.map (·.1)) ⟨cv, ck, ci, [], 0, []⟩ (by rfl) hR (small_one (by omega) (by omega) (by omega) (by omega)) (rangeSize_nat _ _) F2 N2 ?_ (fun _ => rfl) ⟨hI1, .nil⟩ ?_ ⟨hln1, rfl, by simp⟩ ?_ ?_
      · intro p hp; simp only [List.cons_append, List.nil_append, List.append_nil, List.mem_cons] at hp ⊢; rcases hp with h | h | h | h | h | h | h <;> simp [h]
      · intro p hp; cases hp
      · clear N2 F2 hR hI1 hln1
        rintro d tl pre k t u h tk own hk hpl2 hsep hoff ⟨hci, hpv⟩ ⟨hcl, hpsl, hp0⟩ F₁ N₁
        simp only [List.cons_append, List.nil_append] at N₁
        have hinc := upd_sep hcc hsep (by simp)
        have hinp := upd_sep hcp hsep (by simp)
        have hpvl : d.pv.length ≤ 7 := by rw [hpv.length, List.length_map, hpsl]; omega
        (repeat' (first | (k_unfold; (try dsimp only)) | ((fail_if_success (first | (with_reducible show wpAny _ _ (setItem _ _ _) _ _ _) | (with_reducible show wpAny _ _ (call (Value.builtin "dict.get") _) _ _ _) | (with_reducible show wpAny _ _ (exec (Stmt.While _ _ _ _) _) _ _ _) | (with_reducible show wpAny _ _ (exec (Stmt.For _ _ _ _ _) _) _ _ _) | (with_reducible show wpAny _ _ (pyIter _) _ _ _) | (with_reducible show wpAny _ _ (call (Value.builtin "list.append") _) _ _ _) | (with_reducible show wpAny _ _ (eval (Expr.ListComp _ _ _ _) _) _ _ _) | (with_reducible show wpAny _ _ (exec (Stmt.Assign _ (Expr.ListComp _ _ _ _) _) _) _ _ _) | (with_reducible show wpAny _ _ (compareOp CmpOp.NotEq (Value.ref _) (Value.ref _)) _ _ _) | (with_reducible show wpAny _ _ (compareOp CmpOp.Eq (Value.ref _) (Value.ref _)) _ _ _) | (with_reducible show wpAny _ _ (call (Value.ref 315) _) _ _ _))); (first | walk1 | (dsimp only; walk1)))))
        first | with_reducible rename News _ _ _ _ => N5 | rename News _ _ _ _ => N5
        k_dflt (refine' card_tell ?B_pq34 ?F_pq34 ?X_pq34 ?T_pq34 ?hk_pq34 ?hd_pq34 ?hu_pq34 (news_swap N5) ?hO_pq34 hci hcl ?hm1_pq34 ?hm2_pq34 ?_; (case B_pq34 => k_asm); (case F_pq34 => k_asm); (case X_pq34 => k_asm); (case T_pq34 => k_asm); (case hk_pq34 => exact rfl); (case hd_pq34 => ktr_room); (case hu_pq34 => ktr_units); (case hm1_pq34 => omega); (case hm2_pq34 => omega))
        case hO_pq34 => exact own_two (Ne.symm nc) hinc
        intro x tx cv' ck' ci' h' tk' x0 x1 hI2 hln2 F2 N2
        (repeat' (first | (k_unfold; (try dsimp only)) | ((fail_if_success (first | (with_reducible show wpAny _ _ (setItem _ _ _) _ _ _) | (with_reducible show wpAny _ _ (call (Value.builtin "dict.get") _) _ _ _) | (with_reducible show wpAny _ _ (exec (Stmt.While _ _ _ _) _) _ _ _) | (with_reducible show wpAny _ _ (exec (Stmt.For _ _ _ _ _) _) _ _ _) | (with_reducible show wpAny _ _ (pyIter _) _ _ _) | (with_reducible show wpAny _ _ (call (Value.builtin "list.append") _) _ _ _) | (with_reducible show wpAny _ _ (eval (Expr.ListComp _ _ _ _) _) _ _ _) | (with_reducible show wpAny _ _ (exec (Stmt.Assign _ (Expr.ListComp _ _ _ _) _) _) _ _ _) | (with_reducible show wpAny _ _ (compareOp CmpOp.NotEq (Value.ref _) (Value.ref _)) _ _ _) | (with_reducible show wpAny _ _ (compareOp CmpOp.Eq (Value.ref _) (Value.ref _)) _ _ _) | (with_reducible show wpAny _ _ (compareOp CmpOp.In _ (Value.ref _)) _ _ _) | (with_reducible show wpAny _ _ (compareOp CmpOp.NotIn _ (Value.ref _)) _ _ _))); (first | walk1 | (dsimp only; walk1)))))
        · k_dflt (refine' append_K ?F_pq34 ?N_pq34 ?U_pq34 ?_ ?hz_pq34; (case F_pq34 => k_asm); (case N_pq34 => k_asm); (case U_pq34 => exact Upd.tail nc (Upd.head hinp)); (case hz_pq34 => rw [List.size_toArray, PySem.sizeLine_eq]; omega))
          intro h9 F9 N9
          (repeat' (first | (k_unfold; (try dsimp only)) | ((fail_if_success (first | (with_reducible show wpAny _ _ (setItem _ _ _) _ _ _) | (with_reducible show wpAny _ _ (call (Value.builtin "dict.get") _) _ _ _) | (with_reducible show wpAny _ _ (exec (Stmt.While _ _ _ _) _) _ _ _) | (with_reducible show wpAny _ _ (exec (Stmt.For _ _ _ _ _) _) _ _ _) | (with_reducible show wpAny _ _ (pyIter _) _ _ _) | (with_reducible show wpAny _ _ (call (Value.builtin "list.append") _) _ _ _) | (with_reducible show wpAny _ _ (eval (Expr.ListComp _ _ _ _) _) _ _ _) | (with_reducible show wpAny _ _ (exec (Stmt.Assign _ (Expr.ListComp _ _ _ _) _) _) _ _ _) | (with_reducible show wpAny _ _ (compareOp CmpOp.NotEq (Value.ref _) (Value.ref _)) _ _ _) | (with_reducible show wpAny _ _ (compareOp CmpOp.Eq (Value.ref _) (Value.ref _)) _ _ _) | (with_reducible show wpAny _ _ (compareOp CmpOp.In _ (Value.ref _)) _ _ _) | (with_reducible show wpAny _ _ (compareOp CmpOp.NotIn _ (Value.ref _)) _ _ _))); (first | walk1 | (dsimp only; walk1)))))
          rw [List.push_toArray] at N9
          refine kd_end ⟨cv', ck', ci', d.pv ++ [.none], d.pk + 1, d.ps ++ [none]⟩ [] hsep (by assumption) (by assumption) ?_ ?_ rfl (by intro _ h; cases h) (by intro _ h; cases h) (by intro _ h; cases h) ?_ ⟨hI2, dat_snoc hpv .none⟩ ⟨hln2, by simp [hpsl], ?_⟩
          · intro p hp; simp only [List.cons_append, List.nil_append, List.mem_cons, List.mem_append] at hp ⊢; rcases hp with h | h | h | h | h | h | h | h <;> simp [h]
          · intro p hp; simp [hp]
          · intro z h1 _ h3; simp at h3; simp [h1, h3, kstB]
          · intro i hi; simp at hi; exact hp0 i hi
        · k_dflt (refine' append_K ?F_pq34 ?N_pq34 ?U_pq34 ?_ ?hz_pq34; (case F_pq34 => k_asm); (case N_pq34 => k_asm); (case U_pq34 => exact Upd.tail nc (Upd.head hinp)); (case hz_pq34 => rw [List.size_toArray, PySem.sizeLine_eq]; omega))
          intro h9 F9 N9
          (repeat' (first | (k_unfold; (try dsimp only)) | ((fail_if_success (first | (with_reducible show wpAny _ _ (setItem _ _ _) _ _ _) | (with_reducible show wpAny _ _ (call (Value.builtin "dict.get") _) _ _ _) | (with_reducible show wpAny _ _ (exec (Stmt.While _ _ _ _) _) _ _ _) | (with_reducible show wpAny _ _ (exec (Stmt.For _ _ _ _ _) _) _ _ _) | (with_reducible show wpAny _ _ (pyIter _) _ _ _) | (with_reducible show wpAny _ _ (call (Value.builtin "list.append") _) _ _ _) | (with_reducible show wpAny _ _ (eval (Expr.ListComp _ _ _ _) _) _ _ _) | (with_reducible show wpAny _ _ (exec (Stmt.Assign _ (Expr.ListComp _ _ _ _) _) _) _ _ _) | (with_reducible show wpAny _ _ (compareOp CmpOp.NotEq (Value.ref _) (Value.ref _)) _ _ _) | (with_reducible show wpAny _ _ (compareOp CmpOp.Eq (Value.ref _) (Value.ref _)) _ _ _) | (with_reducible show wpAny _ _ (compareOp CmpOp.In _ (Value.ref _)) _ _ _) | (with_reducible show wpAny _ _ (compareOp CmpOp.NotIn _ (Value.ref _)) _ _ _))); (first | walk1 | (dsimp only; walk1)))))
          rw [List.push_toArray] at N9
          refine kd_end ⟨cv', ck', ci', d.pv ++ [.int x tx], d.pk + 1, d.ps ++ [some x]⟩ [] hsep (by assumption) (by assumption) ?_ ?_ rfl (by intro _ h; cases h) (by intro _ h; cases h) (by intro _ h; cases h) ?_ ⟨hI2, dat_snoc hpv (.int _ _)⟩ ⟨hln2, by simp [hpsl], ?_⟩
          · intro p hp; simp only [List.cons_append, List.nil_append, List.mem_cons, List.mem_append] at hp ⊢; rcases hp with h | h | h | h | h | h | h | h <;> simp [h]
          · intro p hp; simp [hp]
          · intro z h1 _ h3; simp at h3; simp [h1, h3, kstB]
          · intro i hi; simp at hi; rcases hi with hi | hi; exact hp0 i hi; omega
      · clear N2 F2 hR hI1 hln1
        rintro d tl u h tk hoff ⟨hci, hpv⟩ ⟨hcl, hpsl, hp0⟩ F₁ N₁
        simp only [List.cons_append, List.nil_append] at N₁
        rw [rangeKs_length] at hpsl
        obtain ⟨X5, N5, hp5, hXX, hX5⟩ := seg5_pack N₁ hX4 hcp nc
        obtain ⟨m3, F5⟩ := fr_after F₁ (by decide) (by decide) (by decide) (by decide)
        have hF5 := hF8.mono hXX
        have hC5 := hC8.mono hXX
        have hV5 := hV8.mono hXX
        have hD5 := hXX _ hD8
        have hda5 := hda8.mono hXX
        have hh5 := hXX _ hh8
        have hmt5 := hXX _ hmt8
        have hml5 := hXX _ hml8
        have hps7 : d.ps.length ≤ 7 := by omega
        (try clear N₁); (try clear F₁); (try clear hcp); (try clear nc); (try clear hcc); (try clear hX4); (try clear hXX); (try clear hoff); (try clear hF8); (try clear hC8); (try clear hV8); (try clear hD8); (try clear hda8); (try clear hh8); (try clear hmt8); (try clear hml8); (try clear hpsl); (try clear hci); (try clear hcl); (try clear z0); (try clear z1)
        (repeat (with_reducible rename (∀ (_ : Addr) (_ : Obj), Heap.get? _ _ = some _ → Heap.get? _ _ = some _) => zz; clear zz)); (repeat (with_reducible rename IsRange _ _ _ _ _ _ _ _ => zz; clear zz)); (repeat (with_reducible rename AllLt _ _ => zz; clear zz)); (repeat (with_reducible rename (_ ∧ AllLt _ _) => zz; clear zz)); (repeat (with_reducible rename (_ ∧ _ ∧ AllLt _ _) => zz; clear zz)); (repeat (with_reducible rename (_ ∧ _ ∧ _ ∧ AllLt _ _) => zz; clear zz)); (repeat (with_reducible rename (_ ∧ _ ∧ _ ∧ _ ∧ AllLt _ _) => zz; clear zz)); (repeat (with_reducible rename (_ ∧ _ ∧ _ ∧ _ ∧ _ ∧ AllLt _ _) => zz; clear zz)); (repeat (with_reducible rename (_ ∧ _ ∧ _ ∧ _ ∧ _ ∧ _ ∧ AllLt _ _) => zz; clear zz)); (repeat (with_reducible rename (_ ∧ _ ∧ _ ∧ _ ∧ _ ∧ _ ∧ _ ∧ AllLt _ _) => zz; clear zz)); (repeat (with_reducible rename (_ ∧ _ ∧ _ ∧ _ ∧ _ ∧ _ ∧ _ ∧ _ ∧ AllLt _ _) => zz; clear zz)); (repeat (with_reducible rename (_ ∧ _ ∧ _ ∧ _ ∧ _ ∧ _ ∧ _ ∧ _ ∧ _ ∧ AllLt _ _) => zz; clear zz)); (repeat (with_reducible rename (_ ∧ _ ∧ _ ∧ _ ∧ _ ∧ _ ∧ _ ∧ _ ∧ _ ∧ _ ∧ AllLt _ _) => zz; clear zz))
        dsimp only
        change News _ s1.heap.objs.size _ _ at N5
        change Fr _ s1.heap.objs.size _ _ at F5
        revert N5 F5; (repeat (with_reducible rename News _ _ _ _ => zz; clear zz)); (repeat (with_reducible rename Fr _ _ _ _ => zz; clear zz)); intro N5 F5
        (repeat (rename _ => zz; revert zz)); intro kont; exact kont.out


set_option maxRecDepth 1000000 in
set_option maxHeartbeats 0 in
noncomputable def cut2 : PSigma fun P : Prop => Hide P → cut1.1 := by
  refine' ⟨_, fun kont => _⟩
  rotate_left
  focus
    intro w _ s1 _ _ _ _ _ _ _ _ _ _ _ _ _ _ _ _ _ _ _ _ _ _ _ _ _ _ _ _ _ _ _ _ _ _ _ hL _ _ _ hI _ h63 _ _ _ _ _ _ _ _ _ _ _ _ _ _ qk ek c cv ci ck h1 tk1 hlt _ _ tk r tr cv ck ci h1 tk1 r0 r1 _ tk q tr cv ck ci h1 tk1 q0 q1 _ _ tk m0 tW oC oT oM oP tT dC2 dT dP _ _ _ _ _ g2 ys cv ck ci tl es hes hcol D h' tk' X _ _ hd h2 _ tk _ _ _ _ _ _ _ _ _ _ _ _ _ _ tk X2 md lt nms hv hnm hnl hnk m1 oM2 h' tk' oM mt X cv ck ci kd md lt dM hyl g2 tl cols ml mv mk mtk mkt hmd hmvl hnvl _ _ _ _ _ _ _ _ _ _ _ _ _ _ _ _ lifted lifted lifted lifted qk ek tk _ _ _ _ _ _ _ f tl5 fd h5 tk5 _ tk _ _ _ tk X4 hpl pl rv gr m2 hcw hL hLl hLs hLk hLo z tz cv ck ci h1 tk1 _ _ _ _ _ d tl u h tk hpv hp0 X5 hp5 hX5 m3 hF5 hC5 hV5 hD5 hda5 hh5 hmt5 hml5 hps7 N5 F5
    have hmd4 : mv.length ≤ 4 := by rw [hmd.length]; omega
    have hmd1 : 1 ≤ mv.length := by rw [hmd.length]; omega
    have hpvl : d.pv.length ≤ 1000 := by rw [hpv.length, List.length_map]; omega
    (repeat' (first | (k_unfold; (try dsimp only)) | ((fail_if_success (first | (with_reducible show wpAny _ _ (setItem _ _ _) _ _ _) | (with_reducible show wpAny _ _ (call (Value.builtin "dict.get") _) _ _ _) | (with_reducible show wpAny _ _ (exec (Stmt.While _ _ _ _) _) _ _ _) | (with_reducible show wpAny _ _ (exec (Stmt.For _ _ _ _ _) _) _ _ _) | (with_reducible show wpAny _ _ (pyIter _) _ _ _) | (with_reducible show wpAny _ _ (call (Value.builtin "list.append") _) _ _ _) | (with_reducible show wpAny _ _ (eval (Expr.ListComp _ _ _ _) _) _ _ _) | (with_reducible show wpAny _ _ (exec (Stmt.Assign _ (Expr.ListComp _ _ _ _) _) _) _ _ _) | (with_reducible show wpAny _ _ (compareOp CmpOp.NotEq (Value.ref _) (Value.ref _)) _ _ _) | (with_reducible show wpAny _ _ (compareOp CmpOp.Eq (Value.ref _) (Value.ref _)) _ _ _) | (with_reducible show wpAny _ _ (call (Value.ref 301) _) _ _ _))); (first | walk1 | (dsimp only; walk1)))))
    first | with_reducible rename News _ _ _ _ => N6 | rename News _ _ _ _ => N6
    k_dflt (refine' pick_rows_tell (nms := nms) ?B_pq35 ?F_pq35 ?X_pq35 ?T_pq35 ?hk_pq35 ?hd_pq35 ?hu_pq35 N6 (hF5.mono ?mo1_pq35) ?hn_pq35 (hC5.mono ?mo2_pq35) hcw (hV5.mono ?mo3_pq35) hmd hL hLs hmd4 hmd1 ?hpl_pq35 hpv hps7 hp0 ?_; (case B_pq35 => k_asm); (case F_pq35 => k_asm); (case X_pq35 => k_asm); (case T_pq35 => k_asm); (case hk_pq35 => exact rfl); (case hd_pq35 => ktr_room); (case hu_pq35 => ktr_units); (case mo1_pq35 => intro p hp; simp [hp]); (case mo2_pq35 => intro p hp; simp [hp]); (case mo3_pq35 => intro p hp; simp [hp]); (case hn_pq35 => omega); (case hpl_pq35 => k_mem))
    intro r2 tl2 d2 xs rv2 gv kk vals h7 tk7 F7 N7 hF7 hC7 hxs hV7 hLR hof7
    (repeat' (first | (k_unfold; (try dsimp only)) | ((fail_if_success (first | (with_reducible show wpAny _ _ (setItem _ _ _) _ _ _) | (with_reducible show wpAny _ _ (call (Value.builtin "dict.get") _) _ _ _) | (with_reducible show wpAny _ _ (exec (Stmt.While _ _ _ _) _) _ _ _) | (with_reducible show wpAny _ _ (exec (Stmt.For _ _ _ _ _) _) _ _ _) | (with_reducible show wpAny _ _ (pyIter _) _ _ _) | (with_reducible show wpAny _ _ (call (Value.builtin "list.append") _) _ _ _) | (with_reducible show wpAny _ _ (eval (Expr.ListComp _ _ _ _) _) _ _ _) | (with_reducible show wpAny _ _ (exec (Stmt.Assign _ (Expr.ListComp _ _ _ _) _) _) _ _ _) | (with_reducible show wpAny _ _ (compareOp CmpOp.NotEq (Value.ref _) (Value.ref _)) _ _ _) | (with_reducible show wpAny _ _ (compareOp CmpOp.Eq (Value.ref _) (Value.ref _)) _ _ _) | (with_reducible show wpAny _ _ (call (Value.ref 301) _) _ _ _))); (first | walk1 | (dsimp only; walk1)))))
    first | with_reducible rename News _ _ _ _ => N8 | rename News _ _ _ _ => N8
    first | with_reducible rename Fr _ _ _ _ => F8 | rename Fr _ _ _ _ => F8
    obtain ⟨X6, N9, ht6, hXX, ho6⟩ := seg6_pack N8 hX5 hof7
    have hF6 := hF5.mono hXX
    have hC6 := hC5.mono hXX
    have hV6 := hV5.mono hXX
    have hD6 := hXX _ hD5
    have hda6 := hda5.mono hXX
    have hh6 := hXX _ hh5
    have hmt6 := hXX _ hmt5
    have hml6 := hXX _ hml5
    have hp6 := hXX _ hp5
    have hFt := hF7.mono ht6
    have hCt := hC7.mono ht6
    have hVt := hV7.mono ht6
    (try clear N8); (try clear N7); (try clear hX5); (try clear hof7); (try clear hXX); (try clear ht6); (try clear hF5); (try clear hC5); (try clear hV5); (try clear hD5); (try clear hda5); (try clear hh5); (try clear hmt5); (try clear hml5); (try clear hp5); (try clear hF7); (try clear hC7); (try clear hV7)
    (repeat (with_reducible rename (∀ (_ : Addr) (_ : Obj), Heap.get? _ _ = some _ → Heap.get? _ _ = some _) => zz; clear zz)); (repeat (with_reducible rename IsRange _ _ _ _ _ _ _ _ => zz; clear zz)); (repeat (with_reducible rename AllLt _ _ => zz; clear zz)); (repeat (with_reducible rename (_ ∧ AllLt _ _) => zz; clear zz)); (repeat (with_reducible rename (_ ∧ _ ∧ AllLt _ _) => zz; clear zz)); (repeat (with_reducible rename (_ ∧ _ ∧ _ ∧ AllLt _ _) => zz; clear zz)); (repeat (with_reducible rename (_ ∧ _ ∧ _ ∧ _ ∧ AllLt _ _) => zz; clear zz)); (repeat (with_reducible rename (_ ∧ _ ∧ _ ∧ _ ∧ _ ∧ AllLt _ _) => zz; clear zz)); (repeat (with_reducible rename (_ ∧ _ ∧ _ ∧ _ ∧ _ ∧ _ ∧ AllLt _ _) => zz; clear zz)); (repeat (with_reducible rename (_ ∧ _ ∧ _ ∧ _ ∧ _ ∧ _ ∧ _ ∧ AllLt _ _) => zz; clear zz)); (repeat (with_reducible rename (_ ∧ _ ∧ _ ∧ _ ∧ _ ∧ _ ∧ _ ∧ _ ∧ AllLt _ _) => zz; clear zz)); (repeat (with_reducible rename (_ ∧ _ ∧ _ ∧ _ ∧ _ ∧ _ ∧ _ ∧ _ ∧ _ ∧ AllLt _ _) => zz; clear zz)); (repeat (with_reducible rename (_ ∧ _ ∧ _ ∧ _ ∧ _ ∧ _ ∧ _ ∧ _ ∧ _ ∧ _ ∧ AllLt _ _) => zz; clear zz))
    refine wpAny_Assign_Name ?_ (by with_unfolding_all rfl)
    k_dflt (refine LCg.ListComp_U (F₀ := by k_asm) (by with_unfolding_all rfl) (by decide) (by rfl) (by decide) (by rfl) ?_)
    (repeat' (first | (k_unfold; (try dsimp only)) | ((fail_if_success (first | (with_reducible show wpAny _ _ (setItem _ _ _) _ _ _) | (with_reducible show wpAny _ _ (call (Value.builtin "dict.get") _) _ _ _) | (with_reducible show wpAny _ _ (exec (Stmt.While _ _ _ _) _) _ _ _) | (with_reducible show wpAny _ _ (exec (Stmt.For _ _ _ _ _) _) _ _ _) | (with_reducible show wpAny _ _ (pyIter _) _ _ _) | (with_reducible show wpAny _ _ (call (Value.builtin "list.append") _) _ _ _) | (with_reducible show wpAny _ _ (eval (Expr.ListComp _ _ _ _) _) _ _ _) | (with_reducible show wpAny _ _ (exec (Stmt.Assign _ (Expr.ListComp _ _ _ _) _) _) _ _ _) | (with_reducible show wpAny _ _ (compareOp CmpOp.NotEq (Value.ref _) (Value.ref _)) _ _ _) | (with_reducible show wpAny _ _ (compareOp CmpOp.Eq (Value.ref _) (Value.ref _)) _ _ _) | (with_reducible show wpAny _ _ (compareOp CmpOp.In _ (Value.ref _)) _ _ _) | (with_reducible show wpAny _ _ (compareOp CmpOp.NotIn _ (Value.ref _)) _ _ _) | (with_reducible show LCg.CompSrc _ _ _ _ _ _ _ _ _ _ _ _ _ _) | (with_reducible show LCt.CompSrcT _ _ _ _ _ _ _ _ _ _ _ _ _ _ _))); (first | walk1 | (dsimp only; walk1)))))
    k_dflt (refine LCg.CompSrc.ledger (its := d.pv.toArray) (by rfl) (by k_asm) (by k_asm) (by k_mem) (by rw [List.size_toArray, PySem.sizeLine_eq]; omega) ?_)
    intro g2
    refine comp_dat (normD (1 + q)) hpv ?_ ?_
    · intro d x I oI C oC D m₂ ys h tk E' hd' hx hC hm2 F₃ N₃ off ne
      obtain ⟨p, hp, rfl⟩ := List.mem_map.mp hd'
      cases p with
      | none =>
        rcases hx with _ | _ | _ | _ | _ | _ | _
        (repeat' (first | (k_unfold; (try dsimp only)) | ((fail_if_success (first | (with_reducible show wpAny _ _ (setItem _ _ _) _ _ _) | (with_reducible show wpAny _ _ (call (Value.builtin "dict.get") _) _ _ _) | (with_reducible show wpAny _ _ (exec (Stmt.While _ _ _ _) _) _ _ _) | (with_reducible show wpAny _ _ (exec (Stmt.For _ _ _ _ _) _) _ _ _) | (with_reducible show wpAny _ _ (pyIter _) _ _ _) | (with_reducible show wpAny _ _ (call (Value.builtin "list.append") _) _ _ _) | (with_reducible show wpAny _ _ (eval (Expr.ListComp _ _ _ _) _) _ _ _) | (with_reducible show wpAny _ _ (exec (Stmt.Assign _ (Expr.ListComp _ _ _ _) _) _) _ _ _) | (with_reducible show wpAny _ _ (compareOp CmpOp.NotEq (Value.ref _) (Value.ref _)) _ _ _) | (with_reducible show wpAny _ _ (compareOp CmpOp.Eq (Value.ref _) (Value.ref _)) _ _ _) | (with_reducible show wpAny _ _ (compareOp CmpOp.In _ (Value.ref _)) _ _ _) | (with_reducible show wpAny _ _ (compareOp CmpOp.NotIn _ (Value.ref _)) _ _ _))); (first | walk1 | (dsimp only; walk1)))))
        exact comp_end (by k_asm) (by k_asm) (fun p hp => hp) off (src_ledger (by k_mem)) .none
      | some i =>
        rcases hx with _ | _ | ⟨_, ti⟩ | _ | _ | _ | _
        (repeat' (first | (k_unfold; (try dsimp only)) | ((fail_if_success (first | (with_reducible show wpAny _ _ (setItem _ _ _) _ _ _) | (with_reducible show wpAny _ _ (call (Value.builtin "dict.get") _) _ _ _) | (with_reducible show wpAny _ _ (exec (Stmt.While _ _ _ _) _) _ _ _) | (with_reducible show wpAny _ _ (exec (Stmt.For _ _ _ _ _) _) _ _ _) | (with_reducible show wpAny _ _ (pyIter _) _ _ _) | (with_reducible show wpAny _ _ (call (Value.builtin "list.append") _) _ _ _) | (with_reducible show wpAny _ _ (eval (Expr.ListComp _ _ _ _) _) _ _ _) | (with_reducible show wpAny _ _ (exec (Stmt.Assign _ (Expr.ListComp _ _ _ _) _) _) _ _ _) | (with_reducible show wpAny _ _ (compareOp CmpOp.NotEq (Value.ref _) (Value.ref _)) _ _ _) | (with_reducible show wpAny _ _ (compareOp CmpOp.Eq (Value.ref _) (Value.ref _)) _ _ _) | (with_reducible show wpAny _ _ (compareOp CmpOp.In _ (Value.ref _)) _ _ _) | (with_reducible show wpAny _ _ (compareOp CmpOp.NotIn _ (Value.ref _)) _ _ _))); (first | walk1 | (dsimp only; walk1)))))
        · have e : normD (1 + q) (plD (some i)) = Dat.none := if_neg (by omega)
          exact comp_end (by k_asm) (by k_asm) (fun p hp => hp) off (src_ledger (by k_mem)) (by rw [e]; exact .none)
        · have e : normD (1 + q) (plD (some i)) = Dat.int i := if_pos (by omega)
          exact comp_end (by k_asm) (by k_asm) (fun p hp => hp) off (src_ledger (by k_mem)) (by rw [e]; exact .int _ _)
    · intro tv htv
      rw [normD_map] at htv
      (repeat' (first | (k_unfold; (try dsimp only)) | ((fail_if_success (first | (with_reducible show wpAny _ _ (setItem _ _ _) _ _ _) | (with_reducible show wpAny _ _ (call (Value.builtin "dict.get") _) _ _ _) | (with_reducible show wpAny _ _ (exec (Stmt.While _ _ _ _) _) _ _ _) | (with_reducible show wpAny _ _ (exec (Stmt.For _ _ _ _ _) _) _ _ _) | (with_reducible show wpAny _ _ (pyIter _) _ _ _) | (with_reducible show wpAny _ _ (call (Value.builtin "list.append") _) _ _ _) | (with_reducible show wpAny _ _ (eval (Expr.ListComp _ _ _ _) _) _ _ _) | (with_reducible show wpAny _ _ (exec (Stmt.Assign _ (Expr.ListComp _ _ _ _) _) _) _ _ _) | (with_reducible show wpAny _ _ (compareOp CmpOp.NotEq (Value.ref _) (Value.ref _)) _ _ _) | (with_reducible show wpAny _ _ (compareOp CmpOp.Eq (Value.ref _) (Value.ref _)) _ _ _) | (with_reducible show wpAny _ _ (compareOp CmpOp.In _ (Value.ref _)) _ _ _) | (with_reducible show wpAny _ _ (compareOp CmpOp.NotIn _ (Value.ref _)) _ _ _))); (first | walk1 | (dsimp only; walk1)))))
      first | with_reducible rename News _ _ _ _ => N8 | rename News _ _ _ _ => N8
      first | with_reducible rename (_ ∧ _ ∧ _ ∧ _ ∧ LCg.Off1 _ X6) => o1 | rename (_ ∧ _ ∧ _ ∧ _ ∧ LCg.Off1 _ X6) => o1
      k_dflt (refine' storeX_C ?F_pq35 ?N_pq35 ?c_pq35 ?U_pq35 ?d_pq35 ?_ ?a_pq35 ?b_pq35; (case a_pq35 => rfl); (case b_pq35 => rfl); (case F_pq35 => k_asm); (case N_pq35 => exact present_first N8); (case c_pq35 => rfl); (case U_pq35 => exact UpdF.head (present_off o1.2.1 (by refine neN ?_; omega) (by refine neN ?_; omega) (by refine neN ?_; omega) ho6)); (case d_pq35 => exact dP))
      clear N8 o1 dP
      intro h9 oP2 F9 N9 dP2
      try dsimp only at N9
      obtain ⟨pr, X7, N10, dP3, hpr, hXX⟩ := seg6_state N9 dP2
      have hF7 := hF6.mono hXX
      have hC7 := hC6.mono hXX
      have hV7 := hV6.mono hXX
      have hD7 := hXX _ hD6
      have hda7 := hda6.mono hXX
      have hh7 := hXX _ hh6
      have hmt7 := hXX _ hmt6
      have hml7 := hXX _ hml6
      have hFt7 := hFt.mono hXX
      have hCt7 := hCt.mono hXX
      have hVt7 := hVt.mono hXX
      (try clear N9); (try clear dP2); (try clear hXX); (try clear ho6); (try clear hF6); (try clear hC6); (try clear hV6); (try clear hD6); (try clear hda6); (try clear hh6); (try clear hmt6); (try clear hml6); (try clear hp6); (try clear hFt); (try clear hCt); (try clear hVt)
      revert N10 F9; (repeat (with_reducible rename News _ _ _ _ => zz; clear zz)); (repeat (with_reducible rename Fr _ _ _ _ => zz; clear zz)); intro F9 N10
      have hyl : ys.length ≤ 2 := by rw [hda7.length, hes]; omega
      have htvl : tv.length ≤ 7 := by rw [htv.length, List.length_map, List.length_map]; exact hps7
      (repeat' (first | (k_unfold; (try dsimp only)) | ((fail_if_success (first | (with_reducible show wpAny _ _ (setItem _ _ _) _ _ _) | (with_reducible show wpAny _ _ (call (Value.builtin "dict.get") _) _ _ _) | (with_reducible show wpAny _ _ (exec (Stmt.While _ _ _ _) _) _ _ _) | (with_reducible show wpAny _ _ (exec (Stmt.For _ _ _ _ _) _) _ _ _) | (with_reducible show wpAny _ _ (pyIter _) _ _ _) | (with_reducible show wpAny _ _ (call (Value.builtin "list.append") _) _ _ _) | (with_reducible show wpAny _ _ (eval (Expr.ListComp _ _ _ _) _) _ _ _) | (with_reducible show wpAny _ _ (exec (Stmt.Assign _ (Expr.ListComp _ _ _ _) _) _) _ _ _) | (with_reducible show wpAny _ _ (compareOp CmpOp.NotEq (Value.ref _) (Value.ref _)) _ _ _) | (with_reducible show wpAny _ _ (compareOp CmpOp.Eq (Value.ref _) (Value.ref _)) _ _ _) | (with_reducible show wpAny _ _ (compareOp CmpOp.In _ (Value.ref _)) _ _ _) | (with_reducible show wpAny _ _ (compareOp CmpOp.NotIn _ (Value.ref _)) _ _ _))); (first | walk1 | (dsimp only; walk1)))))
      k_dflt (refine Assign_comp_cell (ax := D) (its := ys.toArray) (kn := ys.length) (DueJ _ es (d.ps.map (norm (1 + q)))) F9 N10 (by k_mem) (by rfl) (by rfl) (by with_unfolding_all rfl) (by with_unfolding_all rfl) (by rfl) (by decide) (fun _ => rfl) (fun _ => rfl) (fun _ _ => rfl) (by rfl) (by rfl) (fun _ => rfl) ?_ ?_ ?_ DueJ.start ?_ ?_)
      · rw [List.size_toArray, PySem.sizeLine_eq]; omega
      · intro Q' hq'
        (repeat' (first | (k_unfold; (try dsimp only)) | ((fail_if_success (first | (with_reducible show wpAny _ _ (setItem _ _ _) _ _ _) | (with_reducible show wpAny _ _ (call (Value.builtin "dict.get") _) _ _ _) | (with_reducible show wpAny _ _ (exec (Stmt.While _ _ _ _) _) _ _ _) | (with_reducible show wpAny _ _ (exec (Stmt.For _ _ _ _ _) _) _ _ _) | (with_reducible show wpAny _ _ (pyIter _) _ _ _) | (with_reducible show wpAny _ _ (call (Value.builtin "list.append") _) _ _ _) | (with_reducible show wpAny _ _ (eval (Expr.ListComp _ _ _ _) _) _ _ _) | (with_reducible show wpAny _ _ (exec (Stmt.Assign _ (Expr.ListComp _ _ _ _) _) _) _ _ _) | (with_reducible show wpAny _ _ (compareOp CmpOp.NotEq (Value.ref _) (Value.ref _)) _ _ _) | (with_reducible show wpAny _ _ (compareOp CmpOp.Eq (Value.ref _) (Value.ref _)) _ _ _) | (with_reducible show wpAny _ _ (compareOp CmpOp.In _ (Value.ref _)) _ _ _) | (with_reducible show wpAny _ _ (compareOp CmpOp.NotIn _ (Value.ref _)) _ _ _))); (first | walk1 | (dsimp only; walk1)))))
        exact hq'
      · rintro i zs nx ⟨⟨tl, rfl, _⟩⟩
        k_mem
      · rintro I C K DD oC i v nx oI oK zs h tk E' ne hi hv ⟨⟨tl, rfl, hdz⟩⟩ hoK F1 N1 off
        clear F9 N10
        obtain ⟨e, he1, he2, he3⟩ := dat_atL hda7 hv
        obtain ⟨a, vs, k, is, rfl, hav, hvs, rfl, hil, hib⟩ := dat_col he3 (hcol _ he2)
        k_dflt (refine LCg.ListComp_U (F₀ := by k_asm) (by with_unfolding_all rfl) (by decide) (by rfl) (by decide) (by rfl) ?_)
        (repeat' (first | (k_unfold; (try dsimp only)) | ((fail_if_success (first | (with_reducible show wpAny _ _ (setItem _ _ _) _ _ _) | (with_reducible show wpAny _ _ (call (Value.builtin "dict.get") _) _ _ _) | (with_reducible show wpAny _ _ (exec (Stmt.While _ _ _ _) _) _ _ _) | (with_reducible show wpAny _ _ (exec (Stmt.For _ _ _ _ _) _) _ _ _) | (with_reducible show wpAny _ _ (pyIter _) _ _ _) | (with_reducible show wpAny _ _ (call (Value.builtin "list.append") _) _ _ _) | (with_reducible show wpAny _ _ (eval (Expr.ListComp _ _ _ _) _) _ _ _) | (with_reducible show wpAny _ _ (exec (Stmt.Assign _ (Expr.ListComp _ _ _ _) _) _) _ _ _) | (with_reducible show wpAny _ _ (compareOp CmpOp.NotEq (Value.ref _) (Value.ref _)) _ _ _) | (with_reducible show wpAny _ _ (compareOp CmpOp.Eq (Value.ref _) (Value.ref _)) _ _ _) | (with_reducible show wpAny _ _ (compareOp CmpOp.In _ (Value.ref _)) _ _ _) | (with_reducible show wpAny _ _ (compareOp CmpOp.NotIn _ (Value.ref _)) _ _ _) | (with_reducible show LCg.CompSrc _ _ _ _ _ _ _ _ _ _ _ _ _ _) | (with_reducible show LCt.CompSrcT _ _ _ _ _ _ _ _ _ _ _ _ _ _ _))); (first | walk1 | (dsimp only; walk1)))))
        k_dflt (refine LCg.CompSrc.ledger (its := tv.toArray) (by rfl) (by k_asm) (by k_asm) (by k_mem) (by rw [List.size_toArray, PySem.sizeLine_eq]; omega) ?_)
        intro g2
        refine comp_dat (dueD (is.map Dat.int)) htv ?_ ?_
        · intro x v I oI C oC D m₂ ys h tk E' hx' hx hC hm2 F₃ N₃ off ne
          obtain ⟨p, hp, rfl⟩ := List.mem_map.mp hx'
          cases p with
          | none =>
            rcases hx with _ | _ | _ | _ | _ | _ | _
            (repeat' (first | (k_unfold; (try dsimp only)) | ((fail_if_success (first | (with_reducible show wpAny _ _ (setItem _ _ _) _ _ _) | (with_reducible show wpAny _ _ (call (Value.builtin "dict.get") _) _ _ _) | (with_reducible show wpAny _ _ (exec (Stmt.While _ _ _ _) _) _ _ _) | (with_reducible show wpAny _ _ (exec (Stmt.For _ _ _ _ _) _) _ _ _) | (with_reducible show wpAny _ _ (pyIter _) _ _ _) | (with_reducible show wpAny _ _ (call (Value.builtin "list.append") _) _ _ _) | (with_reducible show wpAny _ _ (eval (Expr.ListComp _ _ _ _) _) _ _ _) | (with_reducible show wpAny _ _ (exec (Stmt.Assign _ (Expr.ListComp _ _ _ _) _) _) _ _ _) | (with_reducible show wpAny _ _ (compareOp CmpOp.NotEq (Value.ref _) (Value.ref _)) _ _ _) | (with_reducible show wpAny _ _ (compareOp CmpOp.Eq (Value.ref _) (Value.ref _)) _ _ _) | (with_reducible show wpAny _ _ (subscriptTail _ _ (Value.ref _) (Value.int _ _)) _ _ _))); (first | walk1 | (dsimp only; walk1)))))
            exact comp_end (by k_asm) (by k_asm) (fun p hp => hp) off (src_ledger (by k_mem)) .none
          | some j =>
            rcases hx with _ | _ | ⟨_, tj⟩ | _ | _ | _ | _
            obtain ⟨hj1, hj2⟩ := norm_mem hp
            have hj0 := hp0 j hj1
            obtain ⟨v, tv9, hv1, rfl⟩ := int_at hvs (k := j.toNat) (by omega)
            (repeat' (first | (k_unfold; (try dsimp only)) | ((fail_if_success (first | (with_reducible show wpAny _ _ (setItem _ _ _) _ _ _) | (with_reducible show wpAny _ _ (call (Value.builtin "dict.get") _) _ _ _) | (with_reducible show wpAny _ _ (exec (Stmt.While _ _ _ _) _) _ _ _) | (with_reducible show wpAny _ _ (exec (Stmt.For _ _ _ _ _) _) _ _ _) | (with_reducible show wpAny _ _ (pyIter _) _ _ _) | (with_reducible show wpAny _ _ (call (Value.builtin "list.append") _) _ _ _) | (with_reducible show wpAny _ _ (eval (Expr.ListComp _ _ _ _) _) _ _ _) | (with_reducible show wpAny _ _ (exec (Stmt.Assign _ (Expr.ListComp _ _ _ _) _) _) _ _ _) | (with_reducible show wpAny _ _ (compareOp CmpOp.NotEq (Value.ref _) (Value.ref _)) _ _ _) | (with_reducible show wpAny _ _ (compareOp CmpOp.Eq (Value.ref _) (Value.ref _)) _ _ _) | (with_reducible show wpAny _ _ (subscriptTail _ _ (Value.ref _) (Value.int _ _)) _ _ _))); (first | walk1 | (dsimp only; walk1)))))
            k_dflt (refine' item_M ?N_pq36 ?m_pq36 hj0 ?f_pq36 hv1 ?_ ?hs_pq36; (case N_pq36 => k_asm); (case m_pq36 => k_mem); (case f_pq36 => omega); (case hs_pq36 => with_unfolding_all rfl))
            (repeat' (first | (k_unfold; (try dsimp only)) | ((fail_if_success (first | (with_reducible show wpAny _ _ (setItem _ _ _) _ _ _) | (with_reducible show wpAny _ _ (call (Value.builtin "dict.get") _) _ _ _) | (with_reducible show wpAny _ _ (exec (Stmt.While _ _ _ _) _) _ _ _) | (with_reducible show wpAny _ _ (exec (Stmt.For _ _ _ _ _) _) _ _ _) | (with_reducible show wpAny _ _ (pyIter _) _ _ _) | (with_reducible show wpAny _ _ (call (Value.builtin "list.append") _) _ _ _) | (with_reducible show wpAny _ _ (eval (Expr.ListComp _ _ _ _) _) _ _ _) | (with_reducible show wpAny _ _ (exec (Stmt.Assign _ (Expr.ListComp _ _ _ _) _) _) _ _ _) | (with_reducible show wpAny _ _ (compareOp CmpOp.NotEq (Value.ref _) (Value.ref _)) _ _ _) | (with_reducible show wpAny _ _ (compareOp CmpOp.Eq (Value.ref _) (Value.ref _)) _ _ _) | (with_reducible show wpAny _ _ (subscriptTail _ _ (Value.ref _) (Value.int _ _)) _ _ _))); (first | walk1 | (dsimp only; walk1)))))
            exact comp_end (by k_asm) (by k_asm) (fun p hp => hp) off (src_ledger (by k_mem)) (due_int (by omega) (by omega))
        · intro uv huv
          rw [dueD_map] at huv
          (repeat' (first | (k_unfold; (try dsimp only)) | ((fail_if_success (first | (with_reducible show wpAny _ _ (setItem _ _ _) _ _ _) | (with_reducible show wpAny _ _ (call (Value.builtin "dict.get") _) _ _ _) | (with_reducible show wpAny _ _ (exec (Stmt.While _ _ _ _) _) _ _ _) | (with_reducible show wpAny _ _ (exec (Stmt.For _ _ _ _ _) _) _ _ _) | (with_reducible show wpAny _ _ (pyIter _) _ _ _) | (with_reducible show wpAny _ _ (call (Value.builtin "list.append") _) _ _ _) | (with_reducible show wpAny _ _ (eval (Expr.ListComp _ _ _ _) _) _ _ _) | (with_reducible show wpAny _ _ (exec (Stmt.Assign _ (Expr.ListComp _ _ _ _) _) _) _ _ _) | (with_reducible show wpAny _ _ (compareOp CmpOp.NotEq (Value.ref _) (Value.ref _)) _ _ _) | (with_reducible show wpAny _ _ (compareOp CmpOp.Eq (Value.ref _) (Value.ref _)) _ _ _) | (with_reducible show wpAny _ _ (compareOp CmpOp.In _ (Value.ref _)) _ _ _) | (with_reducible show wpAny _ _ (compareOp CmpOp.NotIn _ (Value.ref _)) _ _ _))); (first | walk1 | (dsimp only; walk1)))))
          first | with_reducible rename (_ ∧ _ ∧ _ ∧ _ ∧ LCg.Off1 _ (tl ++ _)) => o1 | rename (_ ∧ _ ∧ _ ∧ _ ∧ LCg.Off1 _ (tl ++ _)) => o1
          exact cell_end (by k_asm) (by k_asm) off ⟨o1.1, o1.2.1, o1.2.2.1, o1.2.2.2.1⟩ (DueJ.snoc hdz he1 huv)
      · rintro du zs nx h tk ⟨⟨tl, rfl, hdz⟩⟩ F1 N1 hoff
        clear F9 N10
        rw [List.size_toArray, hda7.length, List.take_length, due_eq hcol] at hdz
        obtain ⟨X8, N8, hdu, hs8, hXX⟩ := seg7_pack N1
        have hdz8 := hdz.mono hs8
        have hF8 := hF7.mono hXX
        have hC8 := hC7.mono hXX
        have hV8 := hV7.mono hXX
        have hD8 := hXX _ hD7
        have hda8 := hda7.mono hXX
        have hh8 := hXX _ hh7
        have hmt8 := hXX _ hmt7
        have hml8 := hXX _ hml7
        have hpr8 := hXX _ hpr
        have hFt8 := hFt7.mono hXX
        have hCt8 := hCt7.mono hXX
        have hVt8 := hVt7.mono hXX
        (try clear N1); (try clear hoff); (try clear hs8); (try clear hdz); (try clear hXX); (try clear hF7); (try clear hC7); (try clear hV7); (try clear hD7); (try clear hda7); (try clear hh7); (try clear hmt7); (try clear hml7); (try clear hFt7); (try clear hCt7); (try clear hVt7); (try clear hpr)
        (repeat (rename _ => zz; revert zz)); intro kont; exact kont.out


set_option maxRecDepth 1000000 in
set_option maxHeartbeats 0 in
noncomputable def cut3 : PSigma fun P : Prop => Hide P → cut2.1 := by
  refine' ⟨_, fun kont => _⟩
  rotate_left
  focus
    intro w _ s1 _ _ _ _ _ _ _ _ _ _ _ _ _ _ _ _ _ _ _ _ _ _ _ _ _ _ _ _ _ _ _ _ _ _ _ hL _ _ _ hI _ h63 _ _ _ _ _ _ _ _ _ _ _ _ _ _ qk ek c cv ci ck h1 tk1 hlt _ _ tk r tr cv ck ci h1 tk1 r0 r1 _ tk q tr cv ck ci h1 tk1 q0 q1 _ _ tk m0 tW oC oT oM oP tT dC2 dT _ _ _ _ _ g2 ys cv ck ci tl es hes hcol D h' tk' X _ _ hd h2 _ tk _ _ _ _ _ _ _ _ _ _ _ _ _ _ tk X2 md lt nms hv hnm hnl hnk m1 oM2 h' tk' oM mt X cv ck ci kd md lt dM hyl g2 tl cols ml mv mk mtk mkt hmd hmvl hnvl _ _ _ _ _ _ _ _ _ _ _ _ _ _ _ _ lifted lifted lifted lifted qk ek tk _ _ _ _ _ _ _ f tl5 fd h5 tk5 _ tk _ _ _ tk X4 hpl pl rv gr m2 hcw hL hLl hLs hLk hLo z tz cv ck ci h1 tk1 _ _ _ _ _ d tl u h tk hpv hp0 X5 m3 hps7 hmd4 hmd1 hpvl _ _ _ r2 tl2 d2 xs rv2 gv kk vals h7 tk7 hxs hLR _ tk X6 g2 tv htv _ _ _ h9 oP2 pr X7 dP3 hyl htvl du zs h tk tl F1 X8 N8 hdu hdz8 hF8 hC8 hV8 hD8 hda8 hh8 hmt8 hml8 hpr8 hFt8 hCt8 hVt8
    dsimp only
    have a1 := hFt8.a1
    have a2 := hFt8.a2
    have a3 := hFt8.a3
    have a4 := hFt8.a4
    have a5 := hFt8.a5
    have a6 := hFt8.a6
    have a7 := hFt8.a7
    have a8 := hFt8.a8
    have a9 := hFt8.a9
    have a10 := hFt8.a10
    (repeat' (first | (k_unfold; (try dsimp only)) | ((fail_if_success (first | (with_reducible show wpAny _ _ (setItem _ _ _) _ _ _) | (with_reducible show wpAny _ _ (call (Value.builtin "dict.get") _) _ _ _) | (with_reducible show wpAny _ _ (exec (Stmt.While _ _ _ _) _) _ _ _) | (with_reducible show wpAny _ _ (exec (Stmt.For _ _ _ _ _) _) _ _ _) | (with_reducible show wpAny _ _ (pyIter _) _ _ _) | (with_reducible show wpAny _ _ (call (Value.builtin "list.append") _) _ _ _) | (with_reducible show wpAny _ _ (eval (Expr.ListComp _ _ _ _) _) _ _ _) | (with_reducible show wpAny _ _ (exec (Stmt.Assign _ (Expr.ListComp _ _ _ _) _) _) _ _ _) | (with_reducible show wpAny _ _ (compareOp CmpOp.NotEq (Value.ref _) (Value.ref _)) _ _ _) | (with_reducible show wpAny _ _ (compareOp CmpOp.Eq (Value.ref _) (Value.ref _)) _ _ _) | (with_reducible show wpAny _ _ (compareOp CmpOp.In _ (Value.ref _)) _ _ _) | (with_reducible show wpAny _ _ (compareOp CmpOp.NotIn _ (Value.ref _)) _ _ _) | (with_reducible show LCg.CompSrc _ _ _ _ _ _ _ _ _ _ _ _ _ _) | (with_reducible show LCt.CompSrcT _ _ _ _ _ _ _ _ _ _ _ _ _ _ _))); (first | walk1 | (dsimp only; walk1)))))
    k_dflt (refine LCg.ListComp_U (F₀ := by k_asm) (by with_unfolding_all rfl) (by decide) (by rfl) (by decide) (by rfl) ?_)
    (repeat' (first | (k_unfold; (try dsimp only)) | ((fail_if_success (first | (with_reducible show wpAny _ _ (setItem _ _ _) _ _ _) | (with_reducible show wpAny _ _ (call (Value.builtin "dict.get") _) _ _ _) | (with_reducible show wpAny _ _ (exec (Stmt.While _ _ _ _) _) _ _ _) | (with_reducible show wpAny _ _ (exec (Stmt.For _ _ _ _ _) _) _ _ _) | (with_reducible show wpAny _ _ (pyIter _) _ _ _) | (with_reducible show wpAny _ _ (call (Value.builtin "list.append") _) _ _ _) | (with_reducible show wpAny _ _ (eval (Expr.ListComp _ _ _ _) _) _ _ _) | (with_reducible show wpAny _ _ (exec (Stmt.Assign _ (Expr.ListComp _ _ _ _) _) _) _ _ _) | (with_reducible show wpAny _ _ (compareOp CmpOp.NotEq (Value.ref _) (Value.ref _)) _ _ _) | (with_reducible show wpAny _ _ (compareOp CmpOp.Eq (Value.ref _) (Value.ref _)) _ _ _) | (with_reducible show wpAny _ _ (compareOp CmpOp.In _ (Value.ref _)) _ _ _) | (with_reducible show wpAny _ _ (compareOp CmpOp.NotIn _ (Value.ref _)) _ _ _) | (with_reducible show LCg.CompSrc _ _ _ _ _ _ _ _ _ _ _ _ _ _) | (with_reducible show LCt.CompSrcT _ _ _ _ _ _ _ _ _ _ _ _ _ _ _))); (first | walk1 | (dsimp only; walk1)))))
    k_dflt (refine LCg.CompSrc.ledger (its := (xs.map Value.ref).toArray) (by rfl) (by k_asm) (by k_asm) (by k_mem) (by rw [List.size_toArray, List.length_map, PySem.sizeLine_eq]; omega) ?_)
    intro g2
    refine comp_cols (hCt8.mono (by intro p hp; simp [hp])) ?_ ?_
    · intro c cv g ds I oI C oC D m₂ ys h tk E' hV hda hCo hx F4 N4 off4 ne4
      have v1 := hV.b1
      have v2 := hV.b2
      have v3 := hV.b3
      (repeat' (first | (k_unfold; (try dsimp only)) | ((fail_if_success (first | (with_reducible show wpAny _ _ (setItem _ _ _) _ _ _) | (with_reducible show wpAny _ _ (call (Value.builtin "dict.get") _) _ _ _) | (with_reducible show wpAny _ _ (exec (Stmt.While _ _ _ _) _) _ _ _) | (with_reducible show wpAny _ _ (exec (Stmt.For _ _ _ _ _) _) _ _ _) | (with_reducible show wpAny _ _ (pyIter _) _ _ _) | (with_reducible show wpAny _ _ (call (Value.builtin "list.append") _) _ _ _) | (with_reducible show wpAny _ _ (eval (Expr.ListComp _ _ _ _) _) _ _ _) | (with_reducible show wpAny _ _ (exec (Stmt.Assign _ (Expr.ListComp _ _ _ _) _) _) _ _ _) | (with_reducible show wpAny _ _ (compareOp CmpOp.NotEq (Value.ref _) (Value.ref _)) _ _ _) | (with_reducible show wpAny _ _ (compareOp CmpOp.Eq (Value.ref _) (Value.ref _)) _ _ _) | (with_reducible show wpAny _ _ (compareOp CmpOp.In _ (Value.ref _)) _ _ _) | (with_reducible show wpAny _ _ (compareOp CmpOp.NotIn _ (Value.ref _)) _ _ _))); (first | walk1 | (dsimp only; walk1)))))
      exact comp_end (by k_asm) (by k_asm) (fun p hp => by simp only [List.mem_cons] at hp ⊢; exact hp) off4 (src_ledger (by k_mem)) rfl
    · intro zs2 hzs2
      (repeat' (first | (k_unfold; (try dsimp only)) | ((fail_if_success (first | (with_reducible show wpAny _ _ (setItem _ _ _) _ _ _) | (with_reducible show wpAny _ _ (call (Value.builtin "dict.get") _) _ _ _) | (with_reducible show wpAny _ _ (exec (Stmt.While _ _ _ _) _) _ _ _) | (with_reducible show wpAny _ _ (exec (Stmt.For _ _ _ _ _) _) _ _ _) | (with_reducible show wpAny _ _ (pyIter _) _ _ _) | (with_reducible show wpAny _ _ (call (Value.builtin "list.append") _) _ _ _) | (with_reducible show wpAny _ _ (eval (Expr.ListComp _ _ _ _) _) _ _ _) | (with_reducible show wpAny _ _ (exec (Stmt.Assign _ (Expr.ListComp _ _ _ _) _) _) _ _ _) | (with_reducible show wpAny _ _ (compareOp CmpOp.NotEq (Value.ref _) (Value.ref _)) _ _ _) | (with_reducible show wpAny _ _ (compareOp CmpOp.Eq (Value.ref _) (Value.ref _)) _ _ _) | (with_reducible show wpAny _ _ (compareOp CmpOp.In _ (Value.ref _)) _ _ _) | (with_reducible show wpAny _ _ (compareOp CmpOp.NotIn _ (Value.ref _)) _ _ _) | (with_reducible show LCg.CompSrc _ _ _ _ _ _ _ _ _ _ _ _ _ _) | (with_reducible show LCt.CompSrcT _ _ _ _ _ _ _ _ _ _ _ _ _ _ _))); (first | walk1 | (dsimp only; walk1)))))
      first | with_reducible rename News _ _ _ _ => N9 | rename News _ _ _ _ => N9
      refine dat_ne_same N9 (d := Dat.list (es.map (pickL d.ps))) (.list (List.mem_cons_self) (hzs2.mono (fun p hp => List.mem_cons_of_mem _ hp))) (fun _ h => h) (.list (by k_mem : (du, listOf zs.toArray zs.length) ∈ _) (hdz8.mono (by intro p hp; simp [hp]))) (fun _ h => h) ?_ ?_ ?_
      · simp only [kqdOk, List.all_eq_true]; exact hCt8.ok
      · ktr_units
      (repeat' (first | (k_unfold; (try dsimp only)) | ((fail_if_success (first | (with_reducible show wpAny _ _ (setItem _ _ _) _ _ _) | (with_reducible show wpAny _ _ (call (Value.builtin "dict.get") _) _ _ _) | (with_reducible show wpAny _ _ (exec (Stmt.While _ _ _ _) _) _ _ _) | (with_reducible show wpAny _ _ (exec (Stmt.For _ _ _ _ _) _) _ _ _) | (with_reducible show wpAny _ _ (pyIter _) _ _ _) | (with_reducible show wpAny _ _ (call (Value.builtin "list.append") _) _ _ _) | (with_reducible show wpAny _ _ (eval (Expr.ListComp _ _ _ _) _) _ _ _) | (with_reducible show wpAny _ _ (exec (Stmt.Assign _ (Expr.ListComp _ _ _ _) _) _) _ _ _) | (with_reducible show wpAny _ _ (compareOp CmpOp.NotEq (Value.ref _) (Value.ref _)) _ _ _) | (with_reducible show wpAny _ _ (compareOp CmpOp.Eq (Value.ref _) (Value.ref _)) _ _ _) | (with_reducible show wpAny _ _ (compareOp CmpOp.In _ (Value.ref _)) _ _ _) | (with_reducible show wpAny _ _ (compareOp CmpOp.NotIn _ (Value.ref _)) _ _ _) | (with_reducible show LCg.CompSrc _ _ _ _ _ _ _ _ _ _ _ _ _ _) | (with_reducible show LCt.CompSrcT _ _ _ _ _ _ _ _ _ _ _ _ _ _ _))); (first | walk1 | (dsimp only; walk1)))))
      first | with_reducible rename News _ _ _ _ => N9 | rename News _ _ _ _ => N9
      refine dat_ne_same N9 (d := Dat.list (nms.map Dat.str)) (.list (by k_mem : (d2.nl, listOf d2.nvs.toArray d2.k1) ∈ _) (a10.mono (by simp))) (fun _ h => h) (.list (by k_mem : (hd, listOf hv.toArray 0) ∈ _) (hnm.mono (by simp))) (fun _ h => h) ?_ ?_ ?_
      · simp only [kqdOk, List.all_eq_true]; intro x hx; obtain ⟨y, hy, rfl⟩ := List.mem_map.mp hx; exact hnk y hy
      · ktr_units
      (repeat' (first | (k_unfold; (try dsimp only)) | ((fail_if_success (first | (with_reducible show wpAny _ _ (setItem _ _ _) _ _ _) | (with_reducible show wpAny _ _ (call (Value.builtin "dict.get") _) _ _ _) | (with_reducible show wpAny _ _ (exec (Stmt.While _ _ _ _) _) _ _ _) | (with_reducible show wpAny _ _ (exec (Stmt.For _ _ _ _ _) _) _ _ _) | (with_reducible show wpAny _ _ (pyIter _) _ _ _) | (with_reducible show wpAny _ _ (call (Value.builtin "list.append") _) _ _ _) | (with_reducible show wpAny _ _ (eval (Expr.ListComp _ _ _ _) _) _ _ _) | (with_reducible show wpAny _ _ (exec (Stmt.Assign _ (Expr.ListComp _ _ _ _) _) _) _ _ _) | (with_reducible show wpAny _ _ (compareOp CmpOp.NotEq (Value.ref _) (Value.ref _)) _ _ _) | (with_reducible show wpAny _ _ (compareOp CmpOp.Eq (Value.ref _) (Value.ref _)) _ _ _) | (with_reducible show wpAny _ _ (exec (Stmt.If _ _ _ _) _) _ _ _))); (first | walk1 | (dsimp only; walk1)))))
      first | with_reducible rename News _ _ _ _ => N9 | rename News _ _ _ _ => N9
      first | with_reducible rename Fr _ _ _ _ => F9 | rename Fr _ _ _ _ => F9
      have N10 := news_tail N9
      (try clear N9); (try clear N8); (try clear F1); (try clear a1); (try clear a2); (try clear a3); (try clear a4); (try clear a5); (try clear a6); (try clear a7); (try clear a8); (try clear a9); (try clear a10); (try clear hdu); (try clear hdz8); (try clear hzs2)
      (repeat (with_reducible rename (∀ (_ : Addr) (_ : Obj), Heap.get? _ _ = some _ → Heap.get? _ _ = some _) => zz; clear zz)); (repeat (with_reducible rename IsRange _ _ _ _ _ _ _ _ => zz; clear zz)); (repeat (with_reducible rename AllLt _ _ => zz; clear zz)); (repeat (with_reducible rename (_ ∧ AllLt _ _) => zz; clear zz)); (repeat (with_reducible rename (_ ∧ _ ∧ AllLt _ _) => zz; clear zz)); (repeat (with_reducible rename (_ ∧ _ ∧ _ ∧ AllLt _ _) => zz; clear zz)); (repeat (with_reducible rename (_ ∧ _ ∧ _ ∧ _ ∧ AllLt _ _) => zz; clear zz)); (repeat (with_reducible rename (_ ∧ _ ∧ _ ∧ _ ∧ _ ∧ AllLt _ _) => zz; clear zz)); (repeat (with_reducible rename (_ ∧ _ ∧ _ ∧ _ ∧ _ ∧ _ ∧ AllLt _ _) => zz; clear zz)); (repeat (with_reducible rename (_ ∧ _ ∧ _ ∧ _ ∧ _ ∧ _ ∧ _ ∧ AllLt _ _) => zz; clear zz)); (repeat (with_reducible rename (_ ∧ _ ∧ _ ∧ _ ∧ _ ∧ _ ∧ _ ∧ _ ∧ AllLt _ _) => zz; clear zz)); (repeat (with_reducible rename (_ ∧ _ ∧ _ ∧ _ ∧ _ ∧ _ ∧ _ ∧ _ ∧ _ ∧ AllLt _ _) => zz; clear zz)); (repeat (with_reducible rename (_ ∧ _ ∧ _ ∧ _ ∧ _ ∧ _ ∧ _ ∧ _ ∧ _ ∧ _ ∧ AllLt _ _) => zz; clear zz))
      revert F9 N10; (repeat (with_reducible rename News _ _ _ _ => zz; clear zz)); (repeat (with_reducible rename Fr _ _ _ _ => zz; clear zz)); (repeat (with_reducible rename (_ ∧ LCg.Off1 _ _) => zz; clear zz)); intro F9 N10
      (repeat (rename _ => zz; revert zz)); intro kont; exact kont.out


set_option maxRecDepth 1000000 in
set_option maxHeartbeats 0 in
theorem law_end : cut3.1 := by
  intro w _ s1 _ _ _ _ _ _ _ _ _ _ _ _ _ _ _ _ _ _ _ _ _ _ _ _ _ _ _ _ _ _ _ _ _ _ _ hL _ _ _ hI _ h63 _ _ _ _ _ _ _ _ _ _ _ _ _ _ qk ek c cv ci ck h1 tk1 hlt _ _ tk r tr cv ck ci h1 tk1 r0 r1 _ tk q tr cv ck ci h1 tk1 q0 q1 _ _ tk m0 tW oC oT oM oP tT dC2 dT _ _ _ _ _ g2 ys cv ck ci tl es hes hcol D h' tk' X _ _ hd h2 _ tk _ _ _ _ _ _ _ _ _ _ _ _ _ _ tk X2 md lt nms hv hnm hnl hnk m1 oM2 h' tk' oM mt X cv ck ci kd md lt dM hyl g2 tl cols ml mv mk mtk mkt hmd hmvl hnvl _ _ _ _ _ _ _ _ _ _ _ _ _ _ _ _ lifted lifted lifted lifted qk ek tk _ _ _ _ _ _ _ f tl5 fd h5 tk5 _ tk _ _ _ tk X4 hpl pl rv gr m2 hcw hL hLl hLs hLk hLo z tz cv ck ci h1 tk1 _ _ _ _ _ d tl u h tk hpv hp0 X5 m3 hps7 hmd4 hmd1 hpvl _ _ _ r2 tl2 d2 xs rv2 gv kk vals h7 tk7 hxs hLR _ tk X6 g2 tv htv _ _ _ h9 oP2 pr X7 dP3 hyl htvl du zs h tk tl X8 hF8 hC8 hV8 hD8 hda8 hh8 hmt8 hml8 hpr8 hFt8 hCt8 hVt8 g2 zs2 _ _ _ _ tk _ tk F9 N10
  have hmq : (mv.length : Int) = 1 + q := by rw [hmd.length]; omega
  obtain ⟨b, hb⟩ := lacks_bool (1 + q) d.ps
  refine if8_join f D F9 N10 ?walk_pq38 ?rest_pq38
  case rest_pq38 =>
    clear F9 N10 hFt8 hCt8 hVt8 hLR hb
    intro h11 tk11 m11 F11 N11
    dsimp only
    (repeat' (first | (k_unfold; (try dsimp only)) | ((fail_if_success (first | (with_reducible show wpAny _ _ (setItem _ _ _) _ _ _) | (with_reducible show wpAny _ _ (call (Value.builtin "dict.get") _) _ _ _) | (with_reducible show wpAny _ _ (exec (Stmt.While _ _ _ _) _) _ _ _) | (with_reducible show wpAny _ _ (exec (Stmt.For _ _ _ _ _) _) _ _ _) | (with_reducible show wpAny _ _ (pyIter _) _ _ _) | (with_reducible show wpAny _ _ (call (Value.builtin "list.append") _) _ _ _) | (with_reducible show wpAny _ _ (eval (Expr.ListComp _ _ _ _) _) _ _ _) | (with_reducible show wpAny _ _ (exec (Stmt.Assign _ (Expr.ListComp _ _ _ _) _) _) _ _ _) | (with_reducible show wpAny _ _ (compareOp CmpOp.NotEq (Value.ref _) (Value.ref _)) _ _ _) | (with_reducible show wpAny _ _ (compareOp CmpOp.Eq (Value.ref _) (Value.ref _)) _ _ _) | (with_reducible show wpAny _ _ (call (Value.ref 301) _) _ _ _) | (with_reducible show wpAny _ _ (call (Value.ref 325) _) _ _ _))); (first | walk1 | (dsimp only; walk1)))))
    first | with_reducible rename News _ _ _ _ => N6 | rename News _ _ _ _ => N6
    first | with_reducible rename IntsAre _ (rangeKs _ _) => hI | rename IntsAre _ (rangeKs _ _) => hI
    obtain ⟨n, hn⟩ : ∃ n : Nat, n = (1 + q - 0).toNat := ⟨_, rfl⟩
    rw [← hn] at hI
    have hnq : (n : Int) = 1 + q := by omega
    rw [← hnq] at hcol
    have hmvn : mv.length = n := by rw [hmd.length]; omega
    k_dflt (refine' pick_rows_tell (nms := nms) (ps := (rangeKs 0 n).map some) ?B_pq39 ?F_pq39 ?X_pq39 ?T_pq39 ?hk_pq39 ?hd_pq39 ?hu_pq39 N6 (hF8.mono ?mo1_pq39) ?hn_pq39 (hC8.mono ?mo2_pq39) hcw (hV8.mono ?mo3_pq39) hmd hL hLs hmd4 hmd1 ?hpl_pq39 (range_dat hI) ?hps_pq39 (fun i hi => (range_mem hi).1) ?_; (case B_pq39 => k_asm); (case F_pq39 => k_asm); (case X_pq39 => k_asm); (case T_pq39 => k_asm); (case hk_pq39 => exact rfl); (case hd_pq39 => ktr_room); (case hu_pq39 => ktr_units); (case mo1_pq39 => intro p hp; simp [hp]); (case mo2_pq39 => intro p hp; simp [hp]); (case mo3_pq39 => intro p hp; simp [hp]); (case hn_pq39 => omega); (case hpl_pq39 => k_mem); (case hps_pq39 => rw [List.length_map, rangeKs_length]; omega))
    intro r3 tl3 d3 xs3 rv3 gv3 kk3 vals3 h7 tk7 F7 N7 hF7 hC7 hxs3 hV7 hLR hof7
    obtain ⟨rfl, rfl⟩ := lab_all hmvn hLR
    rw [pickL_range hcol] at hC7
    (repeat' (first | (k_unfold; (try dsimp only)) | ((fail_if_success (first | (with_reducible show wpAny _ _ (setItem _ _ _) _ _ _) | (with_reducible show wpAny _ _ (call (Value.builtin "dict.get") _) _ _ _) | (with_reducible show wpAny _ _ (exec (Stmt.While _ _ _ _) _) _ _ _) | (with_reducible show wpAny _ _ (exec (Stmt.For _ _ _ _ _) _) _ _ _) | (with_reducible show wpAny _ _ (pyIter _) _ _ _) | (with_reducible show wpAny _ _ (call (Value.builtin "list.append") _) _ _ _) | (with_reducible show wpAny _ _ (eval (Expr.ListComp _ _ _ _) _) _ _ _) | (with_reducible show wpAny _ _ (exec (Stmt.Assign _ (Expr.ListComp _ _ _ _) _) _) _ _ _) | (with_reducible show wpAny _ _ (compareOp CmpOp.NotEq (Value.ref _) (Value.ref _)) _ _ _) | (with_reducible show wpAny _ _ (compareOp CmpOp.Eq (Value.ref _) (Value.ref _)) _ _ _) | (with_reducible show wpAny _ _ (call (Value.ref 301) _) _ _ _) | (with_reducible show wpAny _ _ (call (Value.ref 325) _) _ _ _))); (first | walk1 | (dsimp only; walk1)))))
    first | with_reducible rename News _ _ _ _ => N9 | rename News _ _ _ _ => N9
    k_dflt (refine' frame_is_tell (lt := lt) ?B_pq39 ?F_pq39 ?X_pq39 ?T_pq39 ?hk_pq39 ?hd_pq39 ?hu_pq39 N9 (hF7.mono ?mo1_pq39) (hC7.mono ?mo2_pq39) ?hcl_pq39 (hV7.mono ?mo3_pq39) hmd hLk hLo ?hmt_pq39 ?hml_pq39 hmd ?hcq_pq39 (hda8.mono ?mo4_pq39) ?_; (case B_pq39 => k_asm); (case F_pq39 => k_asm); (case X_pq39 => k_asm); (case T_pq39 => k_asm); (case hk_pq39 => exact rfl); (case hd_pq39 => ktr_room); (case hu_pq39 => ktr_units); (case mo1_pq39 => intro p hp; simp [hp]); (case mo2_pq39 => intro p hp; simp [hp]); (case mo3_pq39 => intro p hp; simp [hp]); (case mo4_pq39 => intro p hp; simp [hp]); (case hcl_pq39 => omega); (case hmt_pq39 => k_mem); (case hml_pq39 => k_mem); (case hcq_pq39 => k_mem))
    intro h8 tk8 F8 N8
    (repeat' (first | (k_unfold; (try dsimp only)) | ((fail_if_success (first | (with_reducible show wpAny _ _ (setItem _ _ _) _ _ _) | (with_reducible show wpAny _ _ (call (Value.builtin "dict.get") _) _ _ _) | (with_reducible show wpAny _ _ (exec (Stmt.While _ _ _ _) _) _ _ _) | (with_reducible show wpAny _ _ (exec (Stmt.For _ _ _ _ _) _) _ _ _) | (with_reducible show wpAny _ _ (pyIter _) _ _ _) | (with_reducible show wpAny _ _ (call (Value.builtin "list.append") _) _ _ _) | (with_reducible show wpAny _ _ (eval (Expr.ListComp _ _ _ _) _) _ _ _) | (with_reducible show wpAny _ _ (exec (Stmt.Assign _ (Expr.ListComp _ _ _ _) _) _) _ _ _) | (with_reducible show wpAny _ _ (compareOp CmpOp.NotEq (Value.ref _) (Value.ref _)) _ _ _) | (with_reducible show wpAny _ _ (compareOp CmpOp.Eq (Value.ref _) (Value.ref _)) _ _ _) | (with_reducible show wpAny _ _ (call (Value.ref 301) _) _ _ _) | (with_reducible show wpAny _ _ (call (Value.ref 325) _) _ _ _))); (first | walk1 | (dsimp only; walk1)))))
    first | with_reducible rename News _ _ _ _ => N9 | rename News _ _ _ _ => N9
    k_dflt (refine' frame_is_tell (lt := lt) ?B_pq39 ?F_pq39 ?X_pq39 ?T_pq39 ?hk_pq39 ?hd_pq39 ?hu_pq39 N9 (hF8.mono ?mo1_pq39) (hC8.mono ?mo2_pq39) ?hcl_pq39 (hV8.mono ?mo3_pq39) hmd hLk hLo ?hmt_pq39 ?hml_pq39 hmd ?hcq_pq39 (hda8.mono ?mo4_pq39) ?_; (case B_pq39 => k_asm); (case F_pq39 => k_asm); (case X_pq39 => k_asm); (case T_pq39 => k_asm); (case hk_pq39 => exact rfl); (case hd_pq39 => ktr_room); (case hu_pq39 => ktr_units); (case mo1_pq39 => intro p hp; simp [hp]); (case mo2_pq39 => intro p hp; simp [hp]); (case mo3_pq39 => intro p hp; simp [hp]); (case mo4_pq39 => intro p hp; simp [hp]); (case hcl_pq39 => omega); (case hmt_pq39 => k_mem); (case hml_pq39 => k_mem); (case hcq_pq39 => k_mem))
    intro h9 tk9 F9 N9
    (repeat' (first | (k_unfold; (try dsimp only)) | ((fail_if_success (first | (with_reducible show wpAny _ _ (setItem _ _ _) _ _ _) | (with_reducible show wpAny _ _ (call (Value.builtin "dict.get") _) _ _ _) | (with_reducible show wpAny _ _ (exec (Stmt.While _ _ _ _) _) _ _ _) | (with_reducible show wpAny _ _ (exec (Stmt.For _ _ _ _ _) _) _ _ _) | (with_reducible show wpAny _ _ (pyIter _) _ _ _) | (with_reducible show wpAny _ _ (call (Value.builtin "list.append") _) _ _ _) | (with_reducible show wpAny _ _ (eval (Expr.ListComp _ _ _ _) _) _ _ _) | (with_reducible show wpAny _ _ (exec (Stmt.Assign _ (Expr.ListComp _ _ _ _) _) _) _ _ _) | (with_reducible show wpAny _ _ (compareOp CmpOp.NotEq (Value.ref _) (Value.ref _)) _ _ _) | (with_reducible show wpAny _ _ (compareOp CmpOp.Eq (Value.ref _) (Value.ref _)) _ _ _) | (with_reducible show wpAny _ _ (call (Value.ref 301) _) _ _ _) | (with_reducible show wpAny _ _ (call (Value.ref 325) _) _ _ _))); (first | walk1 | (dsimp only; walk1)))))
    kc_close
  case walk_pq38 =>
    (first | walk1 | (dsimp only; walk1))
    refine cond_join b F9 N10 ?cond_pq38 ?branch_pq38
    case branch_pq38 =>
      clear F9 N10
      intro h12 tk12 F12 N12
      rcases hLR with ⟨hnl, rfl, rfl⟩ | ⟨hlk, rfl, us, hus, hmu⟩
      · rw [hmq] at hnl
        rw [hb.mpr hnl, if_pos rfl]
        have hnn : none ∉ d.ps.map (norm (1 + q)) := fun e => hnl (lacks_none e)
        have hvals := pickL_in hmd d.ps
        have v1 := hVt8.b1
        have v2 := hVt8.b2
        have v3 := hVt8.b3
        (repeat' (first | (k_unfold; (try dsimp only)) | ((fail_if_success (first | (with_reducible show wpAny _ _ (setItem _ _ _) _ _ _) | (with_reducible show wpAny _ _ (call (Value.builtin "dict.get") _) _ _ _) | (with_reducible show wpAny _ _ (exec (Stmt.While _ _ _ _) _) _ _ _) | (with_reducible show wpAny _ _ (exec (Stmt.For _ _ _ _ _) _) _ _ _) | (with_reducible show wpAny _ _ (pyIter _) _ _ _) | (with_reducible show wpAny _ _ (call (Value.builtin "list.append") _) _ _ _) | (with_reducible show wpAny _ _ (eval (Expr.ListComp _ _ _ _) _) _ _ _) | (with_reducible show wpAny _ _ (exec (Stmt.Assign _ (Expr.ListComp _ _ _ _) _) _) _ _ _) | (with_reducible show wpAny _ _ (compareOp CmpOp.NotEq (Value.ref _) (Value.ref _)) _ _ _) | (with_reducible show wpAny _ _ (compareOp CmpOp.Eq (Value.ref _) (Value.ref _)) _ _ _) | (with_reducible show wpAny _ _ (compareOp CmpOp.In _ (Value.ref _)) _ _ _) | (with_reducible show wpAny _ _ (compareOp CmpOp.NotIn _ (Value.ref _)) _ _ _))); (first | walk1 | (dsimp only; walk1)))))
        k_dflt (refine LCg.ListComp_U (F₀ := by k_asm) (by with_unfolding_all rfl) (by decide) (by rfl) (by decide) (by rfl) ?_)
        (repeat' (first | (k_unfold; (try dsimp only)) | ((fail_if_success (first | (with_reducible show wpAny _ _ (setItem _ _ _) _ _ _) | (with_reducible show wpAny _ _ (call (Value.builtin "dict.get") _) _ _ _) | (with_reducible show wpAny _ _ (exec (Stmt.While _ _ _ _) _) _ _ _) | (with_reducible show wpAny _ _ (exec (Stmt.For _ _ _ _ _) _) _ _ _) | (with_reducible show wpAny _ _ (pyIter _) _ _ _) | (with_reducible show wpAny _ _ (call (Value.builtin "list.append") _) _ _ _) | (with_reducible show wpAny _ _ (eval (Expr.ListComp _ _ _ _) _) _ _ _) | (with_reducible show wpAny _ _ (exec (Stmt.Assign _ (Expr.ListComp _ _ _ _) _) _) _ _ _) | (with_reducible show wpAny _ _ (compareOp CmpOp.NotEq (Value.ref _) (Value.ref _)) _ _ _) | (with_reducible show wpAny _ _ (compareOp CmpOp.Eq (Value.ref _) (Value.ref _)) _ _ _) | (with_reducible show wpAny _ _ (compareOp CmpOp.In _ (Value.ref _)) _ _ _) | (with_reducible show wpAny _ _ (compareOp CmpOp.NotIn _ (Value.ref _)) _ _ _) | (with_reducible show LCg.CompSrc _ _ _ _ _ _ _ _ _ _ _ _ _ _) | (with_reducible show LCt.CompSrcT _ _ _ _ _ _ _ _ _ _ _ _ _ _ _))); (first | walk1 | (dsimp only; walk1)))))
        k_dflt (refine LCg.CompSrc.ledger (its := tv.toArray) (by rfl) (by k_asm) (by k_asm) (by k_mem) (by rw [List.size_toArray, PySem.sizeLine_eq]; omega) ?_)
        intro g2
        refine comp_dat (dueD md) htv ?_ ?_
        · intro x v I oI C oC D m₂ ys h tk E' hx' hx hC hm2 F₃ N₃ off ne
          obtain ⟨p, hp, rfl⟩ := List.mem_map.mp hx'
          cases p with
          | none => exact absurd hp hnn
          | some j =>
            rcases hx with _ | _ | ⟨_, tj⟩ | _ | _ | _ | _
            obtain ⟨hj1, hj2⟩ := norm_mem hp
            have hj0 := hp0 j hj1
            obtain ⟨v, hv1, hv2⟩ := pick_at hmd (j := j) hj0 (by omega)
            (repeat' (first | (k_unfold; (try dsimp only)) | ((fail_if_success (first | (with_reducible show wpAny _ _ (setItem _ _ _) _ _ _) | (with_reducible show wpAny _ _ (call (Value.builtin "dict.get") _) _ _ _) | (with_reducible show wpAny _ _ (exec (Stmt.While _ _ _ _) _) _ _ _) | (with_reducible show wpAny _ _ (exec (Stmt.For _ _ _ _ _) _) _ _ _) | (with_reducible show wpAny _ _ (pyIter _) _ _ _) | (with_reducible show wpAny _ _ (call (Value.builtin "list.append") _) _ _ _) | (with_reducible show wpAny _ _ (eval (Expr.ListComp _ _ _ _) _) _ _ _) | (with_reducible show wpAny _ _ (exec (Stmt.Assign _ (Expr.ListComp _ _ _ _) _) _) _ _ _) | (with_reducible show wpAny _ _ (compareOp CmpOp.NotEq (Value.ref _) (Value.ref _)) _ _ _) | (with_reducible show wpAny _ _ (compareOp CmpOp.Eq (Value.ref _) (Value.ref _)) _ _ _) | (with_reducible show wpAny _ _ (subscriptTail _ _ (Value.ref _) (Value.int _ _)) _ _ _))); (first | walk1 | (dsimp only; walk1)))))
            (first | walk1 | (dsimp only; walk1))
            (repeat' (first | (k_unfold; (try dsimp only)) | ((fail_if_success (first | (with_reducible show wpAny _ _ (setItem _ _ _) _ _ _) | (with_reducible show wpAny _ _ (call (Value.builtin "dict.get") _) _ _ _) | (with_reducible show wpAny _ _ (exec (Stmt.While _ _ _ _) _) _ _ _) | (with_reducible show wpAny _ _ (exec (Stmt.For _ _ _ _ _) _) _ _ _) | (with_reducible show wpAny _ _ (pyIter _) _ _ _) | (with_reducible show wpAny _ _ (call (Value.builtin "list.append") _) _ _ _) | (with_reducible show wpAny _ _ (eval (Expr.ListComp _ _ _ _) _) _ _ _) | (with_reducible show wpAny _ _ (exec (Stmt.Assign _ (Expr.ListComp _ _ _ _) _) _) _ _ _) | (with_reducible show wpAny _ _ (compareOp CmpOp.NotEq (Value.ref _) (Value.ref _)) _ _ _) | (with_reducible show wpAny _ _ (compareOp CmpOp.Eq (Value.ref _) (Value.ref _)) _ _ _) | (with_reducible show wpAny _ _ (subscriptTail _ _ (Value.ref _) (Value.int _ _)) _ _ _))); (first | walk1 | (dsimp only; walk1)))))
            k_dflt (refine' item_M ?N_pq40 ?m_pq40 hj0 ?f_pq40 hv1 ?_ ?hs_pq40; (case N_pq40 => k_asm); (case m_pq40 => k_mem); (case f_pq40 => omega); (case hs_pq40 => with_unfolding_all rfl))
            (repeat' (first | (k_unfold; (try dsimp only)) | ((fail_if_success (first | (with_reducible show wpAny _ _ (setItem _ _ _) _ _ _) | (with_reducible show wpAny _ _ (call (Value.builtin "dict.get") _) _ _ _) | (with_reducible show wpAny _ _ (exec (Stmt.While _ _ _ _) _) _ _ _) | (with_reducible show wpAny _ _ (exec (Stmt.For _ _ _ _ _) _) _ _ _) | (with_reducible show wpAny _ _ (pyIter _) _ _ _) | (with_reducible show wpAny _ _ (call (Value.builtin "list.append") _) _ _ _) | (with_reducible show wpAny _ _ (eval (Expr.ListComp _ _ _ _) _) _ _ _) | (with_reducible show wpAny _ _ (exec (Stmt.Assign _ (Expr.ListComp _ _ _ _) _) _) _ _ _) | (with_reducible show wpAny _ _ (compareOp CmpOp.NotEq (Value.ref _) (Value.ref _)) _ _ _) | (with_reducible show wpAny _ _ (compareOp CmpOp.Eq (Value.ref _) (Value.ref _)) _ _ _) | (with_reducible show wpAny _ _ (subscriptTail _ _ (Value.ref _) (Value.int _ _)) _ _ _))); (first | walk1 | (dsimp only; walk1)))))
            exact comp_end (by k_asm) (by k_asm) (fun p hp => hp) off (src_ledger (by k_mem)) hv2
        · intro uv huv
          rw [dueD_map, pickE_norm hLl] at huv
          (repeat' (first | (k_unfold; (try dsimp only)) | ((fail_if_success (first | (with_reducible show wpAny _ _ (setItem _ _ _) _ _ _) | (with_reducible show wpAny _ _ (call (Value.builtin "dict.get") _) _ _ _) | (with_reducible show wpAny _ _ (exec (Stmt.While _ _ _ _) _) _ _ _) | (with_reducible show wpAny _ _ (exec (Stmt.For _ _ _ _ _) _) _ _ _) | (with_reducible show wpAny _ _ (pyIter _) _ _ _) | (with_reducible show wpAny _ _ (call (Value.builtin "list.append") _) _ _ _) | (with_reducible show wpAny _ _ (eval (Expr.ListComp _ _ _ _) _) _ _ _) | (with_reducible show wpAny _ _ (exec (Stmt.Assign _ (Expr.ListComp _ _ _ _) _) _) _ _ _) | (with_reducible show wpAny _ _ (compareOp CmpOp.NotEq (Value.ref _) (Value.ref _)) _ _ _) | (with_reducible show wpAny _ _ (compareOp CmpOp.Eq (Value.ref _) (Value.ref _)) _ _ _) | (with_reducible show wpAny _ _ (compareOp CmpOp.In _ (Value.ref _)) _ _ _) | (with_reducible show wpAny _ _ (compareOp CmpOp.NotIn _ (Value.ref _)) _ _ _))); (first | walk1 | (dsimp only; walk1)))))
          first | with_reducible rename News _ _ _ _ => N13 | rename News _ _ _ _ => N13
          have hokm : kqdOk 9 (Dat.tuple [Dat.str kk, Dat.list (d.ps.map (pickE md))]) = true := by
            simp only [kqdOk, List.all_cons, List.all_nil, Bool.and_true, Bool.and_eq_true, List.all_eq_true]
            exact ⟨hLo, fun x hx => kqd_up 7 (pickL_ok hLk d.ps x hx)⟩
          refine dat_ne_same N13 (d := Dat.tuple [Dat.str kk, Dat.list (d.ps.map (pickE md))]) (.tuple (by k_mem) (.cons (.str _ _) (.cons (.list (by k_mem : (gv.lc, listOf ((d.ps.map plD).map (pickD mv)).toArray gv.k) ∈ _) (hvals.mono (by simp))) .nil))) (fun _ h => h) (.tuple (List.mem_cons_self) (.cons (.str _ _) (.cons (.list (List.mem_cons_of_mem _ List.mem_cons_self) (huv.mono (by simp))) .nil))) (fun _ h => h) hokm ?_ ?_
          · ktr_units
          (repeat' (first | (k_unfold; (try dsimp only)) | ((fail_if_success (first | (with_reducible show wpAny _ _ (setItem _ _ _) _ _ _) | (with_reducible show wpAny _ _ (call (Value.builtin "dict.get") _) _ _ _) | (with_reducible show wpAny _ _ (exec (Stmt.While _ _ _ _) _) _ _ _) | (with_reducible show wpAny _ _ (exec (Stmt.For _ _ _ _ _) _) _ _ _) | (with_reducible show wpAny _ _ (pyIter _) _ _ _) | (with_reducible show wpAny _ _ (call (Value.builtin "list.append") _) _ _ _) | (with_reducible show wpAny _ _ (eval (Expr.ListComp _ _ _ _) _) _ _ _) | (with_reducible show wpAny _ _ (exec (Stmt.Assign _ (Expr.ListComp _ _ _ _) _) _) _ _ _) | (with_reducible show wpAny _ _ (compareOp CmpOp.NotEq (Value.ref _) (Value.ref _)) _ _ _) | (with_reducible show wpAny _ _ (compareOp CmpOp.Eq (Value.ref _) (Value.ref _)) _ _ _) | (with_reducible show wpAny _ _ (compareOp CmpOp.In _ (Value.ref _)) _ _ _) | (with_reducible show wpAny _ _ (compareOp CmpOp.NotIn _ (Value.ref _)) _ _ _))); (first | walk1 | (dsimp only; walk1)))))
          first | with_reducible rename Fr _ _ _ _ => F14 | rename Fr _ _ _ _ => F14
          first | with_reducible rename News _ _ _ _ => N14 | rename News _ _ _ _ => N14
          obtain ⟨m9, F15⟩ := fr_pick (a := Str.ofString "df") (b := Str.ofString "columns") F14 (by rfl) (by rfl)
          exact ⟨_, _, m9, rfl, rfl, F15, cb_drop N14 (by intro p hp; simp [hp])⟩
      · rw [hmq] at hlk
        rw [show b = false from Bool.eq_false_iff.mpr fun e => hb.mp e hlk, if_neg (by decide)]
        have v1 := hVt8.b1
        have v2 := hVt8.b2
        have v3 := hVt8.b3
        have hltq : (lt.length : Int) = 1 + q := by have := hL.len; omega
        have hmvq : (mv.length : Int) = 1 + q := hmq
        (repeat' (first | (k_unfold; (try dsimp only)) | ((fail_if_success (first | (with_reducible show wpAny _ _ (setItem _ _ _) _ _ _) | (with_reducible show wpAny _ _ (call (Value.builtin "dict.get") _) _ _ _) | (with_reducible show wpAny _ _ (exec (Stmt.While _ _ _ _) _) _ _ _) | (with_reducible show wpAny _ _ (exec (Stmt.For _ _ _ _ _) _) _ _ _) | (with_reducible show wpAny _ _ (pyIter _) _ _ _) | (with_reducible show wpAny _ _ (call (Value.builtin "list.append") _) _ _ _) | (with_reducible show wpAny _ _ (eval (Expr.ListComp _ _ _ _) _) _ _ _) | (with_reducible show wpAny _ _ (exec (Stmt.Assign _ (Expr.ListComp _ _ _ _) _) _) _ _ _) | (with_reducible show wpAny _ _ (compareOp CmpOp.NotEq (Value.ref _) (Value.ref _)) _ _ _) | (with_reducible show wpAny _ _ (compareOp CmpOp.Eq (Value.ref _) (Value.ref _)) _ _ _) | (with_reducible show wpAny _ _ (compareOp CmpOp.In _ (Value.ref _)) _ _ _) | (with_reducible show wpAny _ _ (compareOp CmpOp.NotIn _ (Value.ref _)) _ _ _))); (first | walk1 | (dsimp only; walk1)))))
        k_dflt (refine LCg.Assign_ListComp_U (F₀ := by k_asm) (by rfl) (by with_unfolding_all rfl) (by with_unfolding_all rfl) (by decide) (by rfl) (by decide) (by rfl) (by rfl) (by rfl) ?_)
        (repeat' (first | (k_unfold; (try dsimp only)) | ((fail_if_success (first | (with_reducible show wpAny _ _ (setItem _ _ _) _ _ _) | (with_reducible show wpAny _ _ (call (Value.builtin "dict.get") _) _ _ _) | (with_reducible show wpAny _ _ (exec (Stmt.While _ _ _ _) _) _ _ _) | (with_reducible show wpAny _ _ (exec (Stmt.For _ _ _ _ _) _) _ _ _) | (with_reducible show wpAny _ _ (pyIter _) _ _ _) | (with_reducible show wpAny _ _ (call (Value.builtin "list.append") _) _ _ _) | (with_reducible show wpAny _ _ (eval (Expr.ListComp _ _ _ _) _) _ _ _) | (with_reducible show wpAny _ _ (exec (Stmt.Assign _ (Expr.ListComp _ _ _ _) _) _) _ _ _) | (with_reducible show wpAny _ _ (compareOp CmpOp.NotEq (Value.ref _) (Value.ref _)) _ _ _) | (with_reducible show wpAny _ _ (compareOp CmpOp.Eq (Value.ref _) (Value.ref _)) _ _ _) | (with_reducible show wpAny _ _ (compareOp CmpOp.In _ (Value.ref _)) _ _ _) | (with_reducible show wpAny _ _ (compareOp CmpOp.NotIn _ (Value.ref _)) _ _ _) | (with_reducible show LCg.CompSrc _ _ _ _ _ _ _ _ _ _ _ _ _ _) | (with_reducible show LCt.CompSrcT _ _ _ _ _ _ _ _ _ _ _ _ _ _ _))); (first | walk1 | (dsimp only; walk1)))))
        k_dflt (refine LCg.CompSrc.ledger (its := tv.toArray) (by rfl) (by k_asm) (by k_asm) (by k_mem) (by rw [List.size_toArray, PySem.sizeLine_eq]; omega) ?_)
        intro g2
        refine comp_dat (nameD lt) htv ?_ ?_
        · intro x v I oI C oC D m₂ ys h tk E' hx' hx hC hm2 F₃ N₃ off ne
          obtain ⟨p, hp, rfl⟩ := List.mem_map.mp hx'
          rw [nameD_pl]
          cases p with
          | none =>
            rcases hx with _ | _ | _ | _ | _ | _ | _
            (repeat' (first | (k_unfold; (try dsimp only)) | ((fail_if_success (first | (with_reducible show wpAny _ _ (setItem _ _ _) _ _ _) | (with_reducible show wpAny _ _ (call (Value.builtin "dict.get") _) _ _ _) | (with_reducible show wpAny _ _ (exec (Stmt.While _ _ _ _) _) _ _ _) | (with_reducible show wpAny _ _ (exec (Stmt.For _ _ _ _ _) _) _ _ _) | (with_reducible show wpAny _ _ (pyIter _) _ _ _) | (with_reducible show wpAny _ _ (call (Value.builtin "list.append") _) _ _ _) | (with_reducible show wpAny _ _ (eval (Expr.ListComp _ _ _ _) _) _ _ _) | (with_reducible show wpAny _ _ (exec (Stmt.Assign _ (Expr.ListComp _ _ _ _) _) _) _ _ _) | (with_reducible show wpAny _ _ (compareOp CmpOp.NotEq (Value.ref _) (Value.ref _)) _ _ _) | (with_reducible show wpAny _ _ (compareOp CmpOp.Eq (Value.ref _) (Value.ref _)) _ _ _) | (with_reducible show wpAny _ _ (subscriptTail _ _ (Value.ref _) (Value.int _ _)) _ _ _))); (first | walk1 | (dsimp only; walk1)))))
            exact comp_end (by k_asm) (by k_asm) (fun p hp => hp) off (src_ledger (by k_mem)) (.str _ _)
          | some j =>
            rcases hx with _ | _ | ⟨_, tj⟩ | _ | _ | _ | _
            obtain ⟨hj1, hj2⟩ := norm_mem hp
            have hj0 := hp0 j hj1
            obtain ⟨v, hv1, hv2⟩ := name_at hL hmd (j := j) hj0 (by omega)
            (repeat' (first | (k_unfold; (try dsimp only)) | ((fail_if_success (first | (with_reducible show wpAny _ _ (setItem _ _ _) _ _ _) | (with_reducible show wpAny _ _ (call (Value.builtin "dict.get") _) _ _ _) | (with_reducible show wpAny _ _ (exec (Stmt.While _ _ _ _) _) _ _ _) | (with_reducible show wpAny _ _ (exec (Stmt.For _ _ _ _ _) _) _ _ _) | (with_reducible show wpAny _ _ (pyIter _) _ _ _) | (with_reducible show wpAny _ _ (call (Value.builtin "list.append") _) _ _ _) | (with_reducible show wpAny _ _ (eval (Expr.ListComp _ _ _ _) _) _ _ _) | (with_reducible show wpAny _ _ (exec (Stmt.Assign _ (Expr.ListComp _ _ _ _) _) _) _ _ _) | (with_reducible show wpAny _ _ (compareOp CmpOp.NotEq (Value.ref _) (Value.ref _)) _ _ _) | (with_reducible show wpAny _ _ (compareOp CmpOp.Eq (Value.ref _) (Value.ref _)) _ _ _) | (with_reducible show wpAny _ _ (subscriptTail _ _ (Value.ref _) (Value.int _ _)) _ _ _))); (first | walk1 | (dsimp only; walk1)))))
            (first | walk1 | (dsimp only; walk1))
            (repeat' (first | (k_unfold; (try dsimp only)) | ((fail_if_success (first | (with_reducible show wpAny _ _ (setItem _ _ _) _ _ _) | (with_reducible show wpAny _ _ (call (Value.builtin "dict.get") _) _ _ _) | (with_reducible show wpAny _ _ (exec (Stmt.While _ _ _ _) _) _ _ _) | (with_reducible show wpAny _ _ (exec (Stmt.For _ _ _ _ _) _) _ _ _) | (with_reducible show wpAny _ _ (pyIter _) _ _ _) | (with_reducible show wpAny _ _ (call (Value.builtin "list.append") _) _ _ _) | (with_reducible show wpAny _ _ (eval (Expr.ListComp _ _ _ _) _) _ _ _) | (with_reducible show wpAny _ _ (exec (Stmt.Assign _ (Expr.ListComp _ _ _ _) _) _) _ _ _) | (with_reducible show wpAny _ _ (compareOp CmpOp.NotEq (Value.ref _) (Value.ref _)) _ _ _) | (with_reducible show wpAny _ _ (compareOp CmpOp.Eq (Value.ref _) (Value.ref _)) _ _ _) | (with_reducible show wpAny _ _ (subscriptTail _ _ (Value.ref _) (Value.int _ _)) _ _ _))); (first | walk1 | (dsimp only; walk1)))))
            k_dflt (refine' item_M ?N_pq41 ?m_pq41 hj0 ?f_pq41 hv1 ?_ ?hs_pq41; (case N_pq41 => k_asm); (case m_pq41 => k_mem); (case f_pq41 => omega); (case hs_pq41 => with_unfolding_all rfl))
            rcases hv2 with ⟨k, t, rfl, hf, hk0, hk1⟩ | ⟨x, t, rfl, hf⟩
            · rw [hf]
              (repeat' (first | (k_unfold; (try dsimp only)) | ((fail_if_success (first | (with_reducible show wpAny _ _ (setItem _ _ _) _ _ _) | (with_reducible show wpAny _ _ (call (Value.builtin "dict.get") _) _ _ _) | (with_reducible show wpAny _ _ (exec (Stmt.While _ _ _ _) _) _ _ _) | (with_reducible show wpAny _ _ (exec (Stmt.For _ _ _ _ _) _) _ _ _) | (with_reducible show wpAny _ _ (pyIter _) _ _ _) | (with_reducible show wpAny _ _ (call (Value.builtin "list.append") _) _ _ _) | (with_reducible show wpAny _ _ (eval (Expr.ListComp _ _ _ _) _) _ _ _) | (with_reducible show wpAny _ _ (exec (Stmt.Assign _ (Expr.ListComp _ _ _ _) _) _) _ _ _) | (with_reducible show wpAny _ _ (compareOp CmpOp.NotEq (Value.ref _) (Value.ref _)) _ _ _) | (with_reducible show wpAny _ _ (compareOp CmpOp.Eq (Value.ref _) (Value.ref _)) _ _ _) | (with_reducible show wpAny _ _ (subscriptTail _ _ (Value.ref _) (Value.int _ _)) _ _ _))); (first | walk1 | (dsimp only; walk1)))))
              exact comp_end (by k_asm) (by k_asm) (fun p hp => hp) off (src_ledger (by k_mem)) (.str _ _)
            · rw [hf]
              (repeat' (first | (k_unfold; (try dsimp only)) | ((fail_if_success (first | (with_reducible show wpAny _ _ (setItem _ _ _) _ _ _) | (with_reducible show wpAny _ _ (call (Value.builtin "dict.get") _) _ _ _) | (with_reducible show wpAny _ _ (exec (Stmt.While _ _ _ _) _) _ _ _) | (with_reducible show wpAny _ _ (exec (Stmt.For _ _ _ _ _) _) _ _ _) | (with_reducible show wpAny _ _ (pyIter _) _ _ _) | (with_reducible show wpAny _ _ (call (Value.builtin "list.append") _) _ _ _) | (with_reducible show wpAny _ _ (eval (Expr.ListComp _ _ _ _) _) _ _ _) | (with_reducible show wpAny _ _ (exec (Stmt.Assign _ (Expr.ListComp _ _ _ _) _) _) _ _ _) | (with_reducible show wpAny _ _ (compareOp CmpOp.NotEq (Value.ref _) (Value.ref _)) _ _ _) | (with_reducible show wpAny _ _ (compareOp CmpOp.Eq (Value.ref _) (Value.ref _)) _ _ _) | (with_reducible show wpAny _ _ (subscriptTail _ _ (Value.ref _) (Value.int _ _)) _ _ _))); (first | walk1 | (dsimp only; walk1)))))
              exact comp_end (by k_asm) (by k_asm) (fun p hp => hp) off (src_ledger (by k_mem)) (.str _ _)
        · intro nv hnv
          rw [nameD_map hltq] at hnv
          have hpsl := hps7
          have hxl : (d.ps.map (foundT lt)).length = d.ps.length := List.length_map _
          have hvl : vals.length = d.ps.length := by rw [hus.length, List.length_map, hmu.len, hxl]
          have hvl2 : vals.length ≤ 1000 := by omega
          have hnvl9 : nv.length = d.ps.length := by rw [hnv.length, List.length_map, hxl]
          have hnvl8 : nv.length ≤ 1000 := by omega
          have hxs9 : (d.ps.map (foundT lt)).length ≤ 7 := by omega
          have hnm9 : NamesOk (d.ps.map (foundT lt)) us := NamesOk.of hmu (found_facts hL hLk hLs d.ps)
          (repeat' (first | (k_unfold; (try dsimp only)) | ((fail_if_success (first | (with_reducible show wpAny _ _ (setItem _ _ _) _ _ _) | (with_reducible show wpAny _ _ (call (Value.builtin "dict.get") _) _ _ _) | (with_reducible show wpAny _ _ (exec (Stmt.While _ _ _ _) _) _ _ _) | (with_reducible show wpAny _ _ (exec (Stmt.For _ _ _ _ _) _) _ _ _) | (with_reducible show wpAny _ _ (pyIter _) _ _ _) | (with_reducible show wpAny _ _ (call (Value.builtin "list.append") _) _ _ _) | (with_reducible show wpAny _ _ (eval (Expr.ListComp _ _ _ _) _) _ _ _) | (with_reducible show wpAny _ _ (exec (Stmt.Assign _ (Expr.ListComp _ _ _ _) _) _) _ _ _) | (with_reducible show wpAny _ _ (compareOp CmpOp.NotEq (Value.ref _) (Value.ref _)) _ _ _) | (with_reducible show wpAny _ _ (compareOp CmpOp.Eq (Value.ref _) (Value.ref _)) _ _ _) | (with_reducible show wpAny _ _ (compareOp CmpOp.In _ (Value.ref _)) _ _ _) | (with_reducible show wpAny _ _ (compareOp CmpOp.NotIn _ (Value.ref _)) _ _ _))); (first | walk1 | (dsimp only; walk1)))))
          · exfalso; omega
          · first | with_reducible rename Fr _ _ _ _ => F1 | rename Fr _ _ _ _ => F1
            first | with_reducible rename News _ _ _ _ => N1 | rename News _ _ _ _ => N1
            obtain ⟨nd, F2, N2⟩ := fr_named (A := (du, LCg.lst [])) F1 N1
            revert hnm9 hnv hxl hxs9
            generalize d.ps.map (foundT lt) = xs9
            intro hnv hxl hxs9 hnm9
            clear N1 F1 hmu v1 v2 v3 hltq hmvq
            revert F2 N2; (repeat (with_reducible rename News _ _ _ _ => zz; clear zz)); (repeat (with_reducible rename Fr _ _ _ _ => zz; clear zz)); intro F2 N2
            with_unfolding_all refine For_invVF F2 (by rfl) (by rfl) ?_
            (repeat' (first | (k_unfold; (try dsimp only)) | ((fail_if_success (first | (with_reducible show wpAny _ _ (setItem _ _ _) _ _ _) | (with_reducible show wpAny _ _ (call (Value.builtin "dict.get") _) _ _ _) | (with_reducible show wpAny _ _ (exec (Stmt.While _ _ _ _) _) _ _ _) | (with_reducible show wpAny _ _ (exec (Stmt.For _ _ _ _ _) _) _ _ _) | (with_reducible show wpAny _ _ (pyIter _) _ _ _) | (with_reducible show wpAny _ _ (call (Value.builtin "list.append") _) _ _ _) | (with_reducible show wpAny _ _ (eval (Expr.ListComp _ _ _ _) _) _ _ _) | (with_reducible show wpAny _ _ (exec (Stmt.Assign _ (Expr.ListComp _ _ _ _) _) _) _ _ _) | (with_reducible show wpAny _ _ (compareOp CmpOp.NotEq (Value.ref _) (Value.ref _)) _ _ _) | (with_reducible show wpAny _ _ (compareOp CmpOp.Eq (Value.ref _) (Value.ref _)) _ _ _) | (with_reducible show wpAny _ _ (compareOp CmpOp.In _ (Value.ref _)) _ _ _) | (with_reducible show wpAny _ _ (compareOp CmpOp.NotIn _ (Value.ref _)) _ _ _))); (first | walk1 | (dsimp only; walk1)))))
            first | with_reducible rename Fr _ _ _ _ => F3 | rename Fr _ _ _ _ => F3
            first | with_reducible rename News _ _ _ _ => N3 | rename News _ _ _ _ => N3
            first | with_reducible rename IsRange _ _ _ _ _ _ _ _ => hR | rename IsRange _ _ _ _ _ _ _ _ => hR
            with_unfolding_all refine kd_range (σ := Unit) (n := ((nv.length : Int) - 0).toNat) (fun _ => []) ((nd, LCg.lst nv) :: (s1.heap.objs.size + 1 + 1 + 1, oM) :: (s1.heap.objs.size + 1 + 1 + 1 + 1, oP2) :: (s1.heap.objs.size + 1 + 1, oT) :: (s1.heap.objs.size + 1, oC) :: X8) (fun _ => []) (fun _ _ => True) [Str.ofString "name"] (fun _ _ => True) (nd :: (s1.heap.objs.size + 1 + 1 + 1) :: (s1.heap.objs.size + 1 + 1 + 1 + 1) :: (s1.heap.objs.size + 1 + 1) :: (s1.heap.objs.size + 1) :: X8.map (·.1)) () (by rfl) hR (small_one (by omega) (by omega) (by omega) (by omega)) (rangeSize_nat _ _) F3 N3 ?_ (fun _ => rfl) trivial ?_ trivial ?_ ?_
            · intro p hp; simp only [List.nil_append, List.append_nil] at hp; exact hp
            · intro p hp; cases hp
            · clear N3 F3 hR
              rintro c tl pre k t u h tk own hk hpl2 hsep hoff _ _ F₁ N₁
              simp only [List.cons_append, List.nil_append] at N₁
              obtain ⟨i, hi⟩ : ∃ i : Nat, i = pre.length := ⟨_, rfl⟩
              rw [← hi] at hk hpl2
              have hki : k = (i : Int) := by omega
              subst hki
              have hiu : i < us.length := by rw [hnm9.len]; omega
              have hix : i < xs9.length := by omega
              obtain ⟨X9, hX9⟩ : ∃ X9, X9 = X8 ++ (tl ++ own) := ⟨_, rfl⟩
              rw [← hX9] at N₁
              have hV9 := hVt8.mono (fun p hp => by rw [hX9]; exact List.mem_append_left (tl ++ own) hp : ∀ p ∈ X8, p ∈ X9)
              have v1 := hV9.b1
              have v2 := hV9.b2
              have v3 := hV9.b3
              obtain ⟨tu, hut⟩ := str_at hus hiu
              obtain ⟨tx, hxt⟩ := str_at hnv hix
              have hc1 := hnm9.one i hiu
              have hnew := hnm9.new i hiu hix
              have hagain := hnm9.again i hiu hix
              have hsx := hnm9.small _ (List.getElem_mem hix)
              have hox := hnm9.ok _ (List.getElem_mem hix)
              clear hi
              revert hut hc1 hnew hagain
              generalize us[i] = u9
              revert hxt hsx hox
              generalize hx9 : xs9[i] = x9
              intro hxt hsx hox hut hc1 hnew hagain
              (repeat' (first | (k_unfold; (try dsimp only)) | ((fail_if_success (first | (with_reducible show wpAny _ _ (setItem _ _ _) _ _ _) | (with_reducible show wpAny _ _ (call (Value.builtin "dict.get") _) _ _ _) | (with_reducible show wpAny _ _ (exec (Stmt.While _ _ _ _) _) _ _ _) | (with_reducible show wpAny _ _ (exec (Stmt.For _ _ _ _ _) _) _ _ _) | (with_reducible show wpAny _ _ (pyIter _) _ _ _) | (with_reducible show wpAny _ _ (call (Value.builtin "list.append") _) _ _ _) | (with_reducible show wpAny _ _ (eval (Expr.ListComp _ _ _ _) _) _ _ _) | (with_reducible show wpAny _ _ (exec (Stmt.Assign _ (Expr.ListComp _ _ _ _) _) _) _ _ _) | (with_reducible show wpAny _ _ (compareOp CmpOp.NotEq (Value.ref _) (Value.ref _)) _ _ _) | (with_reducible show wpAny _ _ (compareOp CmpOp.Eq (Value.ref _) (Value.ref _)) _ _ _) | (with_reducible show wpAny _ _ (subscriptTail _ _ (Value.ref _) (Value.int _ _)) _ _ _) | (with_reducible show wpAny _ _ (subscriptTail _ _ (Value.ref _) (Value.ref _)) _ _ _) | (with_reducible show wpAny _ _ (getMethod _ (PySem.Str.ofString "count") _) _ _ _) | (with_reducible show wpAny _ _ (call (Value.builtin "list.count") _) _ _ _))); (first | walk1 | (dsimp only; walk1)))))
              k_dflt (refine' item_M ?N_pq43 ?m_pq43 (by omega) ?f_pq43 (show vals[((i : Nat) : Int).toNat]? = _ from hut) ?_ ?hs_pq43; (case N_pq43 => k_asm); (case m_pq43 => k_mem); (case f_pq43 => omega); (case hs_pq43 => with_unfolding_all rfl))
              (repeat' (first | (k_unfold; (try dsimp only)) | ((fail_if_success (first | (with_reducible show wpAny _ _ (setItem _ _ _) _ _ _) | (with_reducible show wpAny _ _ (call (Value.builtin "dict.get") _) _ _ _) | (with_reducible show wpAny _ _ (exec (Stmt.While _ _ _ _) _) _ _ _) | (with_reducible show wpAny _ _ (exec (Stmt.For _ _ _ _ _) _) _ _ _) | (with_reducible show wpAny _ _ (pyIter _) _ _ _) | (with_reducible show wpAny _ _ (call (Value.builtin "list.append") _) _ _ _) | (with_reducible show wpAny _ _ (eval (Expr.ListComp _ _ _ _) _) _ _ _) | (with_reducible show wpAny _ _ (exec (Stmt.Assign _ (Expr.ListComp _ _ _ _) _) _) _ _ _) | (with_reducible show wpAny _ _ (compareOp CmpOp.NotEq (Value.ref _) (Value.ref _)) _ _ _) | (with_reducible show wpAny _ _ (compareOp CmpOp.Eq (Value.ref _) (Value.ref _)) _ _ _) | (with_reducible show wpAny _ _ (subscriptTail _ _ (Value.ref _) (Value.int _ _)) _ _ _) | (with_reducible show wpAny _ _ (subscriptTail _ _ (Value.ref _) (Value.ref _)) _ _ _) | (with_reducible show wpAny _ _ (getMethod _ (PySem.Str.ofString "count") _) _ _ _) | (with_reducible show wpAny _ _ (call (Value.builtin "list.count") _) _ _ _))); (first | walk1 | (dsimp only; walk1)))))
              refine meth_count (by k_asm) (by k_mem : (gv.lc, listOf vals.toArray gv.k) ∈ _) ?_
              (repeat' (first | (k_unfold; (try dsimp only)) | ((fail_if_success (first | (with_reducible show wpAny _ _ (setItem _ _ _) _ _ _) | (with_reducible show wpAny _ _ (call (Value.builtin "dict.get") _) _ _ _) | (with_reducible show wpAny _ _ (exec (Stmt.While _ _ _ _) _) _ _ _) | (with_reducible show wpAny _ _ (exec (Stmt.For _ _ _ _ _) _) _ _ _) | (with_reducible show wpAny _ _ (pyIter _) _ _ _) | (with_reducible show wpAny _ _ (call (Value.builtin "list.append") _) _ _ _) | (with_reducible show wpAny _ _ (eval (Expr.ListComp _ _ _ _) _) _ _ _) | (with_reducible show wpAny _ _ (exec (Stmt.Assign _ (Expr.ListComp _ _ _ _) _) _) _ _ _) | (with_reducible show wpAny _ _ (compareOp CmpOp.NotEq (Value.ref _) (Value.ref _)) _ _ _) | (with_reducible show wpAny _ _ (compareOp CmpOp.Eq (Value.ref _) (Value.ref _)) _ _ _) | (with_reducible show wpAny _ _ (subscriptTail _ _ (Value.ref _) (Value.int _ _)) _ _ _) | (with_reducible show wpAny _ _ (subscriptTail _ _ (Value.ref _) (Value.ref _)) _ _ _) | (with_reducible show wpAny _ _ (getMethod _ (PySem.Str.ofString "count") _) _ _ _) | (with_reducible show wpAny _ _ (call (Value.builtin "list.count") _) _ _ _))); (first | walk1 | (dsimp only; walk1)))))
              first | with_reducible rename News _ _ _ _ => N4 | rename News _ _ _ _ => N4
              refine count_str (News.isList N4 (by k_mem : (gv.lc, listOf vals.toArray gv.k) ∈ _)) (strs_of hus) ?_
              rw [hc1]
              (repeat' (first | (k_unfold; (try dsimp only)) | ((fail_if_success (first | (with_reducible show wpAny _ _ (setItem _ _ _) _ _ _) | (with_reducible show wpAny _ _ (call (Value.builtin "dict.get") _) _ _ _) | (with_reducible show wpAny _ _ (exec (Stmt.While _ _ _ _) _) _ _ _) | (with_reducible show wpAny _ _ (exec (Stmt.For _ _ _ _ _) _) _ _ _) | (with_reducible show wpAny _ _ (pyIter _) _ _ _) | (with_reducible show wpAny _ _ (call (Value.builtin "list.append") _) _ _ _) | (with_reducible show wpAny _ _ (eval (Expr.ListComp _ _ _ _) _) _ _ _) | (with_reducible show wpAny _ _ (exec (Stmt.Assign _ (Expr.ListComp _ _ _ _) _) _) _ _ _) | (with_reducible show wpAny _ _ (compareOp CmpOp.NotEq (Value.ref _) (Value.ref _)) _ _ _) | (with_reducible show wpAny _ _ (compareOp CmpOp.Eq (Value.ref _) (Value.ref _)) _ _ _) | (with_reducible show wpAny _ _ (subscriptTail _ _ (Value.ref _) (Value.int _ _)) _ _ _) | (with_reducible show wpAny _ _ (subscriptTail _ _ (Value.ref _) (Value.ref _)) _ _ _) | (with_reducible show wpAny _ _ (getMethod _ (PySem.Str.ofString "count") _) _ _ _) | (with_reducible show wpAny _ _ (call (Value.builtin "list.count") _) _ _ _) | (with_reducible show wpAny _ _ (exec (Stmt.If _ _ _ _) _) _ _ _))); (first | walk1 | (dsimp only; walk1)))))
              (repeat' (first | (k_unfold; (try dsimp only)) | ((fail_if_success (first | (with_reducible show wpAny _ _ (setItem _ _ _) _ _ _) | (with_reducible show wpAny _ _ (call (Value.builtin "dict.get") _) _ _ _) | (with_reducible show wpAny _ _ (exec (Stmt.While _ _ _ _) _) _ _ _) | (with_reducible show wpAny _ _ (exec (Stmt.For _ _ _ _ _) _) _ _ _) | (with_reducible show wpAny _ _ (pyIter _) _ _ _) | (with_reducible show wpAny _ _ (call (Value.builtin "list.append") _) _ _ _) | (with_reducible show wpAny _ _ (eval (Expr.ListComp _ _ _ _) _) _ _ _) | (with_reducible show wpAny _ _ (exec (Stmt.Assign _ (Expr.ListComp _ _ _ _) _) _) _ _ _) | (with_reducible show wpAny _ _ (compareOp CmpOp.NotEq (Value.ref _) (Value.ref _)) _ _ _) | (with_reducible show wpAny _ _ (compareOp CmpOp.Eq (Value.ref _) (Value.ref _)) _ _ _) | (with_reducible show wpAny _ _ (subscriptTail _ _ (Value.ref _) (Value.int _ _)) _ _ _) | (with_reducible show wpAny _ _ (subscriptTail _ _ (Value.ref _) (Value.ref _)) _ _ _))); (first | walk1 | (dsimp only; walk1)))))
              k_dflt (refine' item_M ?N_pq43 ?m_pq43 (by omega) ?f_pq43 (show nv[((i : Nat) : Int).toNat]? = _ from hxt) ?_ ?hs_pq43; (case N_pq43 => k_asm); (case m_pq43 => k_mem); (case f_pq43 => omega); (case hs_pq43 => with_unfolding_all rfl))
              (repeat' (first | (k_unfold; (try dsimp only)) | ((fail_if_success (first | (with_reducible show wpAny _ _ (setItem _ _ _) _ _ _) | (with_reducible show wpAny _ _ (call (Value.builtin "dict.get") _) _ _ _) | (with_reducible show wpAny _ _ (exec (Stmt.While _ _ _ _) _) _ _ _) | (with_reducible show wpAny _ _ (exec (Stmt.For _ _ _ _ _) _) _ _ _) | (with_reducible show wpAny _ _ (pyIter _) _ _ _) | (with_reducible show wpAny _ _ (call (Value.builtin "list.append") _) _ _ _) | (with_reducible show wpAny _ _ (eval (Expr.ListComp _ _ _ _) _) _ _ _) | (with_reducible show wpAny _ _ (exec (Stmt.Assign _ (Expr.ListComp _ _ _ _) _) _) _ _ _) | (with_reducible show wpAny _ _ (compareOp CmpOp.NotEq (Value.ref _) (Value.ref _)) _ _ _) | (with_reducible show wpAny _ _ (compareOp CmpOp.Eq (Value.ref _) (Value.ref _)) _ _ _) | (with_reducible show wpAny _ _ (subscriptTail _ _ (Value.ref _) (Value.int _ _)) _ _ _) | (with_reducible show wpAny _ _ (subscriptTail _ _ (Value.ref _) (Value.ref _)) _ _ _) | (with_reducible show wpAny _ _ (compareOp CmpOp.NotIn _ (Value.ref _)) _ _ _))); (first | walk1 | (dsimp only; walk1)))))
              k_dflt (refine' slice_front ?sF_pq43 ?sN_pq43 ?sl_pq43 ?sq_pq43 ?se_pq43 ?_ ?ss_pq43 ?sz_pq43; (case sF_pq43 => k_asm); (case sN_pq43 => k_asm); (case sl_pq43 => kmk_list); (case sq_pq43 => kmk_part); (case se_pq43 => omega); (case ss_pq43 => with_unfolding_all rfl); (case sz_pq43 => kmk_size))
              intro nf h6 F6 N6 l6
              k_lt l6
              dsimp only
              (repeat' (first | (k_unfold; (try dsimp only)) | ((fail_if_success (first | (with_reducible show wpAny _ _ (setItem _ _ _) _ _ _) | (with_reducible show wpAny _ _ (call (Value.builtin "dict.get") _) _ _ _) | (with_reducible show wpAny _ _ (exec (Stmt.While _ _ _ _) _) _ _ _) | (with_reducible show wpAny _ _ (exec (Stmt.For _ _ _ _ _) _) _ _ _) | (with_reducible show wpAny _ _ (pyIter _) _ _ _) | (with_reducible show wpAny _ _ (call (Value.builtin "list.append") _) _ _ _) | (with_reducible show wpAny _ _ (eval (Expr.ListComp _ _ _ _) _) _ _ _) | (with_reducible show wpAny _ _ (exec (Stmt.Assign _ (Expr.ListComp _ _ _ _) _) _) _ _ _) | (with_reducible show wpAny _ _ (compareOp CmpOp.NotEq (Value.ref _) (Value.ref _)) _ _ _) | (with_reducible show wpAny _ _ (compareOp CmpOp.Eq (Value.ref _) (Value.ref _)) _ _ _) | (with_reducible show wpAny _ _ (subscriptTail _ _ (Value.ref _) (Value.int _ _)) _ _ _) | (with_reducible show wpAny _ _ (subscriptTail _ _ (Value.ref _) (Value.ref _)) _ _ _) | (with_reducible show wpAny _ _ (compareOp CmpOp.NotIn _ (Value.ref _)) _ _ _))); (first | walk1 | (dsimp only; walk1)))))
              have hnt := dat_take hnv i
              rw [← List.map_take] at hnt
              by_cases hin : x9 ∈ xs9.take i
              · k_dflt (refine notin_str (tv := nv.take i) (k := 0) N6 List.mem_cons_self hnt (fun x hx => hnm9.ok x (List.mem_of_mem_take hx)) hox ?hu_pq43 false (by simp [hin]) ?_; (case hu_pq43 => ktr_units))
                obtain ⟨n, hn1, hn2, rfl⟩ := hagain hin
                have hm1 : x9.length + (Str.ofString ".").length ≤ sizeLine := by rw [PySem.sizeLine_eq]; have : (Str.ofString ".").length = 1 := rfl; omega
                (repeat' (first | (k_unfold; (try dsimp only)) | ((fail_if_success (first | (with_reducible show wpAny _ _ (setItem _ _ _) _ _ _) | (with_reducible show wpAny _ _ (call (Value.builtin "dict.get") _) _ _ _) | (with_reducible show wpAny _ _ (exec (Stmt.While _ _ _ _) _) _ _ _) | (with_reducible show wpAny _ _ (exec (Stmt.For _ _ _ _ _) _) _ _ _) | (with_reducible show wpAny _ _ (pyIter _) _ _ _) | (with_reducible show wpAny _ _ (call (Value.builtin "list.append") _) _ _ _) | (with_reducible show wpAny _ _ (eval (Expr.ListComp _ _ _ _) _) _ _ _) | (with_reducible show wpAny _ _ (exec (Stmt.Assign _ (Expr.ListComp _ _ _ _) _) _) _ _ _) | (with_reducible show wpAny _ _ (compareOp CmpOp.NotEq (Value.ref _) (Value.ref _)) _ _ _) | (with_reducible show wpAny _ _ (compareOp CmpOp.Eq (Value.ref _) (Value.ref _)) _ _ _) | (with_reducible show wpAny _ _ (subscriptTail _ _ (Value.ref _) (Value.int _ _)) _ _ _) | (with_reducible show wpAny _ _ (subscriptTail _ _ (Value.ref _) (Value.ref _)) _ _ _))); (first | walk1 | (dsimp only; walk1)))))
                k_dflt (refine' item_M ?N_pq43 ?m_pq43 (by omega) ?f_pq43 (show nv[((i : Nat) : Int).toNat]? = _ from hxt) ?_ ?hs_pq43; (case N_pq43 => k_asm); (case m_pq43 => k_mem); (case f_pq43 => omega); (case hs_pq43 => with_unfolding_all rfl))
                (repeat' (first | (k_unfold; (try dsimp only)) | ((fail_if_success (first | (with_reducible show wpAny _ _ (setItem _ _ _) _ _ _) | (with_reducible show wpAny _ _ (call (Value.builtin "dict.get") _) _ _ _) | (with_reducible show wpAny _ _ (exec (Stmt.While _ _ _ _) _) _ _ _) | (with_reducible show wpAny _ _ (exec (Stmt.For _ _ _ _ _) _) _ _ _) | (with_reducible show wpAny _ _ (pyIter _) _ _ _) | (with_reducible show wpAny _ _ (call (Value.builtin "list.append") _) _ _ _) | (with_reducible show wpAny _ _ (eval (Expr.ListComp _ _ _ _) _) _ _ _) | (with_reducible show wpAny _ _ (exec (Stmt.Assign _ (Expr.ListComp _ _ _ _) _) _) _ _ _) | (with_reducible show wpAny _ _ (compareOp CmpOp.NotEq (Value.ref _) (Value.ref _)) _ _ _) | (with_reducible show wpAny _ _ (compareOp CmpOp.Eq (Value.ref _) (Value.ref _)) _ _ _) | (with_reducible show wpAny _ _ (subscriptTail _ _ (Value.ref _) (Value.int _ _)) _ _ _) | (with_reducible show wpAny _ _ (subscriptTail _ _ (Value.ref _) (Value.ref _)) _ _ _))); (first | walk1 | (dsimp only; walk1)))))
                rw [text_front (x9 ++ Str.ofString ".") (Str.ofString (toString n)) (j := (x9.length : Int) + 1) (by rw [Str.length_append]; rfl)]
                k_dflt (refine' item_M ?N_pq43 ?m_pq43 (by omega) ?f_pq43 (show nv[((i : Nat) : Int).toNat]? = _ from hxt) ?_ ?hs_pq43; (case N_pq43 => k_asm); (case m_pq43 => k_mem); (case f_pq43 => omega); (case hs_pq43 => with_unfolding_all rfl))
                (repeat' (first | (k_unfold; (try dsimp only)) | ((fail_if_success (first | (with_reducible show wpAny _ _ (setItem _ _ _) _ _ _) | (with_reducible show wpAny _ _ (call (Value.builtin "dict.get") _) _ _ _) | (with_reducible show wpAny _ _ (exec (Stmt.While _ _ _ _) _) _ _ _) | (with_reducible show wpAny _ _ (exec (Stmt.For _ _ _ _ _) _) _ _ _) | (with_reducible show wpAny _ _ (pyIter _) _ _ _) | (with_reducible show wpAny _ _ (call (Value.builtin "list.append") _) _ _ _) | (with_reducible show wpAny _ _ (eval (Expr.ListComp _ _ _ _) _) _ _ _) | (with_reducible show wpAny _ _ (exec (Stmt.Assign _ (Expr.ListComp _ _ _ _) _) _) _ _ _) | (with_reducible show wpAny _ _ (compareOp CmpOp.NotEq (Value.ref _) (Value.ref _)) _ _ _) | (with_reducible show wpAny _ _ (compareOp CmpOp.Eq (Value.ref _) (Value.ref _)) _ _ _) | (with_reducible show wpAny _ _ (subscriptTail _ _ (Value.ref _) (Value.int _ _)) _ _ _) | (with_reducible show wpAny _ _ (subscriptTail _ _ (Value.ref _) (Value.ref _)) _ _ _))); (first | walk1 | (dsimp only; walk1)))))
                · rename ((_ : Str) != _) = true => hb9
                  exact absurd hb9 (by simp)
                k_dflt (refine' item_M ?N_pq43 ?m_pq43 (by omega) ?f_pq43 (show nv[((i : Nat) : Int).toNat]? = _ from hxt) ?_ ?hs_pq43; (case N_pq43 => k_asm); (case m_pq43 => k_mem); (case f_pq43 => omega); (case hs_pq43 => with_unfolding_all rfl))
                (repeat' (first | (k_unfold; (try dsimp only)) | ((fail_if_success (first | (with_reducible show wpAny _ _ (setItem _ _ _) _ _ _) | (with_reducible show wpAny _ _ (call (Value.builtin "dict.get") _) _ _ _) | (with_reducible show wpAny _ _ (exec (Stmt.While _ _ _ _) _) _ _ _) | (with_reducible show wpAny _ _ (exec (Stmt.For _ _ _ _ _) _) _ _ _) | (with_reducible show wpAny _ _ (pyIter _) _ _ _) | (with_reducible show wpAny _ _ (call (Value.builtin "list.append") _) _ _ _) | (with_reducible show wpAny _ _ (eval (Expr.ListComp _ _ _ _) _) _ _ _) | (with_reducible show wpAny _ _ (exec (Stmt.Assign _ (Expr.ListComp _ _ _ _) _) _) _ _ _) | (with_reducible show wpAny _ _ (compareOp CmpOp.NotEq (Value.ref _) (Value.ref _)) _ _ _) | (with_reducible show wpAny _ _ (compareOp CmpOp.Eq (Value.ref _) (Value.ref _)) _ _ _) | (with_reducible show wpAny _ _ (subscriptTail _ _ (Value.ref _) (Value.int _ _)) _ _ _) | (with_reducible show wpAny _ _ (subscriptTail _ _ (Value.ref _) (Value.ref _)) _ _ _) | (with_reducible show wpAny _ _ (call (Value.ref 320) _) _ _ _))); (first | walk1 | (dsimp only; walk1)))))
                rw [text_back (x9 ++ Str.ofString ".") (Str.ofString (toString n)) (j := (x9.length : Int) + 1) (by rw [Str.length_append]; rfl)]
                first | with_reducible rename News _ _ _ _ => N7 | rename News _ _ _ _ => N7
                k_dflt (refine' is_number_tell ?B_pq43 ?F_pq43 ?X_pq43 ?T_pq43 ?hk_pq43 ?hd_pq43 ?hu_pq43 N7 hn1 hn2 ?_; (case B_pq43 => k_asm); (case F_pq43 => k_asm); (case X_pq43 => k_asm); (case T_pq43 => k_asm); (case hk_pq43 => exact rfl); (case hd_pq43 => ktr_room); (case hu_pq43 => ktr_units))
                intro h8 tk8 F8 N8
                (repeat' (first | (k_unfold; (try dsimp only)) | ((fail_if_success (first | (with_reducible show wpAny _ _ (setItem _ _ _) _ _ _) | (with_reducible show wpAny _ _ (call (Value.builtin "dict.get") _) _ _ _) | (with_reducible show wpAny _ _ (exec (Stmt.While _ _ _ _) _) _ _ _) | (with_reducible show wpAny _ _ (exec (Stmt.For _ _ _ _ _) _) _ _ _) | (with_reducible show wpAny _ _ (pyIter _) _ _ _) | (with_reducible show wpAny _ _ (call (Value.builtin "list.append") _) _ _ _) | (with_reducible show wpAny _ _ (eval (Expr.ListComp _ _ _ _) _) _ _ _) | (with_reducible show wpAny _ _ (exec (Stmt.Assign _ (Expr.ListComp _ _ _ _) _) _) _ _ _) | (with_reducible show wpAny _ _ (compareOp CmpOp.NotEq (Value.ref _) (Value.ref _)) _ _ _) | (with_reducible show wpAny _ _ (compareOp CmpOp.Eq (Value.ref _) (Value.ref _)) _ _ _) | (with_reducible show wpAny _ _ (subscriptTail _ _ (Value.ref _) (Value.int _ _)) _ _ _) | (with_reducible show wpAny _ _ (subscriptTail _ _ (Value.ref _) (Value.ref _)) _ _ _) | (with_reducible show wpAny _ _ (call (Value.ref 320) _) _ _ _))); (first | walk1 | (dsimp only; walk1)))))
                refine kd_end () [] hsep (by k_asm) N8 ?_ ?_ rfl (by intro _ h; cases h) (by intro _ h; cases h) (by intro _ h; cases h) ?_ trivial trivial
                · intro p hp; rw [hX9]; simp only [List.nil_append, List.cons_append, List.mem_cons, List.mem_append] at hp ⊢; rcases hp with h | h | h | h | h | h | h <;> simp [h]
                · intro p hp; rw [hX9]; simp [hp]
                · intro z h1 _ h3; simp at h3; simp [h1, h3, kstB]
              · k_dflt (refine notin_str (tv := nv.take i) (k := 0) N6 List.mem_cons_self hnt (fun x hx => hnm9.ok x (List.mem_of_mem_take hx)) hox ?hu_pq43 true (by simp [hin]) ?_; (case hu_pq43 => ktr_units))
                have e := hnew hin
                subst e
                (repeat' (first | (k_unfold; (try dsimp only)) | ((fail_if_success (first | (with_reducible show wpAny _ _ (setItem _ _ _) _ _ _) | (with_reducible show wpAny _ _ (call (Value.builtin "dict.get") _) _ _ _) | (with_reducible show wpAny _ _ (exec (Stmt.While _ _ _ _) _) _ _ _) | (with_reducible show wpAny _ _ (exec (Stmt.For _ _ _ _ _) _) _ _ _) | (with_reducible show wpAny _ _ (pyIter _) _ _ _) | (with_reducible show wpAny _ _ (call (Value.builtin "list.append") _) _ _ _) | (with_reducible show wpAny _ _ (eval (Expr.ListComp _ _ _ _) _) _ _ _) | (with_reducible show wpAny _ _ (exec (Stmt.Assign _ (Expr.ListComp _ _ _ _) _) _) _ _ _) | (with_reducible show wpAny _ _ (compareOp CmpOp.NotEq (Value.ref _) (Value.ref _)) _ _ _) | (with_reducible show wpAny _ _ (compareOp CmpOp.Eq (Value.ref _) (Value.ref _)) _ _ _) | (with_reducible show wpAny _ _ (subscriptTail _ _ (Value.ref _) (Value.int _ _)) _ _ _) | (with_reducible show wpAny _ _ (subscriptTail _ _ (Value.ref _) (Value.ref _)) _ _ _))); (first | walk1 | (dsimp only; walk1)))))
                k_dflt (refine' item_M ?N_pq43 ?m_pq43 (by omega) ?f_pq43 (show nv[((i : Nat) : Int).toNat]? = _ from hxt) ?_ ?hs_pq43; (case N_pq43 => k_asm); (case m_pq43 => k_mem); (case f_pq43 => omega); (case hs_pq43 => with_unfolding_all rfl))
                (repeat' (first | (k_unfold; (try dsimp only)) | ((fail_if_success (first | (with_reducible show wpAny _ _ (setItem _ _ _) _ _ _) | (with_reducible show wpAny _ _ (call (Value.builtin "dict.get") _) _ _ _) | (with_reducible show wpAny _ _ (exec (Stmt.While _ _ _ _) _) _ _ _) | (with_reducible show wpAny _ _ (exec (Stmt.For _ _ _ _ _) _) _ _ _) | (with_reducible show wpAny _ _ (pyIter _) _ _ _) | (with_reducible show wpAny _ _ (call (Value.builtin "list.append") _) _ _ _) | (with_reducible show wpAny _ _ (eval (Expr.ListComp _ _ _ _) _) _ _ _) | (with_reducible show wpAny _ _ (exec (Stmt.Assign _ (Expr.ListComp _ _ _ _) _) _) _ _ _) | (with_reducible show wpAny _ _ (compareOp CmpOp.NotEq (Value.ref _) (Value.ref _)) _ _ _) | (with_reducible show wpAny _ _ (compareOp CmpOp.Eq (Value.ref _) (Value.ref _)) _ _ _) | (with_reducible show wpAny _ _ (subscriptTail _ _ (Value.ref _) (Value.int _ _)) _ _ _) | (with_reducible show wpAny _ _ (subscriptTail _ _ (Value.ref _) (Value.ref _)) _ _ _))); (first | walk1 | (dsimp only; walk1)))))
                · rename ((_ : Str) != _) = true => hb9
                  exact absurd hb9 (by simp)
                · refine kd_end () [] hsep (by k_asm) N6 ?_ ?_ rfl (by intro _ h; cases h) (by intro _ h; cases h) (by intro _ h; cases h) ?_ trivial trivial
                  · intro p hp; rw [hX9]; simp only [List.nil_append, List.cons_append, List.mem_cons, List.mem_append] at hp ⊢; rcases hp with h | h | h | h | h | h | h <;> simp [h]
                  · intro p hp; rw [hX9]; simp [hp]
                  · intro z h1 _ h3; simp at h3; simp [h1, h3, kstB]
            · clear N3 F3 hR
              rintro c tl u h tk hoff _ _ F₁ N₁
              simp only [List.cons_append, List.nil_append] at N₁
              (repeat' (first | (k_unfold; (try dsimp only)) | ((fail_if_success (first | (with_reducible show wpAny _ _ (setItem _ _ _) _ _ _) | (with_reducible show wpAny _ _ (call (Value.builtin "dict.get") _) _ _ _) | (with_reducible show wpAny _ _ (exec (Stmt.While _ _ _ _) _) _ _ _) | (with_reducible show wpAny _ _ (exec (Stmt.For _ _ _ _ _) _) _ _ _) | (with_reducible show wpAny _ _ (pyIter _) _ _ _) | (with_reducible show wpAny _ _ (call (Value.builtin "list.append") _) _ _ _) | (with_reducible show wpAny _ _ (eval (Expr.ListComp _ _ _ _) _) _ _ _) | (with_reducible show wpAny _ _ (exec (Stmt.Assign _ (Expr.ListComp _ _ _ _) _) _) _ _ _) | (with_reducible show wpAny _ _ (compareOp CmpOp.NotEq (Value.ref _) (Value.ref _)) _ _ _) | (with_reducible show wpAny _ _ (compareOp CmpOp.Eq (Value.ref _) (Value.ref _)) _ _ _) | (with_reducible show wpAny _ _ (compareOp CmpOp.In _ (Value.ref _)) _ _ _) | (with_reducible show wpAny _ _ (compareOp CmpOp.NotIn _ (Value.ref _)) _ _ _))); (first | walk1 | (dsimp only; walk1)))))
              first | with_reducible rename Fr _ _ _ _ => F4 | rename Fr _ _ _ _ => F4
              obtain ⟨m9, F5⟩ := fr_pick (a := Str.ofString "df") (b := Str.ofString "columns") F4 (by rfl) (by rfl)
              exact ⟨_, _, m9, rfl, rfl, F5, cb_drop N₁ (by intro p hp; simp only [List.mem_cons, List.mem_append] at hp ⊢; rcases hp with h | h | h | h | h <;> simp [h])⟩
    case cond_pq38 =>
      (repeat' (first | (k_unfold; (try dsimp only)) | ((fail_if_success (first | (with_reducible show wpAny _ _ (setItem _ _ _) _ _ _) | (with_reducible show wpAny _ _ (call (Value.builtin "dict.get") _) _ _ _) | (with_reducible show wpAny _ _ (exec (Stmt.While _ _ _ _) _) _ _ _) | (with_reducible show wpAny _ _ (exec (Stmt.For _ _ _ _ _) _) _ _ _) | (with_reducible show wpAny _ _ (pyIter _) _ _ _) | (with_reducible show wpAny _ _ (call (Value.builtin "list.append") _) _ _ _) | (with_reducible show wpAny _ _ (eval (Expr.ListComp _ _ _ _) _) _ _ _) | (with_reducible show wpAny _ _ (exec (Stmt.Assign _ (Expr.ListComp _ _ _ _) _) _) _ _ _) | (with_reducible show wpAny _ _ (compareOp CmpOp.NotEq (Value.ref _) (Value.ref _)) _ _ _) | (with_reducible show wpAny _ _ (compareOp CmpOp.Eq (Value.ref _) (Value.ref _)) _ _ _) | (with_reducible show wpAny _ _ (compareOp CmpOp.In _ (Value.ref _)) _ _ _) | (with_reducible show wpAny _ _ (compareOp CmpOp.NotIn _ (Value.ref _)) _ _ _))); (first | walk1 | (dsimp only; walk1)))))
      first | with_reducible rename News _ _ _ _ => N11 | rename News _ _ _ _ => N11
      by_cases hnn : none ∈ d.ps.map (norm (1 + q))
      · k_dflt (refine notin_none N11 (by k_mem : (pr, listOf tv.toArray tv.length) ∈ _) htv ?hu_pq38 false (by simp [hnn]) ?_; (case hu_pq38 => ktr_units))
        (repeat' (first | (k_unfold; (try dsimp only)) | ((fail_if_success (first | (with_reducible show wpAny _ _ (setItem _ _ _) _ _ _) | (with_reducible show wpAny _ _ (call (Value.builtin "dict.get") _) _ _ _) | (with_reducible show wpAny _ _ (exec (Stmt.While _ _ _ _) _) _ _ _) | (with_reducible show wpAny _ _ (exec (Stmt.For _ _ _ _ _) _) _ _ _) | (with_reducible show wpAny _ _ (pyIter _) _ _ _) | (with_reducible show wpAny _ _ (call (Value.builtin "list.append") _) _ _ _) | (with_reducible show wpAny _ _ (eval (Expr.ListComp _ _ _ _) _) _ _ _) | (with_reducible show wpAny _ _ (exec (Stmt.Assign _ (Expr.ListComp _ _ _ _) _) _) _ _ _) | (with_reducible show wpAny _ _ (compareOp CmpOp.NotEq (Value.ref _) (Value.ref _)) _ _ _) | (with_reducible show wpAny _ _ (compareOp CmpOp.Eq (Value.ref _) (Value.ref _)) _ _ _) | (with_reducible show wpAny _ _ (compareOp CmpOp.In _ (Value.ref _)) _ _ _) | (with_reducible show wpAny _ _ (compareOp CmpOp.NotIn _ (Value.ref _)) _ _ _))); (first | walk1 | (dsimp only; walk1)))))
        exact ⟨_, _, (Bool.eq_false_iff.mpr fun e => hb.mp e (lacks_none hnn)).symm, rfl, by k_asm, N11⟩
      · k_dflt (refine notin_none N11 (by k_mem : (pr, listOf tv.toArray tv.length) ∈ _) htv ?hu_pq38 true (by simp [hnn]) ?_; (case hu_pq38 => ktr_units))
        (repeat' (first | (k_unfold; (try dsimp only)) | ((fail_if_success (first | (with_reducible show wpAny _ _ (setItem _ _ _) _ _ _) | (with_reducible show wpAny _ _ (call (Value.builtin "dict.get") _) _ _ _) | (with_reducible show wpAny _ _ (exec (Stmt.While _ _ _ _) _) _ _ _) | (with_reducible show wpAny _ _ (exec (Stmt.For _ _ _ _ _) _) _ _ _) | (with_reducible show wpAny _ _ (pyIter _) _ _ _) | (with_reducible show wpAny _ _ (call (Value.builtin "list.append") _) _ _ _) | (with_reducible show wpAny _ _ (eval (Expr.ListComp _ _ _ _) _) _ _ _) | (with_reducible show wpAny _ _ (exec (Stmt.Assign _ (Expr.ListComp _ _ _ _) _) _) _ _ _) | (with_reducible show wpAny _ _ (compareOp CmpOp.NotEq (Value.ref _) (Value.ref _)) _ _ _) | (with_reducible show wpAny _ _ (compareOp CmpOp.Eq (Value.ref _) (Value.ref _)) _ _ _) | (with_reducible show wpAny _ _ (compareOp CmpOp.In _ (Value.ref _)) _ _ _) | (with_reducible show wpAny _ _ (compareOp CmpOp.NotIn _ (Value.ref _)) _ _ _))); (first | walk1 | (dsimp only; walk1)))))
        k_dflt (refine LCt.ListComp_T (F₀ := by k_asm) (by with_unfolding_all rfl) (by decide) (by rfl) (by decide) (by rfl) ?_)
        (repeat' (first | (k_unfold; (try dsimp only)) | ((fail_if_success (first | (with_reducible show wpAny _ _ (setItem _ _ _) _ _ _) | (with_reducible show wpAny _ _ (call (Value.builtin "dict.get") _) _ _ _) | (with_reducible show wpAny _ _ (exec (Stmt.While _ _ _ _) _) _ _ _) | (with_reducible show wpAny _ _ (exec (Stmt.For _ _ _ _ _) _) _ _ _) | (with_reducible show wpAny _ _ (pyIter _) _ _ _) | (with_reducible show wpAny _ _ (call (Value.builtin "list.append") _) _ _ _) | (with_reducible show wpAny _ _ (eval (Expr.ListComp _ _ _ _) _) _ _ _) | (with_reducible show wpAny _ _ (exec (Stmt.Assign _ (Expr.ListComp _ _ _ _) _) _) _ _ _) | (with_reducible show wpAny _ _ (compareOp CmpOp.NotEq (Value.ref _) (Value.ref _)) _ _ _) | (with_reducible show wpAny _ _ (compareOp CmpOp.Eq (Value.ref _) (Value.ref _)) _ _ _) | (with_reducible show wpAny _ _ (compareOp CmpOp.In _ (Value.ref _)) _ _ _) | (with_reducible show wpAny _ _ (compareOp CmpOp.NotIn _ (Value.ref _)) _ _ _) | (with_reducible show LCg.CompSrc _ _ _ _ _ _ _ _ _ _ _ _ _ _) | (with_reducible show LCt.CompSrcT _ _ _ _ _ _ _ _ _ _ _ _ _ _ _))); (first | walk1 | (dsimp only; walk1)))))
        k_dflt (refine LCt.CompSrcT.ledger (its := tv.toArray) (by rfl) (by k_asm) (by k_asm) (by k_mem) (by rw [List.size_toArray, PySem.sizeLine_eq]; omega) ?_)
        intro g2
        refine' comp_ledT (fun i ys nx => nx = _ ∧ ys.length = (dups (d.ps.map (norm (1 + q))) i).length) ⟨rfl, rfl⟩ ?turn_pq38 ?fin_pq38
        case turn_pq38 =>
          rintro i v nx I oI C oC DD m₂ zs h tk E' hi hv ⟨rfl, hz⟩ hC hx F3 N3 off ne
          obtain ⟨dd, he1, he2, he3⟩ := dat_at htv hv
          obtain ⟨p, hp, rfl⟩ := pl_at he1
          (repeat' (first | (k_unfold; (try dsimp only)) | ((fail_if_success (first | (with_reducible show wpAny _ _ (setItem _ _ _) _ _ _) | (with_reducible show wpAny _ _ (call (Value.builtin "dict.get") _) _ _ _) | (with_reducible show wpAny _ _ (exec (Stmt.While _ _ _ _) _) _ _ _) | (with_reducible show wpAny _ _ (exec (Stmt.For _ _ _ _ _) _) _ _ _) | (with_reducible show wpAny _ _ (pyIter _) _ _ _) | (with_reducible show wpAny _ _ (call (Value.builtin "list.append") _) _ _ _) | (with_reducible show wpAny _ _ (eval (Expr.ListComp _ _ _ _) _) _ _ _) | (with_reducible show wpAny _ _ (exec (Stmt.Assign _ (Expr.ListComp _ _ _ _) _) _) _ _ _) | (with_reducible show wpAny _ _ (compareOp CmpOp.NotEq (Value.ref _) (Value.ref _)) _ _ _) | (with_reducible show wpAny _ _ (compareOp CmpOp.Eq (Value.ref _) (Value.ref _)) _ _ _) | (with_reducible show wpAny _ _ (getMethod _ (PySem.Str.ofString "count") _) _ _ _))); (first | walk1 | (dsimp only; walk1)))))
          refine meth_count (by k_asm) (by k_mem : (pr, listOf tv.toArray tv.length) ∈ _) ?_
          (repeat' (first | (k_unfold; (try dsimp only)) | ((fail_if_success (first | (with_reducible show wpAny _ _ (setItem _ _ _) _ _ _) | (with_reducible show wpAny _ _ (call (Value.builtin "dict.get") _) _ _ _) | (with_reducible show wpAny _ _ (exec (Stmt.While _ _ _ _) _) _ _ _) | (with_reducible show wpAny _ _ (exec (Stmt.For _ _ _ _ _) _) _ _ _) | (with_reducible show wpAny _ _ (pyIter _) _ _ _) | (with_reducible show wpAny _ _ (call (Value.builtin "list.append") _) _ _ _) | (with_reducible show wpAny _ _ (eval (Expr.ListComp _ _ _ _) _) _ _ _) | (with_reducible show wpAny _ _ (exec (Stmt.Assign _ (Expr.ListComp _ _ _ _) _) _) _ _ _) | (with_reducible show wpAny _ _ (compareOp CmpOp.NotEq (Value.ref _) (Value.ref _)) _ _ _) | (with_reducible show wpAny _ _ (compareOp CmpOp.Eq (Value.ref _) (Value.ref _)) _ _ _) | (with_reducible show wpAny _ _ (call (Value.builtin "list.count") _) _ _ _))); (first | walk1 | (dsimp only; walk1)))))
          first | with_reducible rename News _ _ _ _ => N4 | rename News _ _ _ _ => N4
          refine count_pl (News.isList N4 (by k_mem : (pr, listOf tv.toArray tv.length) ∈ _)) htv he3 ?_
          (repeat' (first | (k_unfold; (try dsimp only)) | ((fail_if_success (first | (with_reducible show wpAny _ _ (setItem _ _ _) _ _ _) | (with_reducible show wpAny _ _ (call (Value.builtin "dict.get") _) _ _ _) | (with_reducible show wpAny _ _ (exec (Stmt.While _ _ _ _) _) _ _ _) | (with_reducible show wpAny _ _ (exec (Stmt.For _ _ _ _ _) _) _ _ _) | (with_reducible show wpAny _ _ (pyIter _) _ _ _) | (with_reducible show wpAny _ _ (call (Value.builtin "list.append") _) _ _ _) | (with_reducible show wpAny _ _ (eval (Expr.ListComp _ _ _ _) _) _ _ _) | (with_reducible show wpAny _ _ (exec (Stmt.Assign _ (Expr.ListComp _ _ _ _) _) _) _ _ _) | (with_reducible show wpAny _ _ (compareOp CmpOp.NotEq (Value.ref _) (Value.ref _)) _ _ _) | (with_reducible show wpAny _ _ (compareOp CmpOp.Eq (Value.ref _) (Value.ref _)) _ _ _) | (with_reducible show wpAny _ _ (compareOp CmpOp.In _ (Value.ref _)) _ _ _) | (with_reducible show wpAny _ _ (compareOp CmpOp.NotIn _ (Value.ref _)) _ _ _))); (first | walk1 | (dsimp only; walk1)))))
          · exact LCg.CompEnd.intro (by k_asm) (by k_asm) _ (fun p hp => hp) off (src_ledger (by k_mem)) ⟨rfl, by rw [dups_yes hp (by omega)]; simp [hz]⟩
          · exact LCg.CompEnd.intro (by k_asm) (by k_asm) _ (fun p hp => hp) off (src_ledger (by k_mem)) ⟨rfl, by rw [dups_no hp (by omega)]; exact hz⟩
        case fin_pq38 =>
          rintro zs nx ⟨rfl, hz⟩
          rw [show tv.toArray.size = (d.ps.map (norm (1 + q))).length by rw [List.size_toArray, htv.length, List.length_map]] at hz
          have hzl : zs.length ≤ 1000 := by rw [hz]; refine Nat.le_trans dups_le ?_; rw [List.length_map]; omega
          (repeat' (first | (k_unfold; (try dsimp only)) | ((fail_if_success (first | (with_reducible show wpAny _ _ (setItem _ _ _) _ _ _) | (with_reducible show wpAny _ _ (call (Value.builtin "dict.get") _) _ _ _) | (with_reducible show wpAny _ _ (exec (Stmt.While _ _ _ _) _) _ _ _) | (with_reducible show wpAny _ _ (exec (Stmt.For _ _ _ _ _) _) _ _ _) | (with_reducible show wpAny _ _ (pyIter _) _ _ _) | (with_reducible show wpAny _ _ (call (Value.builtin "list.append") _) _ _ _) | (with_reducible show wpAny _ _ (eval (Expr.ListComp _ _ _ _) _) _ _ _) | (with_reducible show wpAny _ _ (exec (Stmt.Assign _ (Expr.ListComp _ _ _ _) _) _) _ _ _) | (with_reducible show wpAny _ _ (compareOp CmpOp.NotEq (Value.ref _) (Value.ref _)) _ _ _) | (with_reducible show wpAny _ _ (compareOp CmpOp.Eq (Value.ref _) (Value.ref _)) _ _ _) | (with_reducible show wpAny _ _ (compareOp CmpOp.In _ (Value.ref _)) _ _ _) | (with_reducible show wpAny _ _ (compareOp CmpOp.NotIn _ (Value.ref _)) _ _ _))); (first | walk1 | (dsimp only; walk1)))))
          · first | with_reducible rename News _ _ _ _ => N12 | rename News _ _ _ _ => N12
            exact ⟨_, _, cond_yes hb hnn hz (by omega), rfl, by k_asm, news_tail N12⟩
          · first | with_reducible rename News _ _ _ _ => N12 | rename News _ _ _ _ => N12
            exact ⟨_, _, cond_no hb hnn hz (by omega), rfl, by k_asm, news_tail N12⟩


theorem law : Challenge.rw_pq1321_01.Holds := cut0.2 ⟨cut1.2 ⟨cut2.2 ⟨cut3.2 ⟨law_end⟩⟩⟩⟩

end Mine
theorem PySem.Challenge.cw_pq1321_01_holds : PySem.Challenge.rw_pq1321_01.Holds :=
  Mine.law
