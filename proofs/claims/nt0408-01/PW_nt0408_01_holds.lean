import PyProof.Rows.All
import Wide.All
import OpenK.AllK
import Wide.FinOn
import PySem.Challenge.RW_nt0408_01
set_option Elab.async false
set_option maxRecDepth 100000
set_option maxHeartbeats 8000000
section
open PySem PySem.W PyProof.Rows PySem.Calls PySem.Spec
namespace Mine
noncomputable abbrev pw : Program := PySem.Challenge.pw_nt0408_01
noncomputable abbrev dE (P : Params) (k : String) (t : Nat) (v : Value) : DictEntry := ⟨PyData.keyHash P (Str.ofString k), .str (Str.ofString k) t, v⟩
noncomputable abbrev sO {ts : List PySem.Expr} {s : Str} {k : Nat} {p q : Pos} {x : Option Stmt} (_ : x = some (Stmt.Assign ts (PySem.Expr.Constant (Const.str s) k p) q)) : Str := s
noncomputable abbrev fO {n : Str} {a : Arguments} {b : List Stmt} {dl : List PySem.Expr} {r : Option PySem.Expr} {tp : List TypeParam} {sc : Scope} {ts : Option Scope} {bd : Str} {ps : Pos} {x : Option Stmt}
    (_ : x = some (Stmt.FunctionDef n a b dl r tp sc ts bd ps)) (md : String) (tok c : Nat) : Obj :=
  ⟨.type "function", none, .func (fnOf n n a b sc .none .none .none (.str (Str.ofString md) tok) none (.ref c) .none), #[]⟩
noncomputable abbrev cO (n : String) (t : Nat) (line argc f7 : Int) (r0 r1 r2 r3 r4 : Nat) (u : Int) (z : Nat) : Obj :=
  ⟨.type "code", none, .fields #[.str (Str.ofString n) t, .str (Str.ofString n) (t + 1), .str (Str.ofString "/claim/cut.py") (t + 2), .int line 0, .int argc 0, .int 0 0, .int 0 0, .int f7 0, .ref r0, .bool true, .int 181 0, .ref r1, .none, .ref r2, .ref r3, .ref r4, .int u 0, .int line 0, .str (Str.ofString "/claim/cut.py") z], #[]⟩
noncomputable def KK : Params → Frag := fun P =>
  (nat_lit 3, ⟨.type "dict", none, .dict (List.toArray (
    dE P "__name__" 165 (.str "law_nt0408_01" 570) ::
    dE P "__doc__" 166 .none ::
    dE P "__package__" 167 .none ::
    dE P "__loader__" 168 (.builtin "__main__.__loader__#opaque") ::
    dE P "__spec__" 169 .none ::
    dE P "__annotations__" 170 (.ref 6) ::
    dE P "__builtins__" 171 (.ref 4) ::
    dE P "__file__" 173 (.str "/claim/cut.py" 172) ::
    dE P "__cached__" 174 .none ::
    dE P "SIGN_BIT" 192 (.int (9223372036854775808) 191) ::
    dE P "FRACTION_BITS" 194 (.int (52) 193) ::
    dE P "FRACTION_MASK" 200 (.int (4503599627370495) 199) ::
    dE P "HIDDEN_BIT_dbits" 204 (.int (4503599627370496) 203) ::
    dE P "EXPONENT_MASK" 206 (.int (2047) 205) ::
    dE P "EXPONENT_SHIFT" 208 (.int (1075) 207) ::
    dE P "LEAST_POWER_dbits" 211 (.int (-1074) 210) ::
    dE P "ZERO" 213 (.int (0) 212) ::
    dE P "NEG_ZERO" 217 (.int (9223372036854775808) 216) ::
    dE P "INF" 221 (.int (9218868437227405312) 220) ::
    dE P "NAN" 225 (.int (9221120237041090560) 224) ::
    dE P "width" 233 (.ref 21) ::
    dE P "pack" 242 (.ref 28) ::
    dE P "is_negative" 249 (.ref 35) ::
    dE P "is_nan" 256 (.ref 42) ::
    dE P "is_inf" 263 (.ref 49) ::
    dE P "is_zero" 270 (.ref 56) ::
    dE P "signed" 278 (.ref 63) ::
    dE P "parts" 288 (.ref 70) ::
    dE P "quotient" 297 (.ref 77) ::
    dE P "round_ratio" 310 (.ref 84) ::
    dE P "assembled" 320 (.ref 91) ::
    dE P "from_int" 327 (.ref 98) ::
    dE P "LEAST_POWER_numshow" 332 (.int (-1074) 331) ::
    dE P "HIDDEN_BIT_numshow" 336 (.int (4503599627370496) 335) ::
    dE P "scaled" 347 (.ref 105) ::
    dE P "decimal_place" 356 (.ref 112) ::
    dE P "first_place" 369 (.ref 119) ::
    dE P "shortest" 390 (.ref 126) ::
    dE P "last_figure" 401 (.ref 133) ::
    dE P "signed_exponent" 408 (.ref 140) ::
    dE P "with_exponent" 417 (.ref 147) ::
    dE P "laid_out" 426 (.ref 154) ::
    dE P "without_figures" 433 (.ref 161) ::
    dE P "show" 443 (.ref 168) ::
    dE P "BLANKS" 447 (.str (sO (x := pw.main.body[38]?) rfl) 446) ::
    dE P "MORE_BLANKS" 449 (.str (sO (x := pw.main.body[39]?) rfl) 448) ::
    dE P "ENDLESS" 451 (.str "Infinity" 450) ::
    dE P "FARTHEST" 453 (.int (400) 452) ::
    dE P "is_blank" 460 (.ref 175) ::
    dE P "skip_blanks" 468 (.ref 182) ::
    dE P "trimmed" 477 (.ref 189) ::
    dE P "figure_of" 484 (.ref 196) ::
    dE P "run_end" 493 (.ref 203) ::
    dE P "worth" 505 (.ref 210) ::
    dE P "from_decimal" 516 (.ref 217) ::
    dE P "sign_at" 524 (.ref 224) ::
    dE P "turned" 532 (.ref 231) ::
    dE P "exponent_at" 544 (.ref 238) ::
    dE P "decimal_at" 557 (.ref 245) ::
    dE P "text_to_number" 569 (.ref 252) ::
    dE P "_law_ratio" 582 (.ref 259) ::
    dE P "_law_between" 590 (.ref 266) ::
    dE P "_law_order" 598 (.ref 273) ::
    dE P "_law_reads" 608 (.ref 280) ::
    dE P "_law_tens" 616 (.ref 287) ::
    dE P "_law_doubles" 627 (.ref 294) ::
    dE P "_law_distance" 635 (.ref 301) ::
    dE P "_law_is_shortest" 651 (.ref 308) ::
    dE P "law" 657 (.ref 313) :: [])) 69, #[]⟩) ::
  (nat_lit 20, cO "width" 226 13 1 3 15 16 17 18 19 231 232) ::
  (nat_lit 21, fO (x := pw.main.body[12]?) rfl "js.dbits" 187 20) ::
  (nat_lit 27, cO "pack" 234 22 3 3 22 23 24 25 26 240 241) ::
  (nat_lit 28, fO (x := pw.main.body[13]?) rfl "js.dbits" 187 27) ::
  (nat_lit 34, cO "is_negative" 243 24 1 3 29 30 31 32 33 247 248) ::
  (nat_lit 35, fO (x := pw.main.body[14]?) rfl "js.dbits" 187 34) ::
  (nat_lit 41, cO "is_nan" 250 26 1 3 36 37 38 39 40 254 255) ::
  (nat_lit 42, fO (x := pw.main.body[15]?) rfl "js.dbits" 187 41) ::
  (nat_lit 48, cO "is_inf" 257 28 1 3 43 44 45 46 47 261 262) ::
  (nat_lit 49, fO (x := pw.main.body[16]?) rfl "js.dbits" 187 48) ::
  (nat_lit 55, cO "is_zero" 264 30 1 3 50 51 52 53 54 268 269) ::
  (nat_lit 56, fO (x := pw.main.body[17]?) rfl "js.dbits" 187 55) ::
  (nat_lit 62, cO "signed" 271 32 2 3 57 58 59 60 61 276 277) ::
  (nat_lit 63, fO (x := pw.main.body[18]?) rfl "js.dbits" 187 62) ::
  (nat_lit 69, cO "parts" 279 34 1 3 64 65 66 67 68 286 287) ::
  (nat_lit 70, fO (x := pw.main.body[19]?) rfl "js.dbits" 187 69) ::
  (nat_lit 76, cO "quotient" 289 39 3 3 71 72 73 74 75 295 296) ::
  (nat_lit 77, fO (x := pw.main.body[20]?) rfl "js.dbits" 187 76) ::
  (nat_lit 83, cO "round_ratio" 298 45 3 3 78 79 80 81 82 308 309) ::
  (nat_lit 84, fO (x := pw.main.body[21]?) rfl "js.dbits" 187 83) ::
  (nat_lit 90, cO "assembled" 311 56 3 3 85 86 87 88 89 318 319) ::
  (nat_lit 91, fO (x := pw.main.body[22]?) rfl "js.dbits" 187 90) ::
  (nat_lit 97, cO "from_int" 321 65 1 3 92 93 94 95 96 325 326) ::
  (nat_lit 98, fO (x := pw.main.body[23]?) rfl "js.dbits" 187 97) ::
  (nat_lit 104, cO "scaled" 337 70 2 3 99 100 101 102 103 345 346) ::
  (nat_lit 105, fO (x := pw.main.body[27]?) rfl "js.numshow" 328 104) ::
  (nat_lit 111, cO "decimal_place" 348 77 2 3 106 107 108 109 110 354 355) ::
  (nat_lit 112, fO (x := pw.main.body[28]?) rfl "js.numshow" 328 111) ::
  (nat_lit 118, cO "first_place" 357 82 4 3 113 114 115 116 117 367 368) ::
  (nat_lit 119, fO (x := pw.main.body[29]?) rfl "js.numshow" 328 118) ::
  (nat_lit 125, cO "shortest" 370 90 1 3 120 121 122 123 124 388 389) ::
  (nat_lit 126, fO (x := pw.main.body[30]?) rfl "js.numshow" 328 125) ::
  (nat_lit 132, cO "last_figure" 391 111 5 3 127 128 129 130 131 399 400) ::
  (nat_lit 133, fO (x := pw.main.body[31]?) rfl "js.numshow" 328 132) ::
  (nat_lit 139, cO "signed_exponent" 402 117 1 3 134 135 136 137 138 406 407) ::
  (nat_lit 140, fO (x := pw.main.body[32]?) rfl "js.numshow" 328 139) ::
  (nat_lit 146, cO "with_exponent" 409 119 2 3 141 142 143 144 145 415 416) ::
  (nat_lit 147, fO (x := pw.main.body[33]?) rfl "js.numshow" 328 146) ::
  (nat_lit 153, cO "laid_out" 418 122 2 3 148 149 150 151 152 424 425) ::
  (nat_lit 154, fO (x := pw.main.body[34]?) rfl "js.numshow" 328 153) ::
  (nat_lit 160, cO "without_figures" 427 131 1 3 155 156 157 158 159 431 432) ::
  (nat_lit 161, fO (x := pw.main.body[35]?) rfl "js.numshow" 328 160) ::
  (nat_lit 167, cO "show" 434 137 1 3 162 163 164 165 166 441 442) ::
  (nat_lit 168, fO (x := pw.main.body[36]?) rfl "js.numshow" 328 167) ::
  (nat_lit 174, cO "is_blank" 454 150 1 3 169 170 171 172 173 458 459) ::
  (nat_lit 175, fO (x := pw.main.body[42]?) rfl "js.numparse" 444 174) ::
  (nat_lit 181, cO "skip_blanks" 461 152 2 3 176 177 178 179 180 466 467) ::
  (nat_lit 182, fO (x := pw.main.body[43]?) rfl "js.numparse" 444 181) ::
  (nat_lit 188, cO "trimmed" 469 156 1 3 183 184 185 186 187 475 476) ::
  (nat_lit 189, fO (x := pw.main.body[44]?) rfl "js.numparse" 444 188) ::
  (nat_lit 195, cO "figure_of" 478 161 1 3 190 191 192 193 194 482 483) ::
  (nat_lit 196, fO (x := pw.main.body[45]?) rfl "js.numparse" 444 195) ::
  (nat_lit 202, cO "run_end" 485 167 3 3 197 198 199 200 201 491 492) ::
  (nat_lit 203, fO (x := pw.main.body[46]?) rfl "js.numparse" 444 202) ::
  (nat_lit 209, cO "worth" 494 171 4 3 204 205 206 207 208 503 504) ::
  (nat_lit 210, fO (x := pw.main.body[47]?) rfl "js.numparse" 444 209) ::
  (nat_lit 216, cO "from_decimal" 506 176 2 3 211 212 213 214 215 514 515) ::
  (nat_lit 217, fO (x := pw.main.body[48]?) rfl "js.numparse" 444 216) ::
  (nat_lit 223, cO "sign_at" 517 187 2 3 218 219 220 221 222 522 523) ::
  (nat_lit 224, fO (x := pw.main.body[49]?) rfl "js.numparse" 444 223) ::
  (nat_lit 230, cO "turned" 525 191 2 3 225 226 227 228 229 530 531) ::
  (nat_lit 231, fO (x := pw.main.body[50]?) rfl "js.numparse" 444 230) ::
  (nat_lit 237, cO "exponent_at" 533 193 2 3 232 233 234 235 236 542 543) ::
  (nat_lit 238, fO (x := pw.main.body[51]?) rfl "js.numparse" 444 237) ::
  (nat_lit 244, cO "decimal_at" 545 202 2 3 239 240 241 242 243 555 556) ::
  (nat_lit 245, fO (x := pw.main.body[52]?) rfl "js.numparse" 444 244) ::
  (nat_lit 251, cO "text_to_number" 558 214 1 3 246 247 248 249 250 567 568) ::
  (nat_lit 252, fO (x := pw.main.body[53]?) rfl "js.numparse" 444 251) ::
  (nat_lit 258, cO "_law_ratio" 572 225 1 3 253 254 255 256 257 580 581) ::
  (nat_lit 259, fO (x := pw.main.body[55]?) rfl "law_nt0408_01" 570 258) ::
  (nat_lit 265, cO "_law_between" 583 229 2 3 260 261 262 263 264 588 589) ::
  (nat_lit 266, fO (x := pw.main.body[56]?) rfl "law_nt0408_01" 570 265) ::
  (nat_lit 272, cO "_law_order" 591 231 2 3 267 268 269 270 271 596 597) ::
  (nat_lit 273, fO (x := pw.main.body[57]?) rfl "law_nt0408_01" 570 272) ::
  (nat_lit 279, cO "_law_reads" 599 233 2 3 274 275 276 277 278 606 607) ::
  (nat_lit 280, fO (x := pw.main.body[58]?) rfl "law_nt0408_01" 570 279) ::
  (nat_lit 286, cO "_law_tens" 609 237 2 3 281 282 283 284 285 614 615) ::
  (nat_lit 287, fO (x := pw.main.body[59]?) rfl "law_nt0408_01" 570 286) ::
  (nat_lit 293, cO "_law_doubles" 617 239 1 3 288 289 290 291 292 625 626) ::
  (nat_lit 294, fO (x := pw.main.body[60]?) rfl "law_nt0408_01" 570 293) ::
  (nat_lit 300, cO "_law_distance" 628 252 2 3 295 296 297 298 299 633 634) ::
  (nat_lit 301, fO (x := pw.main.body[61]?) rfl "law_nt0408_01" 570 300) ::
  (nat_lit 307, cO "_law_is_shortest" 636 254 3 3 302 303 304 305 306 649 650) ::
  (nat_lit 308, fO (x := pw.main.body[62]?) rfl "law_nt0408_01" 570 307) ::
  (nat_lit 312, ⟨.type "code", none, .fields #[(.str (Str.ofString "law") 652), (.str (Str.ofString "law") 653), (.str (Str.ofString "/claim/cut.py") 654), (.int (268) 0), (.int (1) 0), (.int (0) 0), (.int (0) 0), (.int (3) 0), (.ref 309), (.bool true), (.int (181) 0), (.ref 310), .none, .none, .none, (.ref 311), (.int (655) 0), (.int (268) 0), (.str (Str.ofString "/claim/cut.py") 656)], #[]⟩) ::
  (nat_lit 313, fO (x := pw.main.body[63]?) rfl "law_nt0408_01" 570 312) :: []
noncomputable def qq : Program := { pw with main := { pw.main with body := [1, 2, 3, 4, 5, 6, 7, 8, 9, 10, 11, 12, 13, 14, 15, 16, 17, 18, 19, 20, 21, 22, 23, 25, 26, 27, 28, 29, 30, 31, 32, 33, 34, 35, 36, 38, 39, 40, 41, 42, 43, 44, 45, 46, 47, 48, 49, 50, 51, 52, 53, 55, 56, 57, 58, 59, 60, 61, 62, 63].filterMap fun i => pw.main.body[i]? } }
noncomputable def lo : List Str := [Str.ofString "SIGN_BIT", Str.ofString "FRACTION_MASK", Str.ofString "HIDDEN_BIT_dbits", Str.ofString "NEG_ZERO", Str.ofString "INF", Str.ofString "NAN", Str.ofString "HIDDEN_BIT_numshow"]
noncomputable def lv : List (Str × WData) := [(Str.ofString "SIGN_BIT", WData.int 9223372036854775808), (Str.ofString "FRACTION_MASK", WData.int 4503599627370495), (Str.ofString "HIDDEN_BIT_dbits", WData.int 4503599627370496), (Str.ofString "NEG_ZERO", WData.int 9223372036854775808), (Str.ofString "INF", WData.int 9218868437227405312), (Str.ofString "NAN", WData.int 9221120237041090560), (Str.ofString "HIDDEN_BIT_numshow", WData.int 4503599627370496)]
noncomputable def ads : List Nat := 3 :: 20 :: 21 :: 27 :: 28 :: 34 :: 35 :: 41 :: 42 :: 48 :: 49 :: 55 :: 56 :: 62 :: 63 :: 69 :: 70 :: 76 :: 77 :: 83 :: 84 :: 90 :: 91 :: 97 :: 98 :: 104 :: 105 :: 111 :: 112 :: 118 :: 119 :: 125 :: 126 :: 132 :: 133 :: 139 :: 140 :: 146 :: 147 :: 153 :: 154 :: 160 :: 161 :: 167 :: 168 :: 174 :: 175 :: 181 :: 182 :: 188 :: 189 :: 195 :: 196 :: 202 :: 203 :: 209 :: 210 :: 216 :: 217 :: 223 :: 224 :: 230 :: 231 :: 237 :: 238 :: 244 :: 245 :: 251 :: 252 :: 258 :: 259 :: 265 :: 266 :: 272 :: 273 :: 279 :: 280 :: 286 :: 287 :: 293 :: 294 :: 300 :: 301 :: 307 :: 308 :: 312 :: 313 :: []
theorem head_left : LeftO PySem.Challenge.rw_nt0408_01.row.prog qq lo (fun s => xlAt qq lv s && recOk (RowW.records PySem.Challenge.rw_nt0408_01.row.toRowW) s) (Hook.obs (kHook KK ads (fun _ => by kernel_rfl))) (Hook.val (kHook KK ads (fun _ => by kernel_rfl))) 3330 := by
  intro w
  unfold openEnds fencedOpening topFrom
  rw [PySem.W.Fast.te10274390034422433532, PySem.W.Fast.te1435165496053646825, PySem.W.Fast.te14289696077712309145, PySem.W.Fast.te14082659384304107361, PySem.W.Fast.te4187177175401517315]
  kernel_rfl
end Mine
end
section
open PySem PySem.W PyProof.Rows PySem.Calls PySem.Spec
namespace Mine
abbrev RetT := Heap → Addr → (Str → Option Value) → List (Addr × Obj) → Shared → (Value → Shared → Prop) → Prop
abbrev retI (x : Int) : RetT := fun h₀ L m news s Q => ∀ (t : Tok) (h' : Heap) (tk' : Nat), Fr h₀ L h' m → News h₀ L h' news → Q (.int x t) { s with heap := h', toks := tk' }
abbrev retS (x : Str) : RetT := fun h₀ L m news s Q => ∀ (t : Tok) (h' : Heap) (tk' : Nat), Fr h₀ L h' m → News h₀ L h' news → Q (.str x t) { s with heap := h', toks := tk' }
abbrev retB (x : Bool) : RetT := fun h₀ L m news s Q => ∀ (h' : Heap) (tk' : Nat), Fr h₀ L h' m → News h₀ L h' news → Q (.bool x) { s with heap := h', toks := tk' }
abbrev retN : RetT := fun h₀ L m news s Q => ∀ (h' : Heap) (tk' : Nat), Fr h₀ L h' m → News h₀ L h' news → Q .none { s with heap := h', toks := tk' }
abbrev tupO (vs : List Value) (c : Nat) : Obj := { cls := .type "tuple", data := .seq vs.toArray c }
def Spec (d : Nat) (f : Addr) (vs : List Value) (need : List (Addr × Obj)) (ret : RetT) : Prop :=
  ∀ (w : World) (p : Program) (loose : List Str) (mean : ExcName → Option Value) (mg mb : Str → Option Value)
    (dp un : Nat) (gd : Option (List Code)) (cn : Str) (cs : Scope) (a : Addr) (ccd : Value) (cl : List (Str × Addr)) (outer : List Env) (A₀ : Around) (base h₀ : Heap) (L : Addr) (m : Str → Option Value) (news : List (Addr × Obj)) (s : Shared) (Q E : Value → Shared → Prop),
    Below A₀ base outer h₀ → Fr h₀ L s.heap m → (KK w.params).In h₀ → News h₀ L s.heap news → Top p loose mean mg mb h₀ → cs.kind = .function →
    dp + d < recursionLimit → un + 8 * d < cLine → (∀ q ∈ need, q ∈ news) → ret h₀ L m news s Q →
    wpAny (model PySem.Challenge.rw_nt0408_01.row.prog w) (ktrTop dp un gd cn cs L a ccd cl outer) (call (.ref f) vs) Q E s
theorem Spec.use {d : Nat} {f : Addr} {vs : List Value} {need : List (Addr × Obj)} {ret : RetT} (S : Spec d f vs need ret)
    {w : World} {p : Program} {loose : List Str} {mean : ExcName → Option Value} {mg mb : Str → Option Value}
    {dp un : Nat} {gd : Option (List Code)} {cn : Str} {cs : Scope} {a : Addr} {ccd : Value} {cl : List (Str × Addr)} {outer : List Env} {A₀ : Around} {base h₀ : Heap} {L : Addr} {m : Str → Option Value} {news : List (Addr × Obj)} {s : Shared} {Q E : Value → Shared → Prop}
    (B : Below A₀ base outer h₀) (F : Fr h₀ L s.heap m) (X : (KK w.params).In h₀) (N : News h₀ L s.heap news) (T : Top p loose mean mg mb h₀) (hk : cs.kind = .function)
    (hd : dp + d < recursionLimit) (hu : un + 8 * d < cLine) (hn : ∀ q ∈ need, q ∈ news) (hr : ret h₀ L m news s Q) :
    wpAny (model PySem.Challenge.rw_nt0408_01.row.prog w) (ktrTop dp un gd cn cs L a ccd cl outer) (call (.ref f) vs) Q E s := S _ _ _ _ _ _ _ _ _ _ _ _ _ _ _ _ _ _ _ _ _ _ _ _ B F X N T hk hd hu hn hr
theorem Spec.use2 {d : Nat} {f : Addr} {vs : List Value} {need : List (Addr × Obj)} {ret : RetT}
    {w : World} {p : Program} {loose : List Str} {mean : ExcName → Option Value} {mg mb : Str → Option Value}
    {dp un : Nat} {gd : Option (List Code)} {cn : Str} {cs : Scope} {a : Addr} {ccd : Value} {cl : List (Str × Addr)} {outer : List Env} {A₀ : Around} {base h₀ : Heap} {L : Addr} {m : Str → Option Value} {news : List (Addr × Obj)} {s : Shared} {Q E : Value → Shared → Prop}
    (N : News h₀ L s.heap news) (hn : ∀ q ∈ need, q ∈ news) (S : Spec d f vs need ret) (B : Below A₀ base outer h₀) (F : Fr h₀ L s.heap m) (X : (KK w.params).In h₀) (T : Top p loose mean mg mb h₀) (hk : cs.kind = .function)
    (hd : dp + d < recursionLimit) (hu : un + 8 * d < cLine) (hr : ret h₀ L m news s Q) :
    wpAny (model PySem.Challenge.rw_nt0408_01.row.prog w) (ktrTop dp un gd cn cs L a ccd cl outer) (call (.ref f) vs) Q E s := S.use B F X N T hk hd hu hn hr
theorem retB_of {x y : Bool} {h₀ h : Heap} {L : Addr} {m : Str → Option Value} {news news' : List (Addr × Obj)} {s : Shared} {Q : Value → Shared → Prop} {tk : Nat} (hr : retB x h₀ L m news s Q) (e : y = x) (F : Fr h₀ L h m) (N : News h₀ L h news') (hs : ∀ p ∈ news, p ∈ news') : Q (.bool y) { s with heap := h, toks := tk } := by
  subst e; exact hr _ _ F (fun p q => N p (hs p q))
theorem retI_of {x y : Int} {t : Tok} {h₀ h : Heap} {L : Addr} {m : Str → Option Value} {news news' : List (Addr × Obj)} {s : Shared} {Q : Value → Shared → Prop} {tk : Nat} (hr : retI x h₀ L m news s Q) (e : y = x) (F : Fr h₀ L h m) (N : News h₀ L h news') (hs : ∀ p ∈ news, p ∈ news') : Q (.int y t) { s with heap := h, toks := tk } := by
  subst e; exact hr _ _ _ F (fun p q => N p (hs p q))
theorem retS_of {x y : Str} {t : Tok} {h₀ h : Heap} {L : Addr} {m : Str → Option Value} {news news' : List (Addr × Obj)} {s : Shared} {Q : Value → Shared → Prop} {tk : Nat} (hr : retS x h₀ L m news s Q) (e : y = x) (F : Fr h₀ L h m) (N : News h₀ L h news') (hs : ∀ p ∈ news, p ∈ news') : Q (.str y t) { s with heap := h, toks := tk } := by
  subst e; exact hr _ _ _ F (fun p q => N p (hs p q))
theorem retN_of {h₀ h : Heap} {L : Addr} {m : Str → Option Value} {news news' : List (Addr × Obj)} {s : Shared} {Q : Value → Shared → Prop} {tk : Nat} (hr : retN h₀ L m news s Q) (F : Fr h₀ L h m) (N : News h₀ L h news') (hs : ∀ p ∈ news, p ∈ news') : Q .none { s with heap := h, toks := tk } := hr _ _ F (fun p q => N p (hs p q))
theorem is_I {x y : Int} {t : Tok} (e : y = x) : ∃ t', Value.int y t = Value.int x t' := ⟨t, by rw [e]⟩
theorem is_S {x y : Str} {t : Tok} (e : y = x) : ∃ t', Value.str y t = Value.str x t' := ⟨t, by rw [e]⟩
theorem is_Bo {x y : Bool} (e : y = x) : ∃ _ : Tok, Value.bool y = Value.bool x := ⟨0, by rw [e]⟩
abbrev retT2 (a b : Tok → Value) : RetT := fun h₀ L m news s Q => ∀ (D : Addr) (t u : Tok) (c : Nat) (h' : Heap) (tk' : Nat), Fr h₀ L h' m → News h₀ L h' ((D, tupO [a t, b u] c) :: news) → Q (.ref D) { s with heap := h', toks := tk' }
abbrev retT3 (a b d : Tok → Value) : RetT := fun h₀ L m news s Q => ∀ (D : Addr) (t u v : Tok) (c : Nat) (h' : Heap) (tk' : Nat), Fr h₀ L h' m → News h₀ L h' ((D, tupO [a t, b u, d v] c) :: news) → Q (.ref D) { s with heap := h', toks := tk' }
abbrev retT4 (a b d e : Tok → Value) : RetT := fun h₀ L m news s Q => ∀ (D : Addr) (t u v w : Tok) (c : Nat) (h' : Heap) (tk' : Nat), Fr h₀ L h' m → News h₀ L h' ((D, tupO [a t, b u, d v, e w] c) :: news) → Q (.ref D) { s with heap := h', toks := tk' }
section
variable {h₀ h : Heap} {L D : Addr} {m : Str → Option Value} {news news' : List (Addr × Obj)} {s : Shared} {Q : Value → Shared → Prop} {tk c : Nat} {a b d e : Tok → Value} {x1 x2 x3 x4 : Value}
theorem retT2_of (hr : retT2 a b h₀ L m news s Q) (F : Fr h₀ L h m) (N : News h₀ L h news') (hm : (D, tupO [x1, x2] c) ∈ news') (hs : ∀ p ∈ news, p ∈ news') (e1 : ∃ t, x1 = a t) (e2 : ∃ t, x2 = b t) : Q (.ref D) { s with heap := h, toks := tk } := by
  obtain ⟨t, rfl⟩ := e1; obtain ⟨u, rfl⟩ := e2
  exact hr D t u c h tk F fun p hp => (List.mem_cons.mp hp).elim (fun q => q ▸ N _ hm) fun q => N p (hs p q)
theorem retT3_of (hr : retT3 a b d h₀ L m news s Q) (F : Fr h₀ L h m) (N : News h₀ L h news') (hm : (D, tupO [x1, x2, x3] c) ∈ news') (hs : ∀ p ∈ news, p ∈ news') (e1 : ∃ t, x1 = a t) (e2 : ∃ t, x2 = b t) (e3 : ∃ t, x3 = d t) : Q (.ref D) { s with heap := h, toks := tk } := by
  obtain ⟨t, rfl⟩ := e1; obtain ⟨u, rfl⟩ := e2; obtain ⟨v, rfl⟩ := e3
  exact hr D t u v c h tk F fun p hp => (List.mem_cons.mp hp).elim (fun q => q ▸ N _ hm) fun q => N p (hs p q)
theorem retT4_of (hr : retT4 a b d e h₀ L m news s Q) (F : Fr h₀ L h m) (N : News h₀ L h news') (hm : (D, tupO [x1, x2, x3, x4] c) ∈ news') (hs : ∀ p ∈ news, p ∈ news') (e1 : ∃ t, x1 = a t) (e2 : ∃ t, x2 = b t) (e3 : ∃ t, x3 = d t) (e4 : ∃ t, x4 = e t) : Q (.ref D) { s with heap := h, toks := tk } := by
  obtain ⟨t, rfl⟩ := e1; obtain ⟨u, rfl⟩ := e2; obtain ⟨v, rfl⟩ := e3; obtain ⟨w, rfl⟩ := e4
  exact hr D t u v w c h tk F fun p hp => (List.mem_cons.mp hp).elim (fun q => q ▸ N _ hm) fun q => N p (hs p q)
end
end Mine
end
section
open PySem PySem.W PyProof.Rows PySem.Calls PySem.Spec
namespace Mine
theorem bAnd_nat {x y : Int} (hx : 0 ≤ x) (hy : 0 ≤ y) : Builtin.bitAnd x y = ((x.toNat &&& y.toNat : Nat) : Int) := by
  unfold Builtin.bitAnd; rw [decide_eq_true hx, decide_eq_true hy]
theorem bAnd_mask {x : Int} (k : Nat) (hx : 0 ≤ x) : Builtin.bitAnd x (2 ^ k - 1) = x % 2 ^ k := by
  have h1 : (0 : Int) < 2 ^ k := Int.pow_pos (by decide)
  rw [bAnd_nat hx (by omega)]
  have e : ((2 : Int) ^ k - 1).toNat = 2 ^ k - 1 := by
    have : ((2 : Int) ^ k) = ((2 ^ k : Nat) : Int) := by simp
    rw [this]; omega
  rw [e, Nat.and_two_pow_sub_one_eq_mod]
  conv => rhs; rw [← Int.toNat_of_nonneg hx]
  simp
theorem bOr_nat {x y : Int} (hx : 0 ≤ x) (hy : 0 ≤ y) : Builtin.bitOr x y = ((x.toNat ||| y.toNat : Nat) : Int) := by
  unfold Builtin.bitOr Builtin.bitAnd
  have h1 : ¬ (0 ≤ Builtin.bitNot x) := by unfold Builtin.bitNot; omega
  have h2 : ¬ (0 ≤ Builtin.bitNot y) := by unfold Builtin.bitNot; omega
  rw [decide_eq_false h1, decide_eq_false h2]
  have e1 : Builtin.bitNot (Builtin.bitNot x) = x := by unfold Builtin.bitNot; omega
  have e2 : Builtin.bitNot (Builtin.bitNot y) = y := by unfold Builtin.bitNot; omega
  simp only [e1, e2]
  unfold Builtin.bitNot; omega
theorem bOr_high {x : Int} (k : Nat) (m : Int) (hx : 0 ≤ x) (hx2 : x < 2 ^ k) (hm : 0 ≤ m) : Builtin.bitOr (m * 2 ^ k) x = m * 2 ^ k + x := by
  have h1 : (0 : Int) < 2 ^ k := Int.pow_pos (by decide)
  have h2 : 0 ≤ m * 2 ^ k := Int.mul_nonneg hm (by omega)
  rw [bOr_nat h2 hx]
  obtain ⟨m, rfl⟩ := Int.eq_ofNat_of_zero_le hm
  obtain ⟨x, rfl⟩ := Int.eq_ofNat_of_zero_le hx
  have e : (((m : Nat) : Int) * 2 ^ k).toNat = 2 ^ k * m := by
    rw [show (((m : Nat) : Int) * 2 ^ k) = ((2 ^ k * m : Nat) : Int) by rw [Int.natCast_mul, Int.natCast_pow]; exact Int.mul_comm _ _]
    exact Int.toNat_natCast _
  have e2 : x < 2 ^ k := by
    have : ((x : Nat) : Int) < ((2 ^ k : Nat) : Int) := by simpa using hx2
    omega
  rw [e, Int.toNat_natCast, ← Nat.two_pow_add_eq_or_of_lt e2]
  rw [Int.natCast_add, Int.natCast_mul, Int.natCast_pow]
  rw [Int.mul_comm]; rfl
theorem bOr_comm {x y : Int} (hx : 0 ≤ x) (hy : 0 ≤ y) : Builtin.bitOr x y = Builtin.bitOr y x := by
  rw [bOr_nat hx hy, bOr_nat hy hx, Nat.or_comm]
theorem bAnd_pow {x : Int} (k : Nat) (hx : 0 ≤ x) (h : x < 2 ^ k) : Builtin.bitAnd x (2 ^ k) = 0 := by
  have h1 : (0 : Int) < 2 ^ k := Int.pow_pos (by decide)
  rw [bAnd_nat hx (by omega)]
  obtain ⟨x, rfl⟩ := Int.eq_ofNat_of_zero_le hx
  have e2 : x < 2 ^ k := by
    have : ((x : Nat) : Int) < ((2 ^ k : Nat) : Int) := by simpa using h
    omega
  have e : ((2 : Int) ^ k).toNat = 2 ^ k := by
    rw [show ((2 : Int) ^ k) = ((2 ^ k : Nat) : Int) by simp]; exact Int.toNat_natCast _
  have z : x &&& 2 ^ k = 0 := by
    apply Nat.eq_of_testBit_eq
    intro i
    rw [Nat.testBit_and, Nat.testBit_two_pow, Nat.zero_testBit]
    by_cases hi : k = i
    · subst hi; rw [Nat.testBit_lt_two_pow e2]; rfl
    · simp [hi]
  rw [e, Int.toNat_natCast, z]; rfl
theorem bXor_sign {x : Int} (hx : 0 ≤ x) (h : x < 2 ^ 63) : Builtin.bitXor x (2 ^ 63) = x + 2 ^ 63 := by
  rw [bitXor_and, bAnd_pow 63 hx h]; omega
theorem fd {x y : Int} (hy : 0 ≤ y) : x.fdiv y = x / y := Int.fdiv_eq_ediv_of_nonneg x hy
theorem fm {x y : Int} (hy : 0 ≤ y) : x.fmod y = x % y := Int.fmod_eq_emod_of_nonneg x hy
/-- the fields of a double -/
def expo (b : Int) : Int := b / 2 ^ 52 % 2048
def frac (b : Int) : Int := b % 2 ^ 52
def mant (b : Int) : Int := if expo b = 0 then frac b else frac b + 2 ^ 52
def powr (b : Int) : Int := if expo b = 0 then -1074 else expo b - 1075
theorem expo_rng (b : Int) : 0 ≤ expo b ∧ expo b < 2048 := by unfold expo; omega
theorem frac_rng (b : Int) : 0 ≤ frac b ∧ frac b < 2 ^ 52 := by unfold frac; omega
theorem mant_rng (b : Int) : 0 ≤ mant b ∧ mant b < 2 ^ 53 := by
  have := frac_rng b
  unfold mant; split <;> omega
theorem powr_rng (b : Int) : -1074 ≤ powr b ∧ powr b ≤ 972 := by
  have := expo_rng b
  unfold powr; split <;> omega
end Mine
end
section
open PySem PySem.W PyProof.Rows PySem.Calls PySem.Spec
namespace Mine
open PySem.Builtin.Int (intBits)
def sOf (l : List Nat) : Str := ⟨l.toArray⟩
theorem sOf_len (l : List Nat) : (sOf l).length = l.length := rfl
theorem sOf_list (l : List Nat) : (sOf l).cps.toList = l := rfl
theorem sOf_inj {a b : List Nat} (h : sOf a = sOf b) : a = b := congrArg (fun x : Str => x.cps.toList) h
theorem sOf_of (x : Str) : x = sOf x.cps.toList := by cases x; rfl
theorem sOf_app (a b : List Nat) : sOf a ++ sOf b = sOf (a ++ b) := by
  rw [sOf_of (sOf a ++ sOf b)]
  congr 1
  show ((sOf a).cps ++ (sOf b).cps).toList = _
  rw [Array.toList_append]; rfl
theorem sOf_beq (a b : List Nat) : (sOf a == sOf b) = (a == b) := by
  rw [← toList_beq]; rfl
/-- the digits of a number as signs -/
def dg (n : Nat) : List Nat := (Nat.toDigits 10 n).map Char.toNat
theorem str_dg {x : Int} (h : 0 ≤ x) : Str.ofString (toString x) = sOf (dg x.toNat) := by
  obtain ⟨n, rfl⟩ := Int.eq_ofNat_of_zero_le h
  rw [sOf_of (Str.ofString _)]
  exact congrArg sOf (PySem.W.KIN.signs_num n)
section
variable {prog : Program} {w : World} {A : Around} {E : Value → Shared → Prop} {s : Shared} {t u : Tok} {h₀ : Heap} {L : Addr} {m : Str → Option Value} {news : List (Addr × Obj)}
theorem log2_small {x : Int} (hz : intBits x ≤ 1900) : x.natAbs.log2 < 1920 := by
  unfold intBits at hz
  split at hz
  · rename_i h; rw [beq_iff_eq] at h; subst h; decide
  · omega
theorem str_int {x : Int} {Q : Value → Shared → Prop} (h0 : 0 ≤ x) (hz : intBits x ≤ 1900) (h : Q (.str (sOf (dg x.toNat)) s.toks) { s with toks := s.toks + 1 }) :
    wpAny (model prog w) A (call (.type "str") [.int x t]) Q E s := P.str_of_int (log2_small hz) (by rw [show (toString x : String) = toString x from rfl, str_dg h0]; exact h)
theorem repr_int {x : Int} {Q : Value → Shared → Prop} (h0 : 0 ≤ x) (hz : intBits x ≤ 1900) (h : Q (.str (sOf (dg x.toNat)) s.toks) { s with toks := s.toks + 1 }) :
    wpAny (model prog w) A (call (.builtin "repr") [.int x t]) Q E s := P.repr_of_int (log2_small hz) (by rw [str_dg h0]; exact h)
theorem len_s {l : List Nat} {Q : Value → Shared → Prop} (hl : l.length ≤ 100000) (h : Q (.int l.length (s.toks + 1)) { s with toks := s.toks + 1 + 1 }) :
    wpAny (model prog w) A (call (.builtin "len") [.str (sOf l) t]) Q E s := PyProof.Rows.len_str (by rw [sOf_len]; omega) h
theorem add_s {a b : List Nat} {Q : Value → Shared → Prop} (ha : a.length ≤ 100000) (hb : b.length ≤ 100000) (h : ∀ t' tk, Q (.str (sOf (a ++ b)) t') { s with toks := tk }) :
    wpAny (model prog w) A (binaryOp .Add (.str (sOf a) t) (.str (sOf b) u)) Q E s := PyProof.Rows.add_str (fun t' tk => by rw [sOf_app]; exact h t' tk) (by rw [sOf_len, sOf_len, sizeLine_eq]; omega)
theorem eq_s {a b : List Nat} {Q : Value → Shared → Prop} (h : Q (.bool (a == b)) s) : wpAny (model prog w) A (compareOp .Eq (.str (sOf a) t) (.str (sOf b) u)) Q E s := P.eq_str h
theorem ne_s {a b : List Nat} {Q : Value → Shared → Prop} (h : Q (.bool (a != b)) s) : wpAny (model prog w) A (compareOp .NotEq (.str (sOf a) t) (.str (sOf b) u)) Q E s := P.ne_str h
theorem le_one {a b : Nat} {Q : Value → Shared → Prop} (h : Q (.bool (decide (a ≤ b))) s) : wpAny (model prog w) A (compareOp .LtE (.str (sOf [a]) t) (.str (sOf [b]) u)) Q E s := P.le_str (by
  have e : (!decide ((sOf [b]).cps.toList < (sOf [a]).cps.toList)) = decide (a ≤ b) := by
    show (!decide ([b] < [a])) = _
    rcases Nat.lt_or_ge b a with q | q
    · have : [b] < [a] := List.Lex.rel q
      rw [decide_eq_true this, decide_eq_false (by omega)]; rfl
    · have : ¬ [b] < [a] := fun q' => by
        cases q' with
        | rel r => exact absurd r (by omega)
        | cons r => cases r
      rw [decide_eq_false this, decide_eq_true (by omega)]; rfl
  exact e ▸ h)
theorem ord_s {c : Nat} {Q : Value → Shared → Prop} (h : Q (.int c s.toks) { s with toks := s.toks + 1 }) : wpAny (model prog w) A (call (.builtin "ord") [.str (sOf [c]) t]) Q E s := P.ord_of_char h
theorem item_s {l : List Nat} {i : Int} {value slice : Expr} {Q : Value → Shared → Prop} (h0 : 0 ≤ i) (h1 : i < l.length) (hl : l.length ≤ 100000) (h : Q (.str (sOf [l.getD i.toNat 0]) s.toks) { s with toks := s.toks + 1 })
    (hs : subscripted slice false (.str (sOf l) t) (.int i u) = operate [.str (sOf l) t, .int i u] (getItem (.str (sOf l) t) (.int i u)) := by with_unfolding_all rfl)
    (ht : ∀ r, letTemporaryGo value (.str (sOf l) t) r = pure () := by intro _; with_unfolding_all rfl) :
    wpAny (model prog w) A (subscriptTail value slice (.str (sOf l) t) (.int i u)) Q E s := by
  refine PyProof.Rows.item_str (fitsSsize_of (N := 9223372036854775808) (by omega) (by omega) (Int.le_refl _)) (by rw [sOf_len]; omega) (by rw [sOf_len]; exact h1) (fun _ => ?_) hs ht
  have e : Txt.item (sOf l) i = sOf [l.getD i.toNat 0] := by
    unfold Txt.item
    have e1 : Txt.charAt (sOf l) i = l[i.toNat]? := by
      show (seqIndex? i (sOf l).length).bind ((sOf l).cps[·]?) = _
      rw [sOf_len]
      have : seqIndex? i l.length = some i.toNat := by
        unfold seqIndex?
        obtain ⟨n, rfl⟩ := Int.eq_ofNat_of_zero_le h0
        simp
        omega
      rw [this]
      show (sOf l).cps[i.toNat]? = _
      rw [← Array.getElem?_toList]; rfl
    rw [e1, ← List.getD_eq_getElem?_getD]; rfl
  rw [e]; exact h
theorem slice_ss_eq {l : List Nat} {i j : Int} (h0 : 0 ≤ i) (h1 : i ≤ j) (h2 : j ≤ l.length) : Txt.slice (sOf l) (some i) (some j) = sOf ((l.drop i.toNat).take (j.toNat - i.toNat)) := by
  have := slice_closes (x := sOf l) (i := i) (j := j) ⟨h0, h1, by rw [sOf_list]; exact h2⟩
  rw [beq_iff_eq] at this
  rw [this, sOf_list, show (j - i).toNat = j.toNat - i.toNat by omega]; rfl
theorem slice_ns_eq {l : List Nat} {j : Int} (h1 : 0 ≤ j) (h2 : j ≤ l.length) : Txt.slice (sOf l) none (some j) = sOf (l.take j.toNat) := by
  have := slice_closes_to (x := sOf l) (j := j) ⟨h1, by rw [sOf_list]; exact h2⟩
  rw [beq_iff_eq] at this
  rw [this, sOf_list]; simp; rfl
theorem slice_sn_eq {l : List Nat} {i : Int} (h0 : 0 ≤ i) (h2 : i ≤ l.length) : Txt.slice (sOf l) (some i) none = sOf (l.drop i.toNat) := by
  have := slice_from_eq (x := sOf l) (i := i) (b := l.length) h0 (by rw [sOf_len]; exact h2) (by rw [sOf_len])
  rw [this, sOf_list]
  have : (l.drop i.toNat).take ((l.length : Int) - i).toNat = l.drop i.toNat := List.take_of_length_le (by rw [List.length_drop]; omega)
  rw [this]; rfl
theorem slice_ss {l : List Nat} {i j : Int} {ui uj : Tok} {value slice : Expr} {Q : Value → Shared → Prop} (hF : Fr h₀ L s.heap m) (hN : News h₀ L s.heap news) (h0 : 0 ≤ i) (h1 : i ≤ j) (h2 : j ≤ l.length) (hl : l.length ≤ 100000)
    (h : ∀ h' t' k, Fr h₀ L h' m → News h₀ L h' news → Q (.str (sOf ((l.drop i.toNat).take (j.toNat - i.toNat))) t') { s with heap := h', toks := k })
    (hs : subscripted slice false (.str (sOf l) t) (.ref s.heap.objs.size) = operate [.ref s.heap.objs.size, .str (sOf l) t] (getItem (.str (sOf l) t) (.ref s.heap.objs.size)) := by with_unfolding_all rfl)
    (ht : ∀ r, letTemporaryGo value (.str (sOf l) t) r = pure () := by intro _; with_unfolding_all rfl) :
    wpAny (model prog w) A (subscriptTail value slice (.str (sOf l) t) (.ref s.heap.objs.size)) Q E { s with heap := s.heap.push { cls := .type "slice", data := .fields #[.int i ui, .int j uj, .none] } } :=
  slice_strN_ss_len hF hN (fun h' t' k a b _ => by rw [slice_ss_eq h0 h1 h2]; exact h h' t' k a b) hs ht (by rw [sOf_len, sizeLine_eq]; omega)
theorem slice_ns {l : List Nat} {j : Int} {uj : Tok} {value slice : Expr} {Q : Value → Shared → Prop} (hF : Fr h₀ L s.heap m) (hN : News h₀ L s.heap news) (h1 : 0 ≤ j) (h2 : j ≤ l.length) (hl : l.length ≤ 100000)
    (h : ∀ h' t' k, Fr h₀ L h' m → News h₀ L h' news → Q (.str (sOf (l.take j.toNat)) t') { s with heap := h', toks := k })
    (hs : subscripted slice false (.str (sOf l) t) (.ref s.heap.objs.size) = operate [.ref s.heap.objs.size, .str (sOf l) t] (getItem (.str (sOf l) t) (.ref s.heap.objs.size)) := by with_unfolding_all rfl)
    (ht : ∀ r, letTemporaryGo value (.str (sOf l) t) r = pure () := by intro _; with_unfolding_all rfl) :
    wpAny (model prog w) A (subscriptTail value slice (.str (sOf l) t) (.ref s.heap.objs.size)) Q E { s with heap := s.heap.push { cls := .type "slice", data := .fields #[.none, .int j uj, .none] } } :=
  slice_strN_ns_len hF hN (fun h' t' k a b _ => by rw [slice_ns_eq h1 h2]; exact h h' t' k a b) hs ht (by rw [sOf_len, sizeLine_eq]; omega)
theorem slice_sn {l : List Nat} {i : Int} {ui : Tok} {value slice : Expr} {Q : Value → Shared → Prop} (hF : Fr h₀ L s.heap m) (hN : News h₀ L s.heap news) (h1 : 0 ≤ i) (h2 : i ≤ l.length) (hl : l.length ≤ 100000)
    (h : ∀ h' t' k, Fr h₀ L h' m → News h₀ L h' news → Q (.str (sOf (l.drop i.toNat)) t') { s with heap := h', toks := k })
    (hs : subscripted slice false (.str (sOf l) t) (.ref s.heap.objs.size) = operate [.ref s.heap.objs.size, .str (sOf l) t] (getItem (.str (sOf l) t) (.ref s.heap.objs.size)) := by with_unfolding_all rfl)
    (ht : ∀ r, letTemporaryGo value (.str (sOf l) t) r = pure () := by intro _; with_unfolding_all rfl) :
    wpAny (model prog w) A (subscriptTail value slice (.str (sOf l) t) (.ref s.heap.objs.size)) Q E { s with heap := s.heap.push { cls := .type "slice", data := .fields #[.int i ui, .none, .none] } } :=
  slice_strN_sn_len hF hN (fun h' t' k a b _ => by rw [slice_sn_eq h1 h2]; exact h h' t' k a b) hs ht (by rw [sOf_len, sizeLine_eq]; omega)
theorem const_s {x : Str} {l : List Nat} {k : Nat} {pos : Pos} {M : Model} {env : Env} {Q : Value → Shared → Prop} (e : x = sOf l) (h : Q (.str (sOf l) s.toks) { s with toks := s.toks + 1 }) : wpAny M A (eval (.Constant (.str x) k pos) env) Q E s := by
  subst e; exact Calls.Constant_str h
end
end Mine
end
open PySem PySem.W PyProof.Rows PySem.Calls PySem.Spec
local macro_rules | `(tactic| walk_at $s:str) => do
  let n := Lean.Syntax.mkStrLit ("M " ++ s.getString)
  `(tactic| k_extra $n)
namespace Mine
theorem say_all : True := by
  (k_with "M call type:int" => (k_here; (with_reducible refine int_s (by assumption) (by assumption) (by first | assumption | omega) ?_)))
  (k_with "M compareOp NotEq ref ref" => (k_here; (rename CarriedAll _ _ => cA9); k_dflt (refine ne_nilL (by k_asm) (by k_mem) (by k_mem) cA9 (by (rw [sg_filter (by assumption)]; rfl)) (by (dsimp only [ktrTop]; omega)) ?_)))
  (k_with "M call builtin:list.append" => (k_here; (have _ := markS); (with_reducible show wpAny _ _ (call (Value.builtin _) [Value.ref _, _]) _ _ _); k_dflt (refine my_append (by k_asm) (by k_asm) (by first | exact Upd.head (by assumption) | exact Upd.tail (by k_ne) (Upd.head (by assumption))) (by assumption) ?_); k_whole; intro h2 F2 N2; (try k_sweep)))
  (k_with "M call builtin:str.join" => (k_here; (have _ := markS); (with_reducible show wpAny _ _ (call (Value.builtin _) [Value.str _ _, Value.ref _]) _ _ _); k_dflt (refine my_join (by rfl) (by k_asm) (by assumption) (by k_mem) (by k_extra "len") (by k_extra "nine") (by assumption) ?_); k_whole; intro t2 k2))
  (k_with "M exec While Constant cons nil" => ((have _ := markS); refine hold_of ?_))
  (k_with "M execs cons" => ((have _ := markR); (with_reducible show wpAny _ _ (execs (Stmt.Assign [Expr.Name (PySem.Str.ofString "found") _] _ _ :: _) _) _ _ _); refine hold_of ?_))
  (k_with "M KswEnd" => ((have _ := markS); (try dsimp only); (rename News _ _ _ _ => nE2); (rename Fr _ _ _ _ => fE2); k_dflt ((refine' ksw_end ⟨_, _, _, _, _, _, _, _⟩ fE2 nE2 ?en True.intro ?ek ?er ?ep ?em); (case ek => (refine List.forall_mem_cons.mpr ⟨by rfl, ?_⟩; refine List.forall_mem_cons.mpr ⟨by rfl, ?_⟩; refine List.forall_mem_cons.mpr ⟨by rfl, ?_⟩; exact List.forall_mem_nil _)); (case en => (refine List.forall_mem_cons.mpr ⟨?_, fun p9 hp9 => ?_⟩; (· (repeat (first | exact List.Mem.head _ | refine List.Mem.tail _ ?_))); (· (repeat (first | exact hp9 | refine List.Mem.tail _ ?_))))); (case er => (intro z9 h29 h39; have n91 := h29 _ (.head _); have n92 := h29 _ (.tail _ (.head _)); have n93 := h29 _ (.tail _ (.tail _ (.head _))); dsimp only at n91 n92 n93; have k9 := cont3 h39; simp only [if_neg n91, if_neg n92, if_neg n93, if_neg k9.1, if_neg k9.2.1, if_neg k9.2.2, kstB, h39, Bool.false_eq_true, if_false])); (case ep => (dsimp only; k_extra "state")); (case em => k_extra "measure"))))
  (k_with "M exec Assign" => (k_here; (have _ := markS); (with_reducible show wpAny _ _ (exec (Stmt.Assign [Expr.Name _ _] (Expr.BoolOp _ _ _) _) _) _ _ _); k_extra "bool"))
  (k_with "M pyIter ref" => (k_here; (have _ := markI); (with_reducible show wpAny _ _ (pyIter (Value.ref _)) (fun it s₂ => TurnsAt _ _ _ _ _ _ _ _ _ it s₂) _ _); (rename Fr _ _ _ _ => lF2); (rename News _ _ _ _ => lN2); k_dflt (with_unfolding_all refine iter_tupTurns (by rfl) lF2 lN2 (by k_mem) (by rfl) (by rfl) ?_); clear lF2; intro i9 l9))
  (k_with "M UnrEndW" => ((have _ := markI); (rename News _ _ _ _ => nE9); (rename Fr _ _ _ _ => fE9); k_dflt (refine unrW_end (by assumption) fE9 nE9 (by (intro p9 hp9; repeat (first | exact hp9 | refine List.Mem.tail _ ?_))) ⟨And.intro (by k_mem) trivial, ?_⟩)))
  (k_with "M exec If" => (k_here; (have _ := markI); (with_reducible show wpAny _ _ (exec (Stmt.If (Expr.BoolOp _ _ _) _ _ _) _) _ _ _); (rename Fr _ _ _ _ => fJ); (rename News _ _ _ _ => nJ); k_dflt (refine if_join false fJ nJ ?_ ?_); (· (k_dflt k_steps; all_goals (k_dflt (k_extra "join")))); clear fJ nJ; intro h2 tk2 F2 N2; (simp only [Bool.false_eq_true, if_false])))
  (k_with "M eval Call" => ((with_reducible show wpAny _ _ (eval (Expr.Call (Expr.Name _ _) (_ :: _) [] _) _) _ _ _); k_dflt (refine Call_ ?_)))
  (k_with "M binaryOp FloorDiv int int" => (k_here; (with_reducible refine floordiv_pos (by first | assumption | decide | omega) (by first | assumption | decide | omega) ?_)))
  (k_with "M binaryOp Mod int int" => (k_here; (with_reducible refine mod_pos (by first | assumption | decide | omega) ?_)))
  (k_with "M binaryOp LShift int int" => (k_here; (with_reducible refine lshift_int (by omega) (by exact my_shl (by first | assumption | decide | omega) (by omega)) ?_)))
  (k_with "M binaryOp LShift int int" => (k_here; (with_reducible show wpAny _ _ (binaryOp _ (Value.int (OfNat.ofNat _) _) (Value.int (OfNat.ofNat _) _)) _ _ _); (with_reducible refine lshift_lit (by decide) (by decide) (by decide) (by (simp only [Int.reduceToNat, Int.reducePow, Int.reduceMul]; exact rfl)) ?_); k_whole))
  (k_with "M binaryOp Pow int int" => (k_here; (with_reducible refine pow10 (by first | assumption | decide | omega) (by first | assumption | decide | omega) ?_)))
  (k_with "M binaryOp Pow int int" => (k_here; (with_reducible refine pow2_s (by first | assumption | decide | omega) (by first | assumption | decide | omega) ?_)))
  (k_with "M binaryOp Mult int int" => (k_here; (with_reducible refine mul_line (by first | decide | omega | exact p10_sz (by omega) | exact p2_sz (by omega) | exact Nat.le_trans (fm_sz (by decide) (by decide)).1 (by decide) | exact Nat.le_trans (fm_sz (by decide) (by decide)).2 (by decide) | k_extra "sz") (by first | decide | omega | exact p10_sz (by omega) | exact p2_sz (by omega) | exact Nat.le_trans (fm_sz (by decide) (by decide)).1 (by decide) | exact Nat.le_trans (fm_sz (by decide) (by decide)).2 (by decide) | k_extra "sz") ?_)))
  (k_with "M call type:str" => (k_here; (with_reducible refine str_int (by first | assumption | omega | k_extra "len") (by first | assumption | omega | k_extra "len") ?_)))
  (k_with "M call builtin:repr" => (k_here; (with_reducible refine repr_int (by first | assumption | omega | k_extra "len") (by first | assumption | omega | k_extra "len") ?_)))
  (k_with "M call builtin:len" => (k_here; (with_reducible refine len_s (by first | assumption | omega | (simp only [List.length_append, List.length_cons, List.length_nil, List.length_take, List.length_drop, List.length_replicate] <;> omega) | k_extra "len") ?_)))
  (k_with "M binaryOp Add str str" => (k_here; (with_reducible refine add_s (by first | assumption | omega | (simp only [List.length_append, List.length_cons, List.length_nil, List.length_take, List.length_drop, List.length_replicate] <;> omega) | k_extra "len") (by first | assumption | omega | (simp only [List.length_append, List.length_cons, List.length_nil, List.length_take, List.length_drop, List.length_replicate] <;> omega) | k_extra "len") ?_); intro _ _))
  (k_with "M compareOp Eq str str" => (k_here; (with_reducible refine eq_s ?_)))
  (k_with "M compareOp NotEq str str" => (k_here; (with_reducible refine ne_s ?_)))
  (k_with "M compareOp LtE str str" => (k_here; (with_reducible refine le_one ?_)))
  (k_with "M call builtin:ord" => (k_here; (with_reducible refine ord_s ?_)))
  (k_with "M subscriptTail Name Name str int" => (k_here; (with_reducible show wpAny _ _ (subscriptTail _ _ (Value.str (sOf _) _) (Value.int _ _)) _ _ _); k_dflt (refine item_s (by first | assumption | decide | omega | k_extra "len") (by first | assumption | omega | (simp only [List.length_append, List.length_cons, List.length_nil, List.length_take, List.length_drop, List.length_replicate] <;> omega) | k_extra "len") (by first | assumption | omega | (simp only [List.length_append, List.length_cons, List.length_nil, List.length_take, List.length_drop, List.length_replicate] <;> omega) | k_extra "len") ?_); k_whole))
  (k_with "M subscriptTail Name Constant str int" => (k_here; (with_reducible show wpAny _ _ (subscriptTail _ _ (Value.str (sOf _) _) (Value.int _ _)) _ _ _); k_dflt (refine item_s (by first | assumption | decide | omega | k_extra "len") (by first | assumption | omega | (simp only [List.length_append, List.length_cons, List.length_nil, List.length_take, List.length_drop, List.length_replicate] <;> omega) | k_extra "len") (by first | assumption | omega | (simp only [List.length_append, List.length_cons, List.length_nil, List.length_take, List.length_drop, List.length_replicate] <;> omega) | k_extra "len") ?_); k_whole))
  (k_with "M subscriptTail Name BinOp str int" => (k_here; (with_reducible show wpAny _ _ (subscriptTail _ _ (Value.str (sOf _) _) (Value.int _ _)) _ _ _); k_dflt (refine item_s (by first | assumption | decide | omega | k_extra "len") (by first | assumption | omega | (simp only [List.length_append, List.length_cons, List.length_nil, List.length_take, List.length_drop, List.length_replicate] <;> omega) | k_extra "len") (by first | assumption | omega | (simp only [List.length_append, List.length_cons, List.length_nil, List.length_take, List.length_drop, List.length_replicate] <;> omega) | k_extra "len") ?_); k_whole))
  (k_with "M subscriptTail Name Slice str ref" => (k_here; (with_reducible show wpAny _ _ (subscriptTail _ (Expr.Slice none (some _) none _) (Value.str (sOf _) _) _) _ _ _); k_dflt (refine slice_ns (by k_asm) (by k_asm) (by first | assumption | omega | (simp only [List.length_append, List.length_cons, List.length_nil, List.length_take, List.length_drop, List.length_replicate] <;> omega) | k_extra "len") (by first | assumption | omega | (simp only [List.length_append, List.length_cons, List.length_nil, List.length_take, List.length_drop, List.length_replicate] <;> omega) | k_extra "len") (by first | assumption | omega | (simp only [List.length_append, List.length_cons, List.length_nil, List.length_take, List.length_drop, List.length_replicate] <;> omega) | k_extra "len") ?_); k_whole; intro h' t' k' F' N'; (try k_sweep)))
  (k_with "M subscriptTail Name Slice str ref" => (k_here; (with_reducible show wpAny _ _ (subscriptTail _ (Expr.Slice (some _) none none _) (Value.str (sOf _) _) _) _ _ _); k_dflt (refine slice_sn (by k_asm) (by k_asm) (by first | assumption | omega | (simp only [List.length_append, List.length_cons, List.length_nil, List.length_take, List.length_drop, List.length_replicate] <;> omega) | k_extra "len") (by first | assumption | omega | (simp only [List.length_append, List.length_cons, List.length_nil, List.length_take, List.length_drop, List.length_replicate] <;> omega) | k_extra "len") (by first | assumption | omega | (simp only [List.length_append, List.length_cons, List.length_nil, List.length_take, List.length_drop, List.length_replicate] <;> omega) | k_extra "len") ?_); k_whole; intro h' t' k' F' N'; (try k_sweep)))
  (k_with "M subscriptTail Name Slice str ref" => (k_here; (with_reducible show wpAny _ _ (subscriptTail _ (Expr.Slice (some _) (some _) none _) (Value.str (sOf _) _) _) _ _ _); k_dflt (refine slice_ss (by k_asm) (by k_asm) (by first | assumption | omega | (simp only [List.length_append, List.length_cons, List.length_nil, List.length_take, List.length_drop, List.length_replicate] <;> omega) | k_extra "len") (by first | assumption | omega | (simp only [List.length_append, List.length_cons, List.length_nil, List.length_take, List.length_drop, List.length_replicate] <;> omega) | k_extra "len") (by first | assumption | omega | (simp only [List.length_append, List.length_cons, List.length_nil, List.length_take, List.length_drop, List.length_replicate] <;> omega) | k_extra "len") (by first | assumption | omega | (simp only [List.length_append, List.length_cons, List.length_nil, List.length_take, List.length_drop, List.length_replicate] <;> omega) | k_extra "len") ?_); k_whole; intro h' t' k' F' N'; (try k_sweep)))
  (k_with "M eval Constant str" => (k_here; (with_reducible show wpAny _ _ (eval (Expr.Constant (Const.str (PySem.Str.ofString "")) _ _) _) _ _ _); k_dflt (refine const_s (l := []) (by rfl) ?_)))
  (k_with "M eval Constant str" => (k_here; (with_reducible show wpAny _ _ (eval (Expr.Constant (Const.str (PySem.Str.ofString "0")) _ _) _) _ _ _); k_dflt (refine const_s (l := [48]) (by rfl) ?_)))
  (k_with "M eval Constant str" => (k_here; (with_reducible show wpAny _ _ (eval (Expr.Constant (Const.str (PySem.Str.ofString ".")) _ _) _) _ _ _); k_dflt (refine const_s (l := [46]) (by rfl) ?_)))
  (k_with "M eval Constant str" => (k_here; (with_reducible show wpAny _ _ (eval (Expr.Constant (Const.str (PySem.Str.ofString "0.")) _ _) _) _ _ _); k_dflt (refine const_s (l := [48, 46]) (by rfl) ?_)))
  (k_with "M eval Constant str" => (k_here; (with_reducible show wpAny _ _ (eval (Expr.Constant (Const.str (PySem.Str.ofString "e")) _ _) _) _ _ _); k_dflt (refine const_s (l := [101]) (by rfl) ?_)))
  (k_with "M eval Constant str" => (k_here; (with_reducible show wpAny _ _ (eval (Expr.Constant (Const.str (PySem.Str.ofString "-")) _ _) _) _ _ _); k_dflt (refine const_s (l := [45]) (by rfl) ?_)))
  (k_with "M eval Constant str" => (k_here; (with_reducible show wpAny _ _ (eval (Expr.Constant (Const.str (PySem.Str.ofString "+")) _ _) _) _ _ _); k_dflt (refine const_s (l := [43]) (by rfl) ?_)))
  (k_with "M eval Constant str" => (k_here; (with_reducible show wpAny _ _ (eval (Expr.Constant (Const.str (PySem.Str.ofString "a")) _ _) _) _ _ _); k_dflt (refine const_s (l := [97]) (by rfl) ?_)))
  (k_with "M eval Constant str" => (k_here; (with_reducible show wpAny _ _ (eval (Expr.Constant (Const.str (PySem.Str.ofString "z")) _ _) _) _ _ _); k_dflt (refine const_s (l := [122]) (by rfl) ?_)))
  (k_with "M eval Constant str" => (k_here; (with_reducible show wpAny _ _ (eval (Expr.Constant (Const.str (PySem.Str.ofString "9")) _ _) _) _ _ _); k_dflt (refine const_s (l := [57]) (by rfl) ?_)))
  (k_with "M eval Constant str" => (k_here; (with_reducible show wpAny _ _ (eval (Expr.Constant (Const.str (PySem.Str.ofString "A")) _ _) _) _ _ _); k_dflt (refine const_s (l := [65]) (by rfl) ?_)))
  (k_with "M eval Constant str" => (k_here; (with_reducible show wpAny _ _ (eval (Expr.Constant (Const.str (PySem.Str.ofString "Z")) _ _) _) _ _ _); k_dflt (refine const_s (l := [90]) (by rfl) ?_)))
  (k_with "M eval Constant str" => (k_here; (with_reducible show wpAny _ _ (eval (Expr.Constant (Const.str (PySem.Str.ofString "0x")) _ _) _) _ _ _); k_dflt (refine const_s (l := [48, 120]) (by rfl) ?_)))
  (k_with "M eval Constant str" => (k_here; (with_reducible show wpAny _ _ (eval (Expr.Constant (Const.str (PySem.Str.ofString "0X")) _ _) _) _ _ _); k_dflt (refine const_s (l := [48, 88]) (by rfl) ?_)))
  (k_with "M eval Constant str" => (k_here; (with_reducible show wpAny _ _ (eval (Expr.Constant (Const.str (PySem.Str.ofString "+-")) _ _) _) _ _ _); k_dflt (refine const_s (l := [43, 45]) (by rfl) ?_)))
  (k_with "M eval Constant str" => (k_here; (with_reducible show wpAny _ _ (eval (Expr.Constant (Const.str (PySem.Str.ofString "eE")) _ _) _) _ _ _); k_dflt (refine const_s (l := [101, 69]) (by rfl) ?_)))
  (k_with "M eval Constant str" => (k_here; (with_reducible show wpAny _ _ (eval (Expr.Constant (Const.str (PySem.Str.ofString "0123456789")) _ _) _) _ _ _); k_dflt (refine const_s (l := [48, 49, 50, 51, 52, 53, 54, 55, 56, 57]) (by rfl) ?_)))
  (k_with "M eval Constant str" => (k_here; (with_reducible show wpAny _ _ (eval (Expr.Constant (Const.str (PySem.Str.ofString "Infinity")) _ _) _) _ _ _); k_dflt (refine const_s (l := [73, 110, 102, 105, 110, 105, 116, 121]) (by rfl) ?_)))
  (k_with "M compareOp In str str" => (k_here; (with_reducible refine in_s ?_)))
  (k_with "M compareOp NotIn str str" => (k_here; (with_reducible refine nin_s ?_)))
  (k_with "M binaryOp Mult str int" => (k_here; (with_reducible refine mul_s (by first | assumption | omega | (simp only [List.length_append, List.length_cons, List.length_nil, List.length_take, List.length_drop, List.length_replicate] <;> omega) | k_extra "len") (by first | assumption | omega | (simp only [List.length_append, List.length_cons, List.length_nil, List.length_take, List.length_drop, List.length_replicate] <;> omega) | k_extra "len") ?_); intro _ _))
  (k_with "M call builtin:str.lstrip" => (k_here; (with_reducible refine lstrip_s (by first | assumption | omega | (simp only [List.length_append, List.length_cons, List.length_nil, List.length_take, List.length_drop, List.length_replicate] <;> omega) | k_extra "len") ?_); intro _ _; (try k_extra "fold")))
  (k_with "M subscriptTail Name Slice str ref" => (k_here; (with_reducible show wpAny _ _ (subscriptTail _ (Expr.Slice none (some _) none _) (Value.str (sOf _) _) _) _ _ _); k_dflt (refine slice_nsc (by k_asm) (by k_asm) (by first | assumption | omega | (simp only [List.length_append, List.length_cons, List.length_nil, List.length_take, List.length_drop, List.length_replicate] <;> omega) | k_extra "len") (by first | assumption | omega | (simp only [List.length_append, List.length_cons, List.length_nil, List.length_take, List.length_drop, List.length_replicate] <;> omega) | k_extra "len") ?_); k_whole; intro h' t' k' F' N'; (try k_sweep)))
  (k_with "M subscriptTail Name Slice str ref" => (k_here; (with_reducible show wpAny _ _ (subscriptTail _ (Expr.Slice (some _) (some _) none _) (Value.str (sOf _) _) _) _ _ _); k_dflt (refine slice_ssc (by k_asm) (by k_asm) (by first | assumption | omega | (simp only [List.length_append, List.length_cons, List.length_nil, List.length_take, List.length_drop, List.length_replicate] <;> omega) | k_extra "len") (by first | assumption | omega | (simp only [List.length_append, List.length_cons, List.length_nil, List.length_take, List.length_drop, List.length_replicate] <;> omega) | k_extra "len") (by first | assumption | omega | (simp only [List.length_append, List.length_cons, List.length_nil, List.length_take, List.length_drop, List.length_replicate] <;> omega) | k_extra "len") (by first | assumption | omega | (simp only [List.length_append, List.length_cons, List.length_nil, List.length_take, List.length_drop, List.length_replicate] <;> omega) | k_extra "len") ?_); k_whole; intro h' t' k' F' N'; (try k_sweep)))
  (k_with "M call ref" => (k_here; (with_reducible show wpAny _ _ (call (Value.ref 21) _) _ _ _); k_dflt (refine Spec.use (spec_width _ _ (by first | assumption | omega | k_extra "prem") (by first | assumption | omega | k_extra "prem")) (by k_asm) (by k_asm) (by k_asm) (by k_asm) (by k_asm) (by first | exact rfl | assumption) (by ktr_room) (by ktr_units) (by exact List.forall_mem_nil _) ?_); intro t9 h9 tk9 F9 N9; (try dsimp only); (try k_extra "fold"); (try k_fold)))
  (k_with "M call ref" => (k_here; (with_reducible show wpAny _ _ (call (Value.ref 28) _) _ _ _); k_dflt (refine Spec.use (spec_pack _ _ _ _ _ (by first | assumption | omega | k_extra "prem") (by first | assumption | omega | k_extra "prem") (by first | assumption | omega | k_extra "prem") (by first | assumption | omega | k_extra "prem")) (by k_asm) (by k_asm) (by k_asm) (by k_asm) (by k_asm) (by first | exact rfl | assumption) (by ktr_room) (by ktr_units) (by exact List.forall_mem_nil _) ?_); intro t9 h9 tk9 F9 N9; (try dsimp only); (try k_extra "fold"); (try k_fold)))
  (k_with "M call ref" => (k_here; (with_reducible show wpAny _ _ (call (Value.ref 35) _) _ _ _); k_dflt (refine Spec.use (spec_is_negative _ _ (by first | assumption | omega | k_extra "prem") (by first | assumption | omega | k_extra "prem")) (by k_asm) (by k_asm) (by k_asm) (by k_asm) (by k_asm) (by first | exact rfl | assumption) (by ktr_room) (by ktr_units) (by exact List.forall_mem_nil _) ?_); intro h9 tk9 F9 N9; (try dsimp only); (try k_extra "fold"); (try k_fold)))
  (k_with "M call ref" => (k_here; (with_reducible show wpAny _ _ (call (Value.ref 42) _) _ _ _); k_dflt (refine Spec.use (spec_is_nan _ _ (by first | assumption | omega | k_extra "prem")) (by k_asm) (by k_asm) (by k_asm) (by k_asm) (by k_asm) (by first | exact rfl | assumption) (by ktr_room) (by ktr_units) (by exact List.forall_mem_nil _) ?_); intro h9 tk9 F9 N9; (try dsimp only); (try k_extra "fold"); (try k_fold)))
  (k_with "M call ref" => (k_here; (with_reducible show wpAny _ _ (call (Value.ref 49) _) _ _ _); k_dflt (refine Spec.use (spec_is_inf _ _ (by first | assumption | omega | k_extra "prem")) (by k_asm) (by k_asm) (by k_asm) (by k_asm) (by k_asm) (by first | exact rfl | assumption) (by ktr_room) (by ktr_units) (by exact List.forall_mem_nil _) ?_); intro h9 tk9 F9 N9; (try dsimp only); (try k_extra "fold"); (try k_fold)))
  (k_with "M call ref" => (k_here; (with_reducible show wpAny _ _ (call (Value.ref 56) _) _ _ _); k_dflt (refine Spec.use (spec_is_zero _ _ (by first | assumption | omega | k_extra "prem")) (by k_asm) (by k_asm) (by k_asm) (by k_asm) (by k_asm) (by first | exact rfl | assumption) (by ktr_room) (by ktr_units) (by exact List.forall_mem_nil _) ?_); intro h9 tk9 F9 N9; (try dsimp only); (try k_extra "fold"); (try k_fold)))
  (k_with "M call ref" => (k_here; (with_reducible show wpAny _ _ (call (Value.ref 70) _) _ _ _); k_dflt (refine Spec.use (spec_parts _ _ (by first | assumption | omega | k_extra "prem")) (by k_asm) (by k_asm) (by k_asm) (by k_asm) (by k_asm) (by first | exact rfl | assumption) (by ktr_room) (by ktr_units) (by exact List.forall_mem_nil _) ?_); intro D9 t9 u9 v9 c9 h9 tk9 F9 N9; (try dsimp only); (try k_extra "fold"); (try k_fold)))
  (k_with "M call ref" => (k_here; (with_reducible show wpAny _ _ (call (Value.ref 77) _) _ _ _); k_dflt (refine Spec.use (spec_quotient _ _ _ _ _ _ (by first | assumption | omega | k_extra "prem") (by first | assumption | omega | k_extra "prem") (by first | assumption | omega | k_extra "prem") (by first | assumption | omega | k_extra "prem") (by first | assumption | omega | k_extra "prem") (by first | assumption | omega | k_extra "prem")) (by k_asm) (by k_asm) (by k_asm) (by k_asm) (by k_asm) (by first | exact rfl | assumption) (by ktr_room) (by ktr_units) (by exact List.forall_mem_nil _) ?_); intro D9 t9 u9 v9 c9 h9 tk9 F9 N9; (try dsimp only); (try k_extra "fold"); (try k_fold)))
  (k_with "M call ref" => (k_here; (with_reducible show wpAny _ _ (call (Value.ref 84) _) _ _ _); k_dflt (refine Spec.use (spec_round_ratio _ _ _ _ _ (by first | assumption | omega | k_extra "prem") (by first | assumption | omega | k_extra "prem") (by first | assumption | omega | k_extra "prem") (by first | assumption | omega | k_extra "prem") (by first | assumption | omega | k_extra "prem")) (by k_asm) (by k_asm) (by k_asm) (by k_asm) (by k_asm) (by first | exact rfl | assumption) (by ktr_room) (by ktr_units) (by exact List.forall_mem_nil _) ?_); intro t9 h9 tk9 F9 N9; (try dsimp only); (try k_extra "fold"); (try k_fold)))
  (k_with "M call ref" => (k_here; (with_reducible show wpAny _ _ (call (Value.ref 105) _) _ _ _); k_dflt (refine Spec.use (spec_scaled _ _ _ _ (by first | assumption | omega | k_extra "prem") (by first | assumption | omega | k_extra "prem") (by first | assumption | omega | k_extra "prem") (by first | assumption | omega | k_extra "prem")) (by k_asm) (by k_asm) (by k_asm) (by k_asm) (by k_asm) (by first | exact rfl | assumption) (by ktr_room) (by ktr_units) (by exact List.forall_mem_nil _) ?_); intro D9 t9 u9 v9 w9 c9 h9 tk9 F9 N9; (try dsimp only); (try k_extra "fold"); (try k_fold)))
  (k_with "M call ref" => (k_here; (with_reducible show wpAny _ _ (call (Value.ref 112) _) _ _ _); k_dflt (refine Spec.use (spec_decimal_place _ _ _ _ (by first | assumption | omega | k_extra "prem") (by first | assumption | omega | k_extra "prem") (by first | assumption | omega | k_extra "prem") (by first | assumption | omega | k_extra "prem")) (by k_asm) (by k_asm) (by k_asm) (by k_asm) (by k_asm) (by first | exact rfl | assumption) (by ktr_room) (by ktr_units) (by exact List.forall_mem_nil _) ?_); intro t9 h9 tk9 F9 N9; (try dsimp only); (try k_extra "fold"); (try k_fold)))
  (k_with "M call ref" => (k_here; (with_reducible show wpAny _ _ (call (Value.ref 119) _) _ _ _); k_dflt (refine Spec.use (spec_first_place _ _ _ _ _ _ _ (by first | assumption | omega | k_extra "prem") (by first | assumption | omega | k_extra "prem") (by first | assumption | omega | k_extra "prem") (by first | assumption | omega | k_extra "prem") (by first | assumption | omega | k_extra "prem")) (by k_asm) (by k_asm) (by k_asm) (by k_asm) (by k_asm) (by first | exact rfl | assumption) (by ktr_room) (by ktr_units) (by exact List.forall_mem_nil _) ?_); intro t9 h9 tk9 F9 N9; (try dsimp only); (try k_extra "fold"); (try k_fold)))
  (k_with "M call ref" => (k_here; (with_reducible show wpAny _ _ (call (Value.ref 133) _) _ _ _); k_dflt (refine Spec.use (spec_last_figure _ _ _ _ _ _ _ _ (by first | assumption | omega | k_extra "prem")) (by k_asm) (by k_asm) (by k_asm) (by k_asm) (by k_asm) (by first | exact rfl | assumption) (by ktr_room) (by ktr_units) (by exact List.forall_mem_nil _) ?_); intro t9 h9 tk9 F9 N9; (try dsimp only); (try k_extra "fold"); (try k_fold)))
  (k_with "M call ref" => (k_here; (with_reducible show wpAny _ _ (call (Value.ref 140) _) _ _ _); k_dflt (refine Spec.use (spec_signed_exponent _ _ (by first | assumption | omega | k_extra "prem") (by first | assumption | omega | k_extra "prem")) (by k_asm) (by k_asm) (by k_asm) (by k_asm) (by k_asm) (by first | exact rfl | assumption) (by ktr_room) (by ktr_units) (by exact List.forall_mem_nil _) ?_); intro t9 h9 tk9 F9 N9; (try dsimp only); (try k_extra "fold"); (try k_fold)))
  (k_with "M call ref" => (k_here; (with_reducible show wpAny _ _ (call (Value.ref 147) _) _ _ _); k_dflt (refine Spec.use (spec_with_exponent _ _ _ _ (by first | assumption | omega | k_extra "prem") (by first | assumption | omega | k_extra "prem") (by first | assumption | omega | k_extra "prem") (by first | assumption | omega | k_extra "prem")) (by k_asm) (by k_asm) (by k_asm) (by k_asm) (by k_asm) (by first | exact rfl | assumption) (by ktr_room) (by ktr_units) (by exact List.forall_mem_nil _) ?_); intro t9 h9 tk9 F9 N9; (try dsimp only); (try k_extra "fold"); (try k_fold)))
  (k_with "M call ref" => (k_here; (with_reducible show wpAny _ _ (call (Value.ref 154) _) _ _ _); k_dflt (refine Spec.use (spec_laid_out _ _ _ _ (by first | assumption | omega | k_extra "prem") (by first | assumption | omega | k_extra "prem") (by first | assumption | omega | k_extra "prem") (by first | assumption | omega | k_extra "prem")) (by k_asm) (by k_asm) (by k_asm) (by k_asm) (by k_asm) (by first | exact rfl | assumption) (by ktr_room) (by ktr_units) (by exact List.forall_mem_nil _) ?_); intro t9 h9 tk9 F9 N9; (try dsimp only); (try k_extra "fold"); (try k_fold)))
  (k_with "M call ref" => (k_here; (with_reducible show wpAny _ _ (call (Value.ref 161) _) _ _ _); k_dflt (refine Spec.use (spec_without_figures _ _ (by first | assumption | omega | k_extra "prem") (by first | assumption | omega | k_extra "prem")) (by k_asm) (by k_asm) (by k_asm) (by k_asm) (by k_asm) (by first | exact rfl | assumption) (by ktr_room) (by ktr_units) (by exact List.forall_mem_nil _) ?_); intro h9 tk9 F9 N9; (try dsimp only); (try k_extra "fold"); (try k_fold)))
  (k_with "M call ref" => (k_here; (with_reducible show wpAny _ _ (call (Value.ref 175) _) _ _ _); k_dflt (refine Spec.use (spec_is_blank _ _ (by first | assumption | omega | k_extra "prem")) (by k_asm) (by k_asm) (by k_asm) (by k_asm) (by k_asm) (by first | exact rfl | assumption) (by ktr_room) (by ktr_units) (by exact List.forall_mem_nil _) ?_); intro h9 tk9 F9 N9; (try dsimp only); (try k_extra "fold"); (try k_fold)))
  (k_with "M call ref" => (k_here; (with_reducible show wpAny _ _ (call (Value.ref 182) _) _ _ _); k_dflt (refine Spec.use (spec_skip_blanks _ _ _ (by first | assumption | omega | k_extra "prem") (by first | assumption | omega | k_extra "prem") (by first | assumption | omega | k_extra "prem")) (by k_asm) (by k_asm) (by k_asm) (by k_asm) (by k_asm) (by first | exact rfl | assumption) (by ktr_room) (by ktr_units) (by exact List.forall_mem_nil _) ?_); intro t9 h9 tk9 F9 N9; (try dsimp only); (try k_extra "fold"); (try k_fold)))
  (k_with "M call ref" => (k_here; (with_reducible show wpAny _ _ (call (Value.ref 189) _) _ _ _); k_dflt (refine Spec.use (spec_trimmed _ _ (by first | assumption | omega | k_extra "prem") (by first | assumption | omega | k_extra "prem") (by first | assumption | omega | k_extra "prem") (by first | assumption | omega | k_extra "prem")) (by k_asm) (by k_asm) (by k_asm) (by k_asm) (by k_asm) (by first | exact rfl | assumption) (by ktr_room) (by ktr_units) (by exact List.forall_mem_nil _) ?_); intro t9 h9 tk9 F9 N9; (try dsimp only); (try k_extra "fold"); (try k_fold)))
  (k_with "M call ref" => (k_here; (with_reducible show wpAny _ _ (call (Value.ref 196) _) _ _ _); k_dflt (refine Spec.use (spec_figure_of _ _) (by k_asm) (by k_asm) (by k_asm) (by k_asm) (by k_asm) (by first | exact rfl | assumption) (by ktr_room) (by ktr_units) (by exact List.forall_mem_nil _) ?_); intro t9 h9 tk9 F9 N9; (try dsimp only); (try k_extra "fold"); (try k_fold)))
  (k_with "M call ref" => (k_here; (with_reducible show wpAny _ _ (call (Value.ref 203) _) _ _ _); k_dflt (refine Spec.use (spec_run_end _ _ _ _ _ (by first | assumption | omega | k_extra "prem") (by first | assumption | omega | k_extra "prem") (by first | assumption | omega | k_extra "prem")) (by k_asm) (by k_asm) (by k_asm) (by k_asm) (by k_asm) (by first | exact rfl | assumption) (by ktr_room) (by ktr_units) (by exact List.forall_mem_nil _) ?_); intro t9 h9 tk9 F9 N9; (try dsimp only); (try k_extra "fold"); (try k_fold)))
  (k_with "M call ref" => (k_here; (with_reducible show wpAny _ _ (call (Value.ref 210) _) _ _ _); k_dflt (refine Spec.use (spec_worth _ _ _ _ _ _ _ (by first | assumption | omega | k_extra "prem") (by first | assumption | omega | k_extra "prem") (by first | assumption | omega | k_extra "prem") (by first | assumption | omega | k_extra "prem")) (by k_asm) (by k_asm) (by k_asm) (by k_asm) (by k_asm) (by first | exact rfl | assumption) (by ktr_room) (by ktr_units) (by exact List.forall_mem_nil _) ?_); intro t9 h9 tk9 F9 N9; (try dsimp only); (try k_extra "fold"); (try k_fold)))
  (k_with "M call ref" => (k_here; (with_reducible show wpAny _ _ (call (Value.ref 217) _) _ _ _); k_dflt (refine Spec.use (spec_from_decimal _ _ _ _ (by first | assumption | omega | k_extra "prem")) (by k_asm) (by k_asm) (by k_asm) (by k_asm) (by k_asm) (by first | exact rfl | assumption) (by ktr_room) (by ktr_units) (by exact List.forall_mem_nil _) ?_); intro t9 h9 tk9 F9 N9; (try dsimp only); (try k_extra "fold"); (try k_fold)))
  (k_with "M call ref" => (k_here; (with_reducible show wpAny _ _ (call (Value.ref 224) _) _ _ _); k_dflt (refine Spec.use (spec_sign_at _ _ _ _ (by first | assumption | omega | k_extra "prem") (by first | assumption | omega | k_extra "prem") (by first | assumption | omega | k_extra "prem")) (by k_asm) (by k_asm) (by k_asm) (by k_asm) (by k_asm) (by first | exact rfl | assumption) (by ktr_room) (by ktr_units) (by exact List.forall_mem_nil _) ?_); intro D9 t9 u9 c9 h9 tk9 F9 N9; (try dsimp only); (try k_extra "fold"); (try k_fold)))
  (k_with "M call ref" => (k_here; (with_reducible show wpAny _ _ (call (Value.ref 231) _) _ _ _); k_dflt (refine Spec.use (spec_turned _ _ _ (by first | assumption | omega | k_extra "prem") (by first | assumption | omega | k_extra "prem")) (by k_asm) (by k_asm) (by k_asm) (by k_asm) (by k_asm) (by first | exact rfl | assumption) (by ktr_room) (by ktr_units) (by exact List.forall_mem_nil _) ?_); intro t9 h9 tk9 F9 N9; (try dsimp only); (try k_extra "fold"); (try k_fold)))
  (k_with "M call ref" => (k_here; (with_reducible show wpAny _ _ (call (Value.ref 238) _) _ _ _); k_dflt (refine Spec.use (spec_exponent_at _ _ _ _ (by first | assumption | omega | k_extra "prem") (by first | assumption | omega | k_extra "prem") (by first | assumption | omega | k_extra "prem")) (by k_asm) (by k_asm) (by k_asm) (by k_asm) (by k_asm) (by first | exact rfl | assumption) (by ktr_room) (by ktr_units) (by exact List.forall_mem_nil _) ?_); intro D9 t9 u9 c9 h9 tk9 F9 N9; (try dsimp only); (try k_extra "fold"); (try k_fold)))
  (k_with "M call ref" => (k_here; (with_reducible show wpAny _ _ (call (Value.ref 245) _) _ _ _); k_dflt (refine Spec.use (spec_decimal_at _ _ _ _ (by first | assumption | omega | k_extra "prem")) (by k_asm) (by k_asm) (by k_asm) (by k_asm) (by k_asm) (by first | exact rfl | assumption) (by ktr_room) (by ktr_units) (by exact List.forall_mem_nil _) ?_); intro D9 t9 u9 c9 h9 tk9 F9 N9; (try dsimp only); (try k_extra "fold"); (try k_fold)))
  (k_with "M call ref" => (k_here; (with_reducible show wpAny _ _ (call (Value.ref 252) _) _ _ _); k_dflt (refine Spec.use (spec_text_to_number _ _ (by first | assumption | omega | k_extra "prem")) (by k_asm) (by k_asm) (by k_asm) (by k_asm) (by k_asm) (by first | exact rfl | assumption) (by ktr_room) (by ktr_units) (by exact List.forall_mem_nil _) ?_); intro t9 h9 tk9 F9 N9; (try dsimp only); (try k_extra "fold"); (try k_fold)))
  (k_with "M call ref" => (k_here; (with_reducible show wpAny _ _ (call (Value.ref 168) _) _ _ _); k_dflt (refine Spec.use (spec_show _ _ _ (by first | assumption | omega | k_extra "prem") (by first | assumption | omega | k_extra "prem") (by first | assumption | omega | k_extra "prem") (by first | assumption | omega | k_extra "prem")) (by k_asm) (by k_asm) (by k_asm) (by k_asm) (by k_asm) (by first | exact rfl | assumption) (by ktr_room) (by ktr_units) (by exact List.forall_mem_nil _) ?_); intro t9 h9 tk9 F9 N9; (try dsimp only); (try k_extra "fold"); (try k_fold)))
  (k_with "M call ref" => (k_here; (with_reducible show wpAny _ _ (call (Value.ref 259) _) _ _ _); k_dflt (refine Spec.use (spec_law_ratio _ _ (by first | assumption | omega | k_extra "prem") (by first | assumption | omega | k_extra "prem")) (by k_asm) (by k_asm) (by k_asm) (by k_asm) (by k_asm) (by first | exact rfl | assumption) (by ktr_room) (by ktr_units) (by exact List.forall_mem_nil _) ?_); intro D9 t9 u9 c9 h9 tk9 F9 N9; (try dsimp only); (try k_extra "fold"); (try k_fold)))
  (k_with "M call ref" => (k_here; (with_reducible show wpAny _ _ (call (Value.ref 287) _) _ _ _); k_dflt (refine Spec.use (spec_law_tens _ _ _ _ (by first | assumption | omega | k_extra "prem") (by first | assumption | omega | k_extra "prem") (by first | assumption | omega | k_extra "prem")) (by k_asm) (by k_asm) (by k_asm) (by k_asm) (by k_asm) (by first | exact rfl | assumption) (by ktr_room) (by ktr_units) (by exact List.forall_mem_nil _) ?_); intro D9 t9 u9 c9 h9 tk9 F9 N9; (try dsimp only); (try k_extra "fold"); (try k_fold)))
  (k_with "M call ref" => (k_here; (with_reducible show wpAny _ _ (call (Value.ref 266) _) _ _ _); k_dflt (refine Spec.use2 (by k_asm) (by (repeat (first | exact List.forall_mem_nil _ | refine List.forall_mem_cons.mpr ⟨by (repeat (first | exact List.Mem.head _ | assumption | refine List.Mem.tail _ ?_)), ?_⟩))) (spec_law_between _ _ _ _ _ _ _ _ _ _ _ _ (by first | assumption | omega | k_extra "prem") (by first | assumption | omega | k_extra "prem") (by first | assumption | omega | k_extra "prem") (by first | assumption | omega | k_extra "prem")) (by k_asm) (by k_asm) (by k_asm) (by k_asm) (by first | exact rfl | assumption) (by ktr_room) (by ktr_units) ?_); intro D9 t9 u9 c9 h9 tk9 F9 N9; (try dsimp only); (try k_extra "fold"); (try k_fold)))
  (k_with "M call ref" => (k_here; (with_reducible show wpAny _ _ (call (Value.ref 273) _) _ _ _); k_dflt (refine Spec.use2 (by k_asm) (by (repeat (first | exact List.forall_mem_nil _ | refine List.forall_mem_cons.mpr ⟨by (repeat (first | exact List.Mem.head _ | assumption | refine List.Mem.tail _ ?_)), ?_⟩))) (spec_law_order _ _ _ _ _ _ _ _ _ _ _ _ (by first | assumption | omega | k_extra "prem") (by first | assumption | omega | k_extra "prem") (by first | assumption | omega | k_extra "prem") (by first | assumption | omega | k_extra "prem")) (by k_asm) (by k_asm) (by k_asm) (by k_asm) (by first | exact rfl | assumption) (by ktr_room) (by ktr_units) ?_); intro t9 h9 tk9 F9 N9; (try dsimp only); (try k_extra "fold"); (try k_fold)))
  (k_with "M call ref" => (k_here; (with_reducible show wpAny _ _ (call (Value.ref 301) _) _ _ _); k_dflt (refine Spec.use2 (by k_asm) (by (repeat (first | exact List.forall_mem_nil _ | refine List.forall_mem_cons.mpr ⟨by (repeat (first | exact List.Mem.head _ | assumption | refine List.Mem.tail _ ?_)), ?_⟩))) (spec_law_distance _ _ _ _ _ _ _ _ _ _ _ _ (by first | assumption | omega | k_extra "prem") (by first | assumption | omega | k_extra "prem") (by first | assumption | omega | k_extra "prem") (by first | assumption | omega | k_extra "prem")) (by k_asm) (by k_asm) (by k_asm) (by k_asm) (by first | exact rfl | assumption) (by ktr_room) (by ktr_units) ?_); intro D9 t9 u9 c9 h9 tk9 F9 N9; (try dsimp only); (try k_extra "fold"); (try k_fold)))
  (k_with "M call ref" => (k_here; (with_reducible show wpAny _ _ (call (Value.ref 280) _) _ _ _); k_dflt (refine Spec.use2 (by k_asm) (by (repeat (first | exact List.forall_mem_nil _ | refine List.forall_mem_cons.mpr ⟨by (repeat (first | exact List.Mem.head _ | assumption | refine List.Mem.tail _ ?_)), ?_⟩))) (spec_law_reads _ _ _ _ _ _ _ _ (by first | assumption | omega | k_extra "prem") (by first | assumption | omega | k_extra "prem") (by first | assumption | omega | k_extra "prem") (by first | assumption | omega | k_extra "prem")) (by k_asm) (by k_asm) (by k_asm) (by k_asm) (by first | exact rfl | assumption) (by ktr_room) (by ktr_units) ?_); intro h9 tk9 F9 N9; (try dsimp only); (try k_extra "fold"); (try k_fold)))
  (k_with "M call ref" => (k_here; (with_reducible show wpAny _ _ (call (Value.ref 308) _) _ _ _); k_dflt (refine Spec.use (spec_law_is_shortest _ _ _ _ _ _ (by first | assumption | omega | k_extra "prem")) (by k_asm) (by k_asm) (by k_asm) (by k_asm) (by k_asm) (by first | exact rfl | assumption) (by ktr_room) (by ktr_units) (by exact List.forall_mem_nil _) ?_); intro h9 tk9 F9 N9; (try dsimp only); (try k_extra "fold"); (try k_fold)))
  (k_with "M call ref" => (k_here; (with_reducible show wpAny _ _ (call (Value.ref 63) _) _ _ _); exfalso; omega))
  (k_with "M call ref" => (k_here; (with_reducible show wpAny _ _ (call (Value.ref 91) _) _ _ _); k_dflt (refine Spec.use (spec_asm (by assumption) (by assumption) (by assumption) (by assumption) (by k_dflt (first | exact (if_pos (by assumption)).symm | exact (if_neg (by assumption)).symm)) (by k_dflt (first | exact rrW_a (by assumption) | exact rrW_b (by assumption) (by assumption) | exact rrW_c (by assumption) (by assumption) | exact rrW_d (by assumption) (by assumption)))) (by k_asm) (by k_asm) (by k_asm) (by k_asm) (by k_asm) (by first | exact rfl | assumption) (by ktr_room) (by ktr_units) (by exact List.forall_mem_nil _) ?_); intro t9 h9 tk9 F9 N9; (try dsimp only); (try k_extra "fold"); (try k_fold)))
  (k_with "M call ref" => (k_here; (with_reducible show wpAny _ _ (call (Value.ref 126) _) _ _ _); k_dflt (refine Spec.use (spec_short (by assumption) (by assumption)) (by k_asm) (by k_asm) (by k_asm) (by k_asm) (by k_asm) (by first | exact rfl | assumption) (by ktr_room) (by ktr_units) (by exact List.forall_mem_nil _) ?_); intro D9 t9 u9 c9 h9 tk9 F9 N9; (try dsimp only); (try k_extra "fold"); (try k_fold)))
  exact True.intro
end Mine
section
open PySem PySem.W PyProof.Rows PySem.Calls PySem.Spec
namespace Mine
open PySem.Builtin.Int (intBits)

open PySem.Builtin.Int (intBits)
theorem wid_shift {x : Int} (k : Nat) (h : (2 : Int) ^ k ≤ x) : intBits (x.fdiv (2 ^ k)) + k = intBits x := by
  have h1 : (0 : Int) < 2 ^ k := Int.pow_pos (by decide)
  obtain ⟨n, rfl⟩ := Int.eq_ofNat_of_zero_le (show 0 ≤ x by omega)
  rw [fd (Int.le_of_lt h1)]
  have e : ((n : Nat) : Int) / 2 ^ k = ((n / 2 ^ k : Nat) : Int) := by rw [Int.natCast_ediv, Int.natCast_pow]; rfl
  have hn : 2 ^ k ≤ n := by
    have : (((2 ^ k : Nat)) : Int) ≤ (n : Int) := by rw [Int.natCast_pow]; exact h
    omega
  rw [e]
  have key : ∀ m, intBits ((n / 2 ^ k : Nat) : Int) ≤ m ↔ intBits ((n : Nat) : Int) ≤ m + k := fun m => by
    rw [intBits_le_iff, intBits_le_iff, Int.natAbs_natCast, Int.natAbs_natCast, Nat.div_lt_iff_lt_mul (Nat.two_pow_pos k), ← Nat.pow_add]
  have k1 := (key _).mp (Nat.le_refl _)
  have k0 : k ≤ intBits ((n : Nat) : Int) := by
    rcases Nat.lt_or_ge (intBits ((n : Nat) : Int)) k with q | q
    · have := intBits_le_iff.mp (Nat.le_of_lt q)
      rw [Int.natAbs_natCast] at this; omega
    · exact q
  have k2 := (key (intBits ((n : Nat) : Int) - k)).mpr (by omega)
  omega
theorem parts_expo {b : Int} (h : 0 ≤ b) : Builtin.bitAnd (b.fdiv (2 ^ Int.toNat 52)) 2047 = expo b := by
  show Builtin.bitAnd (b.fdiv (2 ^ 52)) 2047 = _
  rw [fd (by decide), show (2047 : Int) = 2 ^ 11 - 1 by decide, bAnd_mask 11 (by omega)]; rfl
theorem parts_frac {b : Int} (h : 0 ≤ b) : Builtin.bitAnd b 4503599627370495 = frac b := by
  rw [show (4503599627370495 : Int) = 2 ^ 52 - 1 by decide, bAnd_mask 52 h]; rfl
theorem wid_zero : intBits 0 = 0 := by decide
theorem fdiv_pow_lt {x : Int} (k : Nat) (h : 0 < x) (hk : 0 < k) : 0 ≤ x.fdiv (2 ^ k) ∧ x.fdiv (2 ^ k) < x := by
  have h1 : (0 : Int) < 2 ^ k := Int.pow_pos (by decide)
  have h2 : (2 : Int) ≤ 2 ^ k := by
    obtain ⟨j, rfl⟩ : ∃ j, k = j + 1 := ⟨k - 1, by omega⟩
    have : (0 : Int) < 2 ^ j := Int.pow_pos (by decide)
    rw [Int.pow_succ]; omega
  rw [fd (Int.le_of_lt h1)]
  exact ⟨Int.ediv_nonneg (Int.le_of_lt h) (Int.le_of_lt h1), Int.ediv_lt_of_lt_mul h1 (by
    have := Int.mul_le_mul_of_nonneg_left h2 (Int.le_of_lt h); omega)⟩
theorem wid_st64 {x many N : Int} (_ : 0 ≤ x) (h2 : 0 ≤ many) (h3 : many + (intBits x : Int) = N) (h4 : 1 * 2 ^ Int.toNat 64 ≤ x) :
    0 ≤ x.fdiv (2 ^ Int.toNat 64) ∧ 0 ≤ many + 64 ∧ many + 64 + (intBits (x.fdiv (2 ^ Int.toNat 64)) : Int) = N := by
  rw [Int.one_mul] at h4
  have a := wid_shift 64 h4
  have b := fdiv_pow_lt 64 (x := x) (by have : (2 : Int) ^ Int.toNat 64 = 18446744073709551616 := by decide
                                        omega) (by decide)
  exact ⟨b.1, by omega, by show many + 64 + (intBits (x.fdiv (2 ^ 64)) : Int) = N; omega⟩
theorem wid_st1 {x many N : Int} (_ : 0 ≤ x) (h2 : 0 ≤ many) (h3 : many + (intBits x : Int) = N) (h4 : 0 < x) :
    0 ≤ x.fdiv (2 ^ Int.toNat 1) ∧ 0 ≤ many + 1 ∧ many + 1 + (intBits (x.fdiv (2 ^ Int.toNat 1)) : Int) = N := by
  have b := fdiv_pow_lt 1 (x := x) h4 (by decide)
  refine ⟨b.1, by omega, ?_⟩
  show many + 1 + (intBits (x.fdiv (2 ^ 1)) : Int) = N
  rcases (show x = 1 ∨ 2 ≤ x by omega) with rfl | q
  · have e1 : intBits ((1 : Int).fdiv (2 ^ 1)) = 0 := by decide
    have e2 : intBits (1 : Int) = 1 := by decide
    rw [e1]; rw [e2] at h3; omega
  · have a := wid_shift 1 (x := x) (by omega)
    omega
theorem wid_ms {x : Int} {k : Int} (hk : 0 < k.toNat) (h : 0 < x) : (x.fdiv (2 ^ k.toNat)).toNat < x.toNat := by
  have := fdiv_pow_lt k.toNat h hk; omega
theorem wid_end {x many N : Int} (h3 : many + (intBits x : Int) = N) (h1 : 0 ≤ x) (h4 : ¬ 0 < x) : many = N := by
  obtain rfl : x = 0 := by omega
  rw [wid_zero] at h3; omega
theorem wid_pos {x : Int} (h : 1 * 2 ^ Int.toNat 64 ≤ x) : 0 < x := by
  have : (2 : Int) ^ Int.toNat 64 = 18446744073709551616 := by decide
  omega

theorem spec_width (n : Int) (t : Tok) (h0 : 0 ≤ n) (hz : intBits n ≤ 20000) : Spec 1 21 [.int n t] [] (retI (intBits n : Int)) := by
  unfold Spec
  k_fill
  intro w pg loose mean mg mb dp un gd cn cs ad ccd cl outer A₀ base h₀ L fm news s Q E B F X N T hk hd hu hneed hret
  (k_with "exec While Compare cons nil" => k_while (fun _ x many => 0 ≤ x ∧ 0 ≤ many ∧ many + (intBits x : Int) = (intBits n : Int)) (fun _ x _ => x.toNat) "n" "many")
  (k_with "state" => first | exact wid_st64 (by assumption) (by assumption) (by assumption) (by assumption) | exact wid_st1 (by assumption) (by assumption) (by assumption) (by assumption) | exact ⟨h0, Int.le_refl 0, by omega⟩)
  (k_with "measure" => first | exact wid_ms (by decide) (by assumption) | exact wid_ms (by decide) (wid_pos (by assumption)))
  refine wpAny_call ?_
  k_dflt cell_enter
  k_steps
  all_goals (refine' retI_of hret ?_ ?F ?N ?ss; (case F => k_asm); (case N => k_asm); (case ss => (intro p9 hp9; repeat (first | exact hp9 | refine List.Mem.tail _ ?_))))
  exact wid_end (by assumption) (by assumption) (by assumption)

theorem spec_is_negative (b : Int) (t : Tok) (h0 : 0 ≤ b) (h1 : b < 18446744073709551616) : Spec 1 35 [.int b t] [] (retB (decide (9223372036854775808 ≤ b))) := by
  unfold Spec
  k_fill
  intro w pg loose mean mg mb dp un gd cn cs ad ccd cl outer A₀ base h₀ L fm news s Q E B F X N T hk hd hu hneed hret
  refine wpAny_call ?_
  k_dflt cell_enter
  k_steps
  all_goals (refine' retB_of hret ?_ ?F ?N ?ss; (case F => k_asm); (case N => k_asm); (case ss => (intro p9 hp9; repeat (first | exact hp9 | refine List.Mem.tail _ ?_))))
  show decide (b.fdiv (2 ^ 63) = 1) = _
  rw [fd (by decide)]
  exact decide_eq_decide.mpr (by omega)

theorem spec_is_nan (b : Int) (t : Tok) (h0 : 0 ≤ b) : Spec 1 42 [.int b t] [] (retB (decide (9218868437227405312 < b % 9223372036854775808))) := by
  unfold Spec
  k_fill
  intro w pg loose mean mg mb dp un gd cn cs ad ccd cl outer A₀ base h₀ L fm news s Q E B F X N T hk hd hu hneed hret
  refine wpAny_call ?_
  k_dflt cell_enter
  k_steps
  all_goals (refine' retB_of hret ?_ ?F ?N ?ss; (case F => k_asm); (case N => k_asm); (case ss => (intro p9 hp9; repeat (first | exact hp9 | refine List.Mem.tail _ ?_))))
  rw [show (9223372036854775808 - 1 : Int) = 2 ^ 63 - 1 by decide, bAnd_mask 63 h0]; rfl

theorem spec_is_inf (b : Int) (t : Tok) (h0 : 0 ≤ b) : Spec 1 49 [.int b t] [] (retB (decide (b % 9223372036854775808 = 9218868437227405312))) := by
  unfold Spec
  k_fill
  intro w pg loose mean mg mb dp un gd cn cs ad ccd cl outer A₀ base h₀ L fm news s Q E B F X N T hk hd hu hneed hret
  refine wpAny_call ?_
  k_dflt cell_enter
  k_steps
  all_goals (refine' retB_of hret ?_ ?F ?N ?ss; (case F => k_asm); (case N => k_asm); (case ss => (intro p9 hp9; repeat (first | exact hp9 | refine List.Mem.tail _ ?_))))
  rw [show (9223372036854775808 - 1 : Int) = 2 ^ 63 - 1 by decide, bAnd_mask 63 h0]; rfl

theorem spec_is_zero (b : Int) (t : Tok) (h0 : 0 ≤ b) : Spec 1 56 [.int b t] [] (retB (decide (b % 9223372036854775808 = 0))) := by
  unfold Spec
  k_fill
  intro w pg loose mean mg mb dp un gd cn cs ad ccd cl outer A₀ base h₀ L fm news s Q E B F X N T hk hd hu hneed hret
  refine wpAny_call ?_
  k_dflt cell_enter
  k_steps
  all_goals (refine' retB_of hret ?_ ?F ?N ?ss; (case F => k_asm); (case N => k_asm); (case ss => (intro p9 hp9; repeat (first | exact hp9 | refine List.Mem.tail _ ?_))))
  rw [show (9223372036854775808 - 1 : Int) = 2 ^ 63 - 1 by decide, bAnd_mask 63 h0]; rfl

theorem spec_parts (b : Int) (t : Tok) (h0 : 0 ≤ b) : Spec 1 70 [.int b t] [] (retT3 (.int (b / 9223372036854775808)) (.int (mant b)) (.int (powr b))) := by
  unfold Spec
  k_fill
  intro w pg loose mean mg mb dp un gd cn cs ad ccd cl outer A₀ base h₀ L fm news s Q E B F X N T hk hd hu hneed hret
  refine wpAny_call ?_
  k_dflt cell_enter
  k_steps
  all_goals (refine' retT3_of hret ?F ?N ?mm ?ss ?_ ?_ ?_; (case F => k_asm); (case N => k_asm); (case mm => k_mem); (case ss => (intro p9 hp9; repeat (first | exact hp9 | refine List.Mem.tail _ ?_))))
  all_goals (refine is_I ?_)
  · exact fd (by decide)
  · rename (Builtin.bitAnd _ _ = 0) => hx
    rw [parts_expo h0] at hx
    rw [parts_frac h0]; unfold mant; rw [if_pos hx]
  · rename (Builtin.bitAnd _ _ = 0) => hx
    rw [parts_expo h0] at hx
    unfold powr; rw [if_pos hx]
  · exact fd (by decide)
  · rename (Builtin.bitAnd _ _ ≠ 0) => hx
    rw [parts_expo h0] at hx
    rw [parts_frac h0]; unfold mant; rw [if_neg hx]
    have := frac_rng b
    rw [bOr_comm this.1 (by decide), show (4503599627370496 : Int) = 1 * 2 ^ 52 by decide, bOr_high 52 1 this.1 this.2 (by decide)]; omega
  · rename (Builtin.bitAnd _ _ ≠ 0) => hx
    rw [parts_expo h0] at hx ⊢
    unfold powr; rw [if_neg hx]

end Mine
end
section
open PySem PySem.W PyProof.Rows PySem.Calls PySem.Spec
namespace Mine
open PySem.Builtin.Int (intBits)

open PySem.Builtin.Int (intBits)
def qT (t p : Int) : Int := if 0 ≤ p then t else t * 2 ^ (-p).toNat
def qB (b p : Int) : Int := if 0 ≤ p then b * 2 ^ p.toNat else b
theorem pow_pos' (k : Nat) : (0 : Int) < 2 ^ k := Int.pow_pos (by decide)
theorem qB_pos {b p : Int} (h : 0 < b) : 0 < qB b p := by
  unfold qB; split
  · exact Int.mul_pos h (pow_pos' _)
  · exact h
theorem qB_size {b p : Int} (hz : intBits b ≤ 3000) (hp : p ≤ 2900) : intBits (b * 2 ^ p.toNat) ≤ 9000 :=
  Nat.le_trans (intBits_mul_le hz (intBits_pow_le (m := 2) (by decide) p.toNat)) (by have h9 : p.toNat ≤ 2900 := Int.toNat_le.mpr hp
                                                                                     generalize p.toNat = k at h9; omega)
theorem qT_nonneg {t p : Int} (h : 0 ≤ t) : 0 ≤ qT t p := by
  unfold qT; split
  · exact h
  · exact Int.mul_nonneg h (Int.le_of_lt (pow_pos' _))
theorem my_shl {a n : Int} (ha : intBits a ≤ 20000) (hn : n ≤ 100000) : (intBits a : Int) + n ≤ 2 ^ 27 := by
  have e : (2 : Int) ^ 27 = 134217728 := by decide
  rw [e]; omega
theorem lshift_lit {prog : Program} {w : World} {A : Around} {E : Value → Shared → Prop} {s : Shared} {a n v : Int} {t u : Tok} {Q : Value → Shared → Prop} (hn : 0 ≤ n) (ha : intBits a ≤ 20000) (hn' : n ≤ 100000) (e : a * 2 ^ n.toNat = v)
    (h : Q (.int v s.toks) { s with toks := s.toks + 1 }) : wpAny (model prog w) A (binaryOp .LShift (.int a t) (.int n u)) Q E s := by
  subst e; exact PyProof.Rows.lshift_int hn (my_shl ha hn') h
theorem noPy {a b : Int} (h : intBits b ≤ 9000) : Builtin.divisionGoesByPylong a b = false := by
  unfold Builtin.divisionGoesByPylong
  unfold intBits at h
  have : ¬ ((if (b == 0) = true then 0 else b.natAbs.log2 / 30 + 1) > 300) := by
    split
    · omega
    · rename_i hb
      rw [if_neg hb] at h
      have := Nat.div_le_div_right (c := 30) (show b.natAbs.log2 ≤ 8999 by omega)
      omega
  simp only [decide_eq_false this, Bool.false_and]
theorem floordiv_pos {prog : Program} {w : World} {A : Around} {E : Value → Shared → Prop} {s : Shared} {a b : Int} {t u : Tok} {Q : Value → Shared → Prop} (hb : 0 < b) (hz : intBits b ≤ 9000) (h : Q (.int (a / b) s.toks) { s with toks := s.toks + 1 }) :
    wpAny (model prog w) A (binaryOp .FloorDiv (.int a t) (.int b u)) Q E s := PyProof.Rows.floordiv_int (by omega) (by rw [fd (Int.le_of_lt hb)]; exact h) (Or.inl (noPy hz))
theorem mod_pos {prog : Program} {w : World} {A : Around} {E : Value → Shared → Prop} {s : Shared} {a b : Int} {t u : Tok} {Q : Value → Shared → Prop} (hb : 0 < b) (h : Q (.int (a % b) s.toks) { s with toks := s.toks + 1 }) :
    wpAny (model prog w) A (binaryOp .Mod (.int a t) (.int b u)) Q E s := PyProof.Rows.mod_int' (by omega) (by rw [fm (Int.le_of_lt hb)]; exact h)
theorem my_mul {a b : Int} (ha : intBits a ≤ 1000000) (hb : intBits b ≤ 1000000) : IntMulOk a b := IntMulOk.of_le ha hb (by decide)
theorem pack_val {e f : Int} (h0 : 0 ≤ e) (h2 : 0 ≤ f) (h3 : f < 4503599627370496) : Builtin.bitOr (Builtin.bitOr (0 * 2 ^ Int.toNat 63) (e * 2 ^ Int.toNat 52)) f = e * 4503599627370496 + f := by
  rw [Int.zero_mul, bOr_comm (Int.le_refl 0) (Int.mul_nonneg h0 (by decide))]
  have a := bOr_high 52 (x := 0) e (Int.le_refl 0) (by decide) h0
  rw [Int.add_zero] at a
  rw [show Builtin.bitOr (e * 2 ^ Int.toNat 52) 0 = e * 2 ^ 52 from a]
  exact bOr_high 52 e h2 h3 h0

theorem spec_pack (t1 : Tok) (e : Int) (t2 : Tok) (f : Int) (t3 : Tok) (h0 : 0 ≤ e) (h1 : e < 2047) (h2 : 0 ≤ f) (h3 : f < 4503599627370496) : Spec 1 28 [.int 0 t1, .int e t2, .int f t3] [] (retI (e * 4503599627370496 + f)) := by
  unfold Spec
  k_fill
  intro w pg loose mean mg mb dp un gd cn cs ad ccd cl outer A₀ base h₀ L fm news s Q E B F X N T hk hd hu hneed hret
  refine wpAny_call ?_
  k_dflt cell_enter
  k_steps
  all_goals (refine' retI_of hret ?_ ?F ?N ?ss; (case F => k_asm); (case N => k_asm); (case ss => (intro p9 hp9; repeat (first | exact hp9 | refine List.Mem.tail _ ?_))))
  exact pack_val h0 h2 h3

theorem spec_quotient (t : Int) (t1 : Tok) (b : Int) (t2 : Tok) (p : Int) (t3 : Tok) (h0 : 0 ≤ t) (h1 : 0 < b) (h2 : -1200 ≤ p) (h3 : p ≤ 2900) (hz1 : intBits t ≤ 3000) (hz2 : intBits b ≤ 3000) : Spec 1 77 [.int t t1, .int b t2, .int p t3] [] (retT3 (.int (qT t p / qB b p)) (.int (qT t p % qB b p)) (.int (qB b p))) := by
  unfold Spec
  k_fill
  intro w pg loose mean mg mb dp un gd cn cs ad ccd cl outer A₀ base h₀ L fm news s Q E B F X N T hk hd hu hneed hret
  have hp := Int.mul_pos h1 (pow_pos' p.toNat)
  have hzq := qB_size (p := p) hz2 h3
  have hq := Int.mul_nonneg h0 (Int.le_of_lt (pow_pos' (-p).toNat))
  refine wpAny_call ?_
  k_dflt cell_enter
  k_steps
  all_goals (refine' retT3_of hret ?F ?N ?mm ?ss ?_ ?_ ?_; (case F => k_asm); (case N => k_asm); (case mm => k_mem); (case ss => (intro p9 hp9; repeat (first | exact hp9 | refine List.Mem.tail _ ?_))))
  all_goals (refine is_I ?_)
  all_goals (simp only [qT, qB])
  all_goals first | (rename (0 ≤ p) => hx; simp only [if_pos hx]) | (rename (¬ 0 ≤ p) => hx; simp only [if_neg hx])
  all_goals rfl

def rrP (t b : Int) : Int := if -1074 > (intBits t : Int) - (intBits b : Int) - 53 then -1074 else (intBits t : Int) - (intBits b : Int) - 53
theorem rrP_rng (t b : Int) (hz1 : intBits t ≤ 2500) : -1074 ≤ rrP t b ∧ rrP t b ≤ 2500 := by
  unfold rrP; split <;> omega
def rrQ (t b : Int) : Int := if 9007199254740992 ≤ qT t (rrP t b) / qB b (rrP t b) then rrP t b + 1 else rrP t b
abbrev rrUp (t b p : Int) : Prop := qB b p < 2 * (qT t p % qB b p) ∨ (2 * (qT t p % qB b p) = qB b p ∧ qT t p / qB b p % 2 = 1)
def rrW (t b p : Int) : Int := qT t p / qB b p + (if rrUp t b p then 1 else 0)
def rr (t b : Int) : Int := (rrQ t b + 1074) * 4503599627370496 + rrW t b (rrQ t b)
structure RROk (t b : Int) : Prop where
  le : rrW t b (rrQ t b) ≤ 9007199254740992
  low : rrW t b (rrQ t b) < 4503599627370496 → rrQ t b = -1074
  fin : rr t b < 9218868437227405312

theorem spec_assembled (t1 : Tok) (x : Int) (t2 : Tok) (p : Int) (t3 : Tok) (h0 : 0 ≤ x) (h1 : x ≤ 9007199254740992) (h2 : -1074 ≤ p) (h3 : x < 4503599627370496 → p = -1074) (h4 : (p + 1074) * 4503599627370496 + x < 9218868437227405312) : Spec 2 91 [.int 0 t1, .int x t2, .int p t3] [] (retI ((p + 1074) * 4503599627370496 + x)) := by
  unfold Spec
  k_fill
  intro w pg loose mean mg mb dp un gd cn cs ad ccd cl outer A₀ base h₀ L fm news s Q E B F X N T hk hd hu hneed hret
  refine wpAny_call ?_
  k_dflt cell_enter
  k_steps
  all_goals (refine' retI_of hret ?_ ?F ?N ?ss; (case F => k_asm); (case N => k_asm); (case ss => (intro p9 hp9; repeat (first | exact hp9 | refine List.Mem.tail _ ?_))))
  · have e : x = 9007199254740992 := by assumption
    omega
  · rw [show Builtin.bitOr 0 x = x by rw [bOr_nat (by decide) h0]; simp; omega]; omega
  · omega

theorem rrW_a {t b p : Int} (h : qB b p < 2 * (qT t p % qB b p)) : qT t p / qB b p + 1 = rrW t b p := by
  unfold rrW; rw [if_pos (show rrUp t b p from Or.inl h)]
theorem rrW_b {t b p : Int} (h : 2 * (qT t p % qB b p) = qB b p) (h2 : qT t p / qB b p % 2 = 1) : qT t p / qB b p + 1 = rrW t b p := by
  unfold rrW; rw [if_pos (show rrUp t b p from Or.inr ⟨h, h2⟩)]
theorem rrW_c {t b p : Int} (h : ¬ qB b p < 2 * (qT t p % qB b p)) (h2 : ¬ qT t p / qB b p % 2 = 1) : qT t p / qB b p = rrW t b p := by
  unfold rrW; rw [if_neg (show ¬ rrUp t b p from fun q => q.elim h fun q => h2 q.2)]; omega
theorem rrW_d {t b p : Int} (h : ¬ qB b p < 2 * (qT t p % qB b p)) (h2 : ¬ 2 * (qT t p % qB b p) = qB b p) : qT t p / qB b p = rrW t b p := by
  unfold rrW; rw [if_neg (show ¬ rrUp t b p from fun q => q.elim h fun q => h2 q.1)]; omega
theorem spec_asm {t b x p : Int} {t1 t2 t3 : Tok} (ok : RROk t b) (h0 : 0 < t) (h1 : 0 < b) (hpr : -1074 ≤ rrP t b ∧ rrP t b ≤ 2500) (hp : p = rrQ t b) (hx : x = rrW t b p) : Spec 2 91 [.int 0 t1, .int x t2, .int p t3] [] (retI (rr t b)) := by
  have e : (p + 1074) * 4503599627370496 + x = rr t b := by rw [hx, hp]; rfl
  rw [← e]
  have q0 : 0 ≤ x := by
    rw [hx]; unfold rrW
    have := Int.ediv_nonneg (qT_nonneg (p := p) (Int.le_of_lt h0)) (Int.le_of_lt (qB_pos (p := p) h1))
    split <;> omega
  have q2 : -1074 ≤ p := by rw [hp]; unfold rrQ; split <;> omega
  exact spec_assembled _ _ _ _ _ q0 (by rw [hx, hp]; exact ok.le) q2 (fun h => hp.trans (ok.low (by rw [hx, hp] at h; exact h))) (by rw [e]; exact ok.fin)

theorem spec_round_ratio (t1 : Tok) (t : Int) (t2 : Tok) (b : Int) (t3 : Tok) (h0 : 0 < t) (h1 : 0 < b) (hz1 : intBits t ≤ 2500) (hz2 : intBits b ≤ 1500) (ok : RROk t b) : Spec 4 84 [.int 0 t1, .int t t2, .int b t3] [] (retI (rr t b)) := by
  unfold Spec
  k_fill
  intro w pg loose mean mg mb dp un gd cn cs ad ccd cl outer A₀ base h₀ L fm news s Q E B F X N T hk hd hu hneed hret
  have hpr := rrP_rng t b hz1
  unfold rrP at hpr
  refine wpAny_call ?_
  k_dflt cell_enter
  k_steps
  all_goals (refine' retI_of hret ?_ ?F ?N ?ss; (case F => k_asm); (case N => k_asm); (case ss => (intro p9 hp9; repeat (first | exact hp9 | refine List.Mem.tail _ ?_))))
  · exfalso; omega
  all_goals rfl

end Mine
end
section
open PySem PySem.W PyProof.Rows PySem.Calls PySem.Spec
namespace Mine
open PySem.Builtin.Int (intBits)

open PySem.Builtin.Int (intBits)
theorem p10_pos (k : Nat) : (0 : Int) < 10 ^ k := Int.pow_pos (by decide)
theorem p10_bits (k : Nat) : intBits ((10 : Int) ^ k) ≤ 4 * k + 1 := intBits_pow_le (m := 4) (by decide) k
theorem p10_sz {n : Int} (h : n ≤ 2000) : intBits ((10 : Int) ^ n.toNat) ≤ 1000000 := by
  have h9 : n.toNat ≤ 2000 := Int.toNat_le.mpr h
  have h8 := p10_bits n.toNat
  omega
theorem pow10 {prog : Program} {w : World} {A : Around} {E : Value → Shared → Prop} {s : Shared} {n : Int} {t u : Tok} {Q : Value → Shared → Prop} (h0 : 0 ≤ n) (h1 : n ≤ 2000) (h : Q (.int (10 ^ n.toNat) s.toks) { s with toks := s.toks + 1 }) :
    wpAny (model prog w) A (binaryOp .Pow (.int 10 t) (.int n u)) Q E s := PyProof.Rows.pow_int_small h0 (by omega) (by decide) h
theorem mul_line {prog : Program} {w : World} {A : Around} {E : Value → Shared → Prop} {s : Shared} {a b : Int} {t u : Tok} {Q : Value → Shared → Prop} (ha : intBits a ≤ 1000000) (hb : intBits b ≤ 1000000) (h : Q (.int (a * b) s.toks) { s with toks := s.toks + 1 }) :
    wpAny (model prog w) A (binaryOp .Mult (.int a t) (.int b u)) Q E s := PyProof.Rows.mul_int h (my_mul ha hb)
theorem dg_len_pow {n : Nat} (h : 0 < n) : 10 ^ ((dg n).length - 1) ≤ n ∧ n < 10 ^ (dg n).length := by
  unfold dg
  rw [List.length_map]
  have h1 : 0 < (Nat.toDigits 10 n).length := Nat.length_toDigits_pos
  refine ⟨?_, ?_⟩
  · rcases Nat.lt_or_ge n (10 ^ ((Nat.toDigits 10 n).length - 1)) with q | q
    · have hk : 0 < (Nat.toDigits 10 n).length - 1 := by
        rcases Nat.eq_zero_or_pos ((Nat.toDigits 10 n).length - 1) with z | z
        · rw [z] at q; omega
        · exact z
      have := (Nat.length_toDigits_le_iff (b := 10) (by decide) hk).mpr q
      omega
    · exact q
  · exact (Nat.length_toDigits_le_iff (b := 10) (by decide) h1).mp (Nat.le_refl _)
theorem dg_len_sz {x : Int} {k : Nat} (h0 : 0 < x) (hz : intBits x ≤ k) : (dg x.toNat).length ≤ k + 1 := by
  have h1 := (dg_len_pow (n := x.toNat) (by omega)).1
  have h2 : x.natAbs < 2 ^ k := intBits_le_iff.mp hz
  have h3 : x.natAbs = x.toNat := by omega
  rw [h3] at h2
  rcases Nat.lt_or_ge (k + 1) (dg x.toNat).length with q | q
  · exfalso
    have a : 10 ^ k ≤ 10 ^ ((dg x.toNat).length - 1) := Nat.pow_le_pow_right (by decide) (by omega)
    have b : 2 ^ k ≤ 10 ^ k := Nat.pow_le_pow_left (by decide) k
    omega
  · exact q

abbrev isEdge (m p : Int) : Prop := m = 4503599627370496 ∧ -1074 < p
def fac (m p : Int) : Int := if isEdge m p then 4 else 2
def abv (m p : Int) : Int := if isEdge m p then 2 else 1
def scN (m p : Int) : Int := m * fac m p * 2 ^ p.toNat
def scA (m p : Int) : Int := abv m p * 2 ^ p.toNat
def scB (_ p : Int) : Int := 2 ^ p.toNat
def scU (m p : Int) : Int := fac m p * 2 ^ (-p).toNat

theorem spec_scaled (x : Int) (t1 : Tok) (p : Int) (t2 : Tok) (h0 : 0 < x) (h1 : x < 9007199254740992) (h2 : -1074 ≤ p) (h3 : p ≤ 972) : Spec 1 105 [.int x t1, .int p t2] [] (retT4 (.int (scN x p)) (.int (scA x p)) (.int (scB x p)) (.int (scU x p))) := by
  unfold Spec
  k_fill
  intro w pg loose mean mg mb dp un gd cn cs ad ccd cl outer A₀ base h₀ L fm news s Q E B F X N T hk hd hu hneed hret
  have hb : ∀ k : Int, 0 ≤ k → k ≤ 8 → intBits (x * k) ≤ 20000 := fun k h5 h6 => Nat.le_trans (intBits_mul_le (intBits_le_iff.mpr (show x.natAbs < 2 ^ 53 by omega)) (intBits_le_iff.mpr (show k.natAbs < 2 ^ 4 by omega))) (by decide)
  have hb4 := hb 4 (by decide) (by decide)
  have hb2 := hb 2 (by decide) (by decide)
  clear hb
  refine wpAny_call ?_
  k_dflt cell_enter
  k_steps
  all_goals (refine' retT4_of hret ?F ?N ?mm ?ss ?_ ?_ ?_ ?_; (case F => k_asm); (case N => k_asm); (case mm => k_mem); (case ss => (intro p9 hp9; repeat (first | exact hp9 | refine List.Mem.tail _ ?_))))
  all_goals (refine is_I ?_)
  all_goals first
    | (exfalso; omega)
    | (have hE : isEdge x p := ⟨by assumption, by assumption⟩; simp only [scN, scA, scB, scU, fac, abv, if_pos hE])
    | (have hE : ¬ isEdge x p := fun h => absurd h.1 (by assumption); simp only [scN, scA, scB, scU, fac, abv, if_neg hE])
    | (have hE : ¬ isEdge x p := fun h => absurd h.2 (by assumption); simp only [scN, scA, scB, scU, fac, abv, if_neg hE])
  all_goals first
    | (have e : (-p).toNat = 0 := by omega
       simp only [e, Int.pow_zero, Int.mul_one, Int.one_mul]; done)
    | (have e : p.toNat = 0 := by omega
       have e2 : 0 - p = -p := by omega
       simp only [e, e2, Int.pow_zero, Int.mul_one, Int.one_mul]; done)
    | (simp only [Int.one_mul]; done)

def dlen (x : Int) : Int := ((dg x.toNat).length : Nat)
def dfnd (x y : Int) : Int := dlen x - dlen y
def dplace (x y : Int) : Int := if 0 ≤ dfnd x y ∧ y * 10 ^ (dfnd x y).toNat ≤ x then dfnd x y + 1 else if dfnd x y < 0 ∧ y ≤ x * 10 ^ (0 - dfnd x y).toNat then dfnd x y + 1 else dfnd x y
theorem dplace_1 {x y : Int} (h1 : 0 ≤ dfnd x y) (h2 : y * 10 ^ (dfnd x y).toNat ≤ x) : dfnd x y + 1 = dplace x y := by simp [dplace, h1, h2]
theorem dplace_2 {x y : Int} (h1 : 0 ≤ dfnd x y) (h2 : ¬ y * 10 ^ (dfnd x y).toNat ≤ x) : dfnd x y = dplace x y := by simp [dplace, h1, h2, show ¬ dfnd x y < 0 by omega]
theorem dplace_3 {x y : Int} (h1 : ¬ 0 ≤ dfnd x y) (h2 : y ≤ x * 10 ^ (0 - dfnd x y).toNat) : dfnd x y + 1 = dplace x y := by unfold dplace; rw [if_neg (fun h => h1 h.1), if_pos ⟨by omega, h2⟩]
theorem dplace_4 {x y : Int} (h1 : ¬ 0 ≤ dfnd x y) (h2 : ¬ y ≤ x * 10 ^ (0 - dfnd x y).toNat) : dfnd x y = dplace x y := by unfold dplace; rw [if_neg (fun h => h1 h.1), if_neg (fun h => h2 h.2)]

theorem spec_decimal_place (x : Int) (t1 : Tok) (y : Int) (t2 : Tok) (h0 : 0 < x) (h1 : 0 < y) (hz1 : intBits x ≤ 1100) (hz2 : intBits y ≤ 1100) : Spec 1 112 [.int x t1, .int y t2] [] (retI (dplace x y)) := by
  unfold Spec
  k_fill
  intro w pg loose mean mg mb dp un gd cn cs ad ccd cl outer A₀ base h₀ L fm news s Q E B F X N T hk hd hu hneed hret
  have hl1 := dg_len_sz h0 hz1
  have hl2 := dg_len_sz h1 hz2
  refine wpAny_call ?_
  k_dflt cell_enter
  k_steps
  all_goals (refine' retI_of hret ?_ ?F ?N ?ss; (case F => k_asm); (case N => k_asm); (case ss => (intro p9 hp9; repeat (first | exact hp9 | refine List.Mem.tail _ ?_))))
  all_goals first | exact dplace_1 (by assumption) (by assumption) | exact dplace_2 (by assumption) (by assumption) | exact dplace_3 (by assumption) (by assumption) | exact dplace_4 (by assumption) (by assumption)

theorem dplace_rng {x y : Int} (h0 : 0 < x) (h1 : 0 < y) (hz1 : intBits x ≤ 1100) (hz2 : intBits y ≤ 1100) : -1102 ≤ dplace x y ∧ dplace x y ≤ 1102 := by
  have hl1 := dg_len_sz h0 hz1
  have hl2 := dg_len_sz h1 hz2
  have : -1101 ≤ dfnd x y ∧ dfnd x y ≤ 1101 := by unfold dfnd dlen; omega
  unfold dplace; split
  · omega
  · split <;> omega
def fEdge (n a u : Int) : Int := if 0 ≤ dplace n u then n + a else (n + a) * 10 ^ (0 - dplace n u).toNat
def fLim (n u : Int) : Int := if 0 ≤ dplace n u then u * 10 ^ (dplace n u).toNat else u
def fplace (n a u : Int) (ev : Bool) : Int := if fLim n u < fEdge n a u ∨ (ev = true ∧ fEdge n a u = fLim n u) then dplace n u + 1 else dplace n u
theorem fplace_1 {n a u : Int} {ev : Bool} (h1 : 0 ≤ dplace n u) (h2 : u * 10 ^ (dplace n u).toNat < n + a) : dplace n u + 1 = fplace n a u ev := by simp [fplace, fEdge, fLim, h1, h2]
theorem fplace_2 {n a u : Int} {ev : Bool} (h1 : 0 ≤ dplace n u) (h2 : ¬ u * 10 ^ (dplace n u).toNat < n + a) (h3 : ev = true) (h4 : n + a = u * 10 ^ (dplace n u).toNat) : dplace n u + 1 = fplace n a u ev := by simp [fplace, fEdge, fLim, h1, h3, h4]
theorem fplace_3 {n a u : Int} {ev : Bool} (h1 : 0 ≤ dplace n u) (h2 : ¬ u * 10 ^ (dplace n u).toNat < n + a) (h4 : n + a ≠ u * 10 ^ (dplace n u).toNat) : dplace n u = fplace n a u ev := by simp [fplace, fEdge, fLim, h1, h2, h4]
theorem fplace_4 {n a u : Int} {ev : Bool} (h1 : 0 ≤ dplace n u) (h2 : ¬ u * 10 ^ (dplace n u).toNat < n + a) (h4 : ev = false) : dplace n u = fplace n a u ev := by simp [fplace, fEdge, fLim, h1, h2, h4]
theorem fplace_5 {n a u : Int} {ev : Bool} (h1 : ¬ 0 ≤ dplace n u) (h2 : u < (n + a) * 10 ^ (0 - dplace n u).toNat) : dplace n u + 1 = fplace n a u ev := by unfold fplace fEdge fLim; rw [if_neg h1, if_neg h1, if_pos (Or.inl h2)]
theorem fplace_6 {n a u : Int} {ev : Bool} (h1 : ¬ 0 ≤ dplace n u) (h2 : ¬ u < (n + a) * 10 ^ (0 - dplace n u).toNat) (h3 : ev = true) (h4 : (n + a) * 10 ^ (0 - dplace n u).toNat = u) : dplace n u + 1 = fplace n a u ev := by unfold fplace fEdge fLim; rw [if_neg h1, if_neg h1, if_pos (Or.inr ⟨h3, h4⟩)]
theorem fplace_7 {n a u : Int} {ev : Bool} (h1 : ¬ 0 ≤ dplace n u) (h2 : ¬ u < (n + a) * 10 ^ (0 - dplace n u).toNat) (h4 : (n + a) * 10 ^ (0 - dplace n u).toNat ≠ u) : dplace n u = fplace n a u ev := by unfold fplace fEdge fLim; rw [if_neg h1, if_neg h1, if_neg (fun h => h.elim h2 fun q => h4 q.2)]
theorem fplace_8 {n a u : Int} {ev : Bool} (h1 : ¬ 0 ≤ dplace n u) (h2 : ¬ u < (n + a) * 10 ^ (0 - dplace n u).toNat) (h4 : ev = false) : dplace n u = fplace n a u ev := by unfold fplace fEdge fLim; rw [if_neg h1, if_neg h1, if_neg (fun h => h.elim h2 fun q => by rw [h4] at q; exact absurd q.1 (by decide))]
def lastf (f r u : Int) (lo hi : Bool) : Int := if lo = true ∧ hi = true then (if 2 * r = u then f + f % 2 else f + (if u < 2 * r then 1 else 0)) else f + (if hi = true then 1 else 0)
theorem lastf_1 {f r u : Int} {lo hi : Bool} (h1 : lo = true) (h2 : hi = true) (h3 : 2 * r = u) : f + f % 2 = lastf f r u lo hi := by simp [lastf, h1, h2, h3]
theorem lastf_2 {f r u : Int} {lo hi : Bool} (h1 : lo = true) (h2 : hi = true) (h3 : 2 * r ≠ u) : (f + if decide (u < 2 * r) = true then 1 else 0) = lastf f r u lo hi := by simp [lastf, h1, h2, h3]
theorem lastf_3 {f r u : Int} {lo hi : Bool} (h2 : hi = false) : (f + if hi = true then 1 else 0) = lastf f r u lo hi := by simp [lastf, h2]
theorem lastf_4 {f r u : Int} {lo hi : Bool} (h2 : lo = false) : (f + if hi = true then 1 else 0) = lastf f r u lo hi := by simp [lastf, h2]

theorem spec_first_place (x : Int) (t1 : Tok) (a : Int) (t2 : Tok) (y : Int) (t3 : Tok) (ev : Bool) (h0 : 0 < x) (h1 : 0 < y) (hz1 : intBits x ≤ 1100) (hz2 : intBits y ≤ 1100) (hz3 : intBits a ≤ 1100) : Spec 2 119 [.int x t1, .int a t2, .int y t3, .bool ev] [] (retI (fplace x a y ev)) := by
  unfold Spec
  k_fill
  intro w pg loose mean mg mb dp un gd cn cs ad ccd cl outer A₀ base h₀ L fm news s Q E B F X N T hk hd hu hneed hret
  have hr := dplace_rng h0 h1 hz1 hz2
  have hze := intBits_add_le hz1 hz3
  have hze2 : intBits (x + a) ≤ 1000000 := Nat.le_trans hze (by decide)
  clear hze
  refine wpAny_call ?_
  k_dflt cell_enter
  k_steps
  all_goals (refine' retI_of hret ?_ ?F ?N ?ss; (case F => k_asm); (case N => k_asm); (case ss => (intro p9 hp9; repeat (first | exact hp9 | refine List.Mem.tail _ ?_))))
  all_goals first | exact fplace_1 (by assumption) (by assumption) | exact fplace_2 (by assumption) (by assumption) (by assumption) (by assumption) | exact fplace_3 (by assumption) (by assumption) (by assumption) | exact fplace_4 (by assumption) (by assumption) (by assumption) | exact fplace_5 (by assumption) (by assumption) | exact fplace_6 (by assumption) (by assumption) (by assumption) (by assumption) | exact fplace_7 (by assumption) (by assumption) (by assumption) | exact fplace_8 (by assumption) (by assumption) (by assumption)

theorem spec_last_figure (f : Int) (t1 : Tok) (r : Int) (t2 : Tok) (u : Int) (t3 : Tok) (lo : Bool) (hi : Bool) (hz1 : intBits r ≤ 10000) : Spec 1 133 [.int f t1, .int r t2, .int u t3, .bool lo, .bool hi] [] (retI (lastf f r u lo hi)) := by
  unfold Spec
  k_fill
  intro w pg loose mean mg mb dp un gd cn cs ad ccd cl outer A₀ base h₀ L fm news s Q E B F X N T hk hd hu hneed hret
  refine wpAny_call ?_
  k_dflt cell_enter
  k_steps
  all_goals (refine' retI_of hret ?_ ?F ?N ?ss; (case F => k_asm); (case N => k_asm); (case ss => (intro p9 hp9; repeat (first | exact hp9 | refine List.Mem.tail _ ?_))))
  all_goals first | exact lastf_1 (by assumption) (by assumption) (by assumption) | exact lastf_2 (by assumption) (by assumption) (by assumption) | exact lastf_3 (by assumption) | exact lastf_4 (by assumption)

end Mine
end
section
open PySem PySem.W PyProof.Rows PySem.Calls PySem.Spec
namespace Mine
open PySem.Builtin.Int (intBits)
theorem pow_shift (d : Int) : ∃ c : Int, (c = 10 ∨ c = 1) ∧ (10 : Int) ^ (0 - (d + 1)).toNat * 10 = c * 10 ^ (0 - d).toNat ∧ (10 : Int) ^ (d + 1).toNat = c * 10 ^ d.toNat := by
  rcases (show d < 0 ∨ 0 ≤ d by omega) with h | h
  · refine ⟨1, .inr rfl, ?_, ?_⟩
    · rw [show (0 - d).toNat = (0 - (d + 1)).toNat + 1 by omega, Int.pow_succ]; omega
    · rw [show (d + 1).toNat = 0 by omega, show d.toNat = 0 by omega]; rfl
  · refine ⟨10, .inl rfl, ?_, ?_⟩
    · rw [show (0 - d).toNat = 0 by omega, show (0 - (d + 1)).toNat = 0 by omega]; rfl
    · rw [show (d + 1).toNat = d.toNat + 1 by omega, Int.pow_succ]; omega
theorem dlen_facts {x : Int} (h : 0 < x) : 1 ≤ dlen x ∧ x < 10 ^ (dlen x).toNat ∧ 10 ^ (dlen x).toNat ≤ x * 10 := by
  obtain ⟨n, rfl⟩ := Int.eq_ofNat_of_zero_le (Int.le_of_lt h)
  have hn : 0 < n := by omega
  obtain ⟨a, b⟩ := dg_len_pow hn
  have e : (dlen (n : Int)).toNat = (dg n).length := by unfold dlen; simp
  rw [e]
  have hl : 0 < (dg n).length := by
    rcases Nat.eq_zero_or_pos (dg n).length with z | z
    · rw [z] at b; simp at b; omega
    · exact z
  refine ⟨by unfold dlen; simp; omega, ?_, ?_⟩
  · have : ((n : Nat) : Int) < ((10 ^ (dg n).length : Nat) : Int) := by omega
    simpa using this
  · have h2 : 10 ^ (dg n).length ≤ n * 10 := by
      have : 10 ^ (dg n).length = 10 ^ ((dg n).length - 1) * 10 := by rw [← Nat.pow_succ]; congr 1; omega
      omega
    have : (((10 ^ (dg n).length : Nat)) : Int) ≤ ((n * 10 : Nat) : Int) := by omega
    simpa using this
theorem p10_add (a b : Nat) : (10 : Int) ^ (a + b) = 10 ^ a * 10 ^ b := Int.pow_add ..
/-- the place: 10^(d-1) ≤ n/u < 10^d -/
theorem dplace_facts {n u : Int} (hn : 0 < n) (hu : 0 < u) : n * 10 ^ (0 - dplace n u).toNat < u * 10 ^ (dplace n u).toNat ∧ u * 10 ^ (dplace n u).toNat ≤ n * 10 ^ (0 - dplace n u).toNat * 10 := by
  obtain ⟨n1, n2, n3⟩ := dlen_facts hn
  obtain ⟨u1, u2, u3⟩ := dlen_facts hu
  have key : n * 10 ^ (0 - dfnd n u).toNat < u * 10 ^ (dfnd n u).toNat * 10 ∧ u * 10 ^ (dfnd n u).toNat < n * 10 ^ (0 - dfnd n u).toNat * 10 := by
    have hc : (10 : Int) ^ (dlen n).toNat * 10 ^ (0 - dfnd n u).toNat = 10 ^ (dlen u).toNat * 10 ^ (dfnd n u).toNat := by
      rw [← p10_add, ← p10_add]; congr 1; unfold dfnd; omega
    have p1 := p10_pos (0 - dfnd n u).toNat
    have p2 := p10_pos (dfnd n u).toNat
    have a1 := Int.mul_lt_mul_of_pos_right n2 p1
    have a2 := Int.mul_le_mul_of_nonneg_right u3 (Int.le_of_lt p2)
    have a3 := Int.mul_lt_mul_of_pos_right u2 p2
    have a4 := Int.mul_le_mul_of_nonneg_right n3 (Int.le_of_lt p1)
    have e1 : u * 10 * 10 ^ (dfnd n u).toNat = u * 10 ^ (dfnd n u).toNat * 10 := by rw [Int.mul_assoc, Int.mul_assoc, Int.mul_comm 10]
    have e2 : n * 10 * 10 ^ (0 - dfnd n u).toNat = n * 10 ^ (0 - dfnd n u).toNat * 10 := by rw [Int.mul_assoc, Int.mul_assoc, Int.mul_comm 10]
    rw [e1] at a2; rw [e2] at a4
    constructor <;> omega
  obtain ⟨c, hc, s1, s2⟩ := pow_shift (dfnd n u)
  have up : ∀ k : Int, (k = dfnd n u + 1 → u * 10 ^ (dfnd n u).toNat ≤ n * 10 ^ (0 - dfnd n u).toNat → n * 10 ^ (0 - k).toNat < u * 10 ^ k.toNat ∧ u * 10 ^ k.toNat ≤ n * 10 ^ (0 - k).toNat * 10) := by
    intro k hk hle
    subst hk
    rw [s2]
    have e1 : n * 10 ^ (0 - (dfnd n u + 1)).toNat * 10 = c * (n * 10 ^ (0 - dfnd n u).toNat) := by rw [Int.mul_assoc, s1, ← Int.mul_assoc, Int.mul_comm n c, Int.mul_assoc]
    have e2 : u * (c * 10 ^ (dfnd n u).toNat) = c * (u * 10 ^ (dfnd n u).toNat) := by rw [← Int.mul_assoc, Int.mul_comm u c, Int.mul_assoc]
    rw [e2]
    generalize n * 10 ^ (0 - (dfnd n u + 1)).toNat = X at e1 ⊢
    generalize n * 10 ^ (0 - dfnd n u).toNat = Y at *
    generalize u * 10 ^ (dfnd n u).toNat = Z at *
    rcases hc with rfl | rfl <;> omega
  have down : (¬ u * 10 ^ (dfnd n u).toNat ≤ n * 10 ^ (0 - dfnd n u).toNat) → n * 10 ^ (0 - dfnd n u).toNat < u * 10 ^ (dfnd n u).toNat ∧ u * 10 ^ (dfnd n u).toNat ≤ n * 10 ^ (0 - dfnd n u).toNat * 10 := fun h => ⟨by omega, by omega⟩
  unfold dplace
  split
  · rename_i h
    refine up _ rfl ?_
    rw [show (0 - dfnd n u).toNat = 0 by omega]; simpa using h.2
  · rename_i h
    split
    · rename_i h'
      refine up _ rfl ?_
      rw [show (dfnd n u).toNat = 0 by omega]; simpa using h'.2
    · rename_i h'
      refine down fun hh => ?_
      rcases (show dfnd n u < 0 ∨ 0 ≤ dfnd n u by omega) with q | q
      · refine h' ⟨q, ?_⟩
        rw [show (dfnd n u).toNat = 0 by omega] at hh; simpa using hh
      · refine h ⟨q, ?_⟩
        rw [show (0 - dfnd n u).toNat = 0 by omega] at hh; simpa using hh
theorem fEdge_eq {n a u : Int} : fEdge n a u = (n + a) * 10 ^ (0 - dplace n u).toNat := by
  unfold fEdge; split
  · rename_i h; rw [show (0 - dplace n u).toNat = 0 by omega]; simp
  · rfl
theorem fLim_eq {n u : Int} : fLim n u = u * 10 ^ (dplace n u).toNat := by
  unfold fLim; split
  · rfl
  · rename_i h; rw [show (dplace n u).toNat = 0 by omega]; simp
structure PlF (n a u p : Int) (ev : Bool) : Prop where
  le : n * 10 ^ (0 - p).toNat + a * 10 ^ (0 - p).toNat ≤ u * 10 ^ p.toNat
  ne : ¬ (ev = true ∧ n * 10 ^ (0 - p).toNat + a * 10 ^ (0 - p).toNat = u * 10 ^ p.toNat)
  gt : u * 10 ^ p.toNat < 10 * (n * 10 ^ (0 - p).toNat + a * 10 ^ (0 - p).toNat) ∨ (ev = true ∧ u * 10 ^ p.toNat = 10 * (n * 10 ^ (0 - p).toNat + a * 10 ^ (0 - p).toNat))
theorem fp_arith {N A U N1 A1 U1 c : Int} {ev : Bool} (hc : c = 10 ∨ c = 1) (e1 : N1 * 10 = c * N) (e3 : A1 * 10 = c * A) (e2 : U1 = c * U) (d1 : N < U) (d2 : U ≤ N * 10) (q1 : 2 * A ≤ N) (q2 : 0 < A) (h : U < N + A ∨ (ev = true ∧ N + A = U)) :
    N1 + A1 ≤ U1 ∧ ¬ (ev = true ∧ N1 + A1 = U1) ∧ (U1 < 10 * (N1 + A1) ∨ (ev = true ∧ U1 = 10 * (N1 + A1))) := by
  rcases hc with rfl | rfl
  · refine ⟨by omega, fun q => by omega, ?_⟩
    rcases h with h | ⟨he, h⟩
    · left; omega
    · right; exact ⟨he, by omega⟩
  · refine ⟨by omega, fun q => by omega, ?_⟩
    rcases h with h | ⟨he, h⟩
    · left; omega
    · right; exact ⟨he, by omega⟩
theorem fplace_facts {n a u : Int} {ev : Bool} (hn : 0 < n) (hu : 0 < u) (ha : 0 < a) (hna : 2 * a ≤ n) : PlF n a u (fplace n a u ev) ev := by
  obtain ⟨d1, d2⟩ := dplace_facts hn hu
  have hp := p10_pos (0 - dplace n u).toNat
  have q1 := Int.mul_le_mul_of_nonneg_right hna (Int.le_of_lt hp)
  have q2 := Int.mul_pos ha hp
  have e0 : 2 * a * 10 ^ (0 - dplace n u).toNat = 2 * (a * 10 ^ (0 - dplace n u).toNat) := Int.mul_assoc ..
  rw [e0] at q1
  obtain ⟨c, hc, s1, s2⟩ := pow_shift (dplace n u)
  unfold fplace
  rw [fEdge_eq, fLim_eq, Int.add_mul]
  split
  · rename_i h
    have e1 : n * 10 ^ (0 - (dplace n u + 1)).toNat * 10 = c * (n * 10 ^ (0 - dplace n u).toNat) := by rw [Int.mul_assoc, s1, ← Int.mul_assoc, Int.mul_comm n c, Int.mul_assoc]
    have e2 : u * 10 ^ (dplace n u + 1).toNat = c * (u * 10 ^ (dplace n u).toNat) := by rw [s2, ← Int.mul_assoc, Int.mul_comm u c, Int.mul_assoc]
    have e3 : a * 10 ^ (0 - (dplace n u + 1)).toNat * 10 = c * (a * 10 ^ (0 - dplace n u).toNat) := by rw [Int.mul_assoc, s1, ← Int.mul_assoc, Int.mul_comm a c, Int.mul_assoc]
    obtain ⟨k1, k2, k3⟩ := fp_arith hc e1 e3 e2 d1 d2 q1 q2 h
    exact ⟨k1, k2, k3⟩
  · rename_i h
    refine ⟨?_, fun q => h (Or.inr q), Or.inl ?_⟩
    · rcases Int.lt_or_le (u * 10 ^ (dplace n u).toNat) (n * 10 ^ (0 - dplace n u).toNat + a * 10 ^ (0 - dplace n u).toNat) with q | q
      · exact absurd (Or.inl q) h
      · exact q
    · omega
end Mine
end
section
open PySem PySem.W PyProof.Rows PySem.Calls PySem.Spec
namespace Mine
open PySem.Builtin.Int (intBits)

open PySem.Builtin.Int (intBits)
theorem p2_bits (k : Nat) : intBits ((2 : Int) ^ k) ≤ k + 1 := intBits_le_iff.mpr (by
  rw [Int.natAbs_pow]; exact Nat.pow_lt_pow_right (by decide) (by omega))
structure ScF (m p : Int) : Prop where
  n0 : 0 < scN m p
  a0 : 0 < scA m p
  b0 : 0 < scB m p
  u0 : 0 < scU m p
  nz : intBits (scN m p) ≤ 1100
  az : intBits (scA m p) ≤ 1100
  bz : intBits (scB m p) ≤ 1100
  uz : intBits (scU m p) ≤ 1100
theorem sc_facts {m p : Int} (h0 : 0 < m) (h1 : m < 2 ^ 53) (h2 : -1074 ≤ p) (h3 : p ≤ 971) : ScF m p := by
  have hf : (fac m p = 4 ∨ fac m p = 2) ∧ (abv m p = 2 ∨ abv m p = 1) := by unfold fac abv; split <;> omega
  have z1 : intBits (fac m p) ≤ 3 := by rcases hf.1 with e | e <;> rw [e] <;> decide
  have z2 : intBits (abv m p) ≤ 2 := by rcases hf.2 with e | e <;> rw [e] <;> decide
  have zm : intBits m ≤ 53 := intBits_le_iff.mpr (show m.natAbs < 2 ^ 53 by omega)
  have b1 := p2_bits p.toNat
  have b2 := p2_bits (-p).toNat
  have k1 : p.toNat ≤ 971 := Int.toNat_le.mpr h3
  have k2 : (-p).toNat ≤ 1074 := Int.toNat_le.mpr (by omega)
  have q1 := pow_pos' p.toNat
  have q2 := pow_pos' (-p).toNat
  refine ⟨?_, ?_, q1, ?_, ?_, ?_, ?_, ?_⟩
  · exact Int.mul_pos (Int.mul_pos h0 (by omega)) q1
  · exact Int.mul_pos (by omega) q1
  · exact Int.mul_pos (by omega) q2
  · have := intBits_mul_le (intBits_mul_le zm z1) b1; exact Nat.le_trans this (by omega)
  · have := intBits_mul_le z2 b1; exact Nat.le_trans this (by omega)
  · exact Nat.le_trans b1 (by omega)
  · have := intBits_mul_le z1 b2; exact Nat.le_trans this (by omega)
def gD (n u : Int) : Int := n * 10 / u
def gR (n u : Int) : Int := n * 10 % u
def gLo (n b u : Int) (ev : Bool) : Bool := decide (gR n u < b * 10) || (ev && decide (gR n u = b * 10))
def gHi (n a u : Int) (ev : Bool) : Bool := decide (u < gR n u + a * 10) || (ev && decide (gR n u + a * 10 = u))
inductive Gen (u : Int) (ev : Bool) : Int → Int → Int → List Int → Prop
  | stop {n a b : Int} (h : gLo n b u ev = true ∨ gHi n a u ev = true) : Gen u ev n a b [lastf (gD n u) (gR n u) u (gLo n b u ev) (gHi n a u ev)]
  | step {n a b : Int} {ds : List Int} (h1 : gLo n b u ev = false) (h2 : gHi n a u ev = false) (h : Gen u ev (gR n u) (a * 10) (b * 10) ds) : Gen u ev n a b (gD n u :: ds)
theorem Gen.det {u : Int} {ev : Bool} : ∀ {ds es : List Int} {n a b : Int}, Gen u ev n a b ds → Gen u ev n a b es → ds = es := by
  intro ds es n a b h
  induction h generalizing es with
  | stop h => intro k; cases k with
    | stop _ => rfl
    | step h1 h2 _ => rcases h with q | q <;> simp_all
  | step h1 h2 h ih => intro k; cases k with
    | stop q => rcases q with q | q <;> simp_all
    | step _ _ k => rw [ih k]
def evB (b : Int) : Bool := mant b % 2 == 0
def plB (b : Int) : Int := fplace (scN (mant b) (powr b)) (scA (mant b) (powr b)) (scU (mant b) (powr b)) (evB b)
theorem fplace_rng {n a u : Int} {ev : Bool} (h0 : 0 < n) (h1 : 0 < u) (hz1 : intBits n ≤ 1100) (hz2 : intBits u ≤ 1100) : -1103 ≤ fplace n a u ev ∧ fplace n a u ev ≤ 1103 := by
  have := dplace_rng h0 h1 hz1 hz2
  unfold fplace; split <;> omega
theorem plB_rng {b : Int} (h0 : 0 < mant b) (h1 : mant b < 2 ^ 53) (h2 : -1074 ≤ powr b) (h3 : powr b ≤ 971) : -1103 ≤ plB b ∧ plB b ≤ 1103 :=
  let F := sc_facts h0 h1 h2 h3
  fplace_rng F.n0 F.u0 F.nz F.uz
def nuB (b : Int) : Int := scN (mant b) (powr b) * 10 ^ (0 - plB b).toNat
def abB (b : Int) : Int := scA (mant b) (powr b) * 10 ^ (0 - plB b).toNat
def beB (b : Int) : Int := scB (mant b) (powr b) * 10 ^ (0 - plB b).toNat
def unB (b : Int) : Int := scU (mant b) (powr b) * 10 ^ (plB b).toNat
def GenB (b : Int) (ds : List Int) : Prop := Gen (unB b) (evB b) (nuB b) (abB b) (beB b) ds
def sgn (ds : List Int) : List Nat := ds.map fun d => d.toNat + 48
structure FinB (b : Int) : Prop where
  h0 : 0 ≤ b
  h1 : b < 18446744073709551616
  m0 : 0 < mant b
  p1 : powr b ≤ 971

def one (d : Int) : Str := sOf [d.toNat + 48]
structure LInv (b u : Int) (found : List Value) (n a bl : Int) : Prop where
  hu : u = unB b
  u0 : 0 < u
  uz : intBits u ≤ 9000
  n0 : 0 ≤ n
  na : n + a ≤ u
  ne : ¬ (evB b = true ∧ n + a = u)
  a0 : 0 < a
  b0 : 0 < bl
  ba : bl ≤ a
  fr : ∃ front : List Int, StrsAre found (front.map one) ∧ (∀ ds, Gen u (evB b) n a bl ds → GenB b (front ++ ds)) ∧ (10 : Int) ^ front.length ≤ a

theorem dg_one : ∀ d : Nat, d < 10 → dg d = [d + 48] := by decide
theorem one_of {d : Int} (h0 : 0 ≤ d) (h9 : d ≤ 9) : sOf (dg d.toNat) = one d := by
  unfold one; rw [dg_one d.toNat (by omega)]
theorem gen_arith {n u : Int} (hu : 0 < u) (h0 : 0 ≤ n) (h1 : n < u) : 0 ≤ n * 10 / u ∧ n * 10 / u ≤ 9 ∧ 0 ≤ n * 10 % u ∧ n * 10 % u < u ∧ n * 10 / u * u + n * 10 % u = n * 10 := by
  have a1 := Int.ediv_nonneg (a := n * 10) (b := u) (by omega) (Int.le_of_lt hu)
  have a2 := Int.emod_nonneg (n * 10) (show u ≠ 0 by omega)
  have a3 := Int.emod_lt_of_pos (n * 10) hu
  have a4 := Int.mul_ediv_add_emod (n * 10) u
  have a5 : n * 10 / u < 10 := Int.ediv_lt_of_lt_mul hu (by omega)
  refine ⟨a1, by omega, a2, a3, ?_⟩
  rw [Int.mul_comm]; exact a4
theorem LInv.lt {b u : Int} {f : List Value} {n a bl : Int} (I : LInv b u f n a bl) : n < u := by have := I.na; have := I.a0; omega
theorem LInv.ar {b u : Int} {f : List Value} {n a bl : Int} (I : LInv b u f n a bl) : 0 ≤ n * 10 / u ∧ n * 10 / u ≤ 9 ∧ 0 ≤ n * 10 % u ∧ n * 10 % u < u ∧ n * 10 / u * u + n * 10 % u = n * 10 := gen_arith I.u0 I.n0 I.lt
theorem bits_le_of {x y : Int} {k : Nat} (h0 : 0 ≤ x) (h : x ≤ y) (hz : intBits y ≤ k) : intBits x ≤ k := intBits_le_of_natAbs (by omega) hz
theorem linv_sz {b u : Int} {f : List Value} {n a bl : Int} (I : LInv b u f n a bl) : intBits n ≤ 9000 ∧ intBits a ≤ 9000 ∧ intBits bl ≤ 9000 := by
  have h1 := I.na; have h2 := I.a0; have h3 := I.n0; have h4 := I.ba; have h5 := I.b0
  exact ⟨bits_le_of h3 (by omega) I.uz, bits_le_of (by omega) (by omega) I.uz, bits_le_of (by omega) (by omega : bl ≤ u) I.uz⟩
theorem bits_dig {x : Int} (h0 : 0 ≤ x) (h : x ≤ 100) : intBits x ≤ 1900 := bits_le_of h0 h (by decide)
theorem linv_dig {b u : Int} {f : List Value} {n a bl : Int} (I : LInv b u f n a bl) : 0 ≤ n * 10 / u ∧ intBits (n * 10 / u) ≤ 1900 ∧ 0 ≤ n * 10 % u ∧ intBits (n * 10 % u) ≤ 9000 := by
  obtain ⟨a1, a2, a3, a4, _⟩ := I.ar
  exact ⟨a1, bits_dig a1 (by omega), a3, bits_le_of a3 (Int.le_of_lt a4) I.uz⟩
theorem lastf_rng (f r u : Int) (lo hi : Bool) (h : 0 ≤ f) : 0 ≤ lastf f r u lo hi ∧ lastf f r u lo hi ≤ f + 1 := by
  unfold lastf; (repeat' split) <;> omega
theorem linv_last {b u : Int} {f : List Value} {n a bl : Int} (I : LInv b u f n a bl) : ∀ lo hi, 0 ≤ lastf (n * 10 / u) (n * 10 % u) u lo hi ∧ intBits (lastf (n * 10 / u) (n * 10 % u) u lo hi) ≤ 1900 := fun lo hi => by
  obtain ⟨a1, a2, a3, a4, _⟩ := I.ar
  obtain ⟨l1, l2⟩ := lastf_rng (n * 10 / u) (n * 10 % u) u lo hi a1
  exact ⟨l1, bits_dig l1 (by omega)⟩
theorem strs_len : ∀ {vs : List Value} {ys : List Str}, StrsAre vs ys → vs.length = ys.length
  | _, _, .nil => rfl
  | _, _, .cons _ _ h => by rw [List.length_cons, List.length_cons, strs_len h]
theorem len_of_pow {k : Nat} {a : Int} (h : (10 : Int) ^ k ≤ a) (hz : intBits a ≤ 9000) : k ≤ 9000 := by
  have h1 := intBits_le_iff.mp hz
  have h2 : 10 ^ k ≤ a.natAbs := by
    have e : ((10 ^ k : Nat) : Int) = (10 : Int) ^ k := by simp
    omega
  rcases Nat.lt_or_ge 9000 k with q | q
  · exfalso
    have : 2 ^ 9000 ≤ 2 ^ k := Nat.pow_le_pow_right (by decide) (by omega)
    have : 2 ^ k ≤ 10 ^ k := Nat.pow_le_pow_left (by decide) k
    omega
  · exact q
theorem linv_len {b u : Int} {f : List Value} {n a bl : Int} (I : LInv b u f n a bl) : f.length ≤ 100000 := by
  obtain ⟨front, h1, _, h3⟩ := I.fr
  have := len_of_pow h3 (linv_sz I).2.1
  rw [strs_len h1, List.length_map]; omega
theorem linv_nine {b u : Int} {f : List Value} {n a bl : Int} (I : LInv b u f n a bl) : ∀ lo hi, hi = gHi n a u (evB b) → lastf (n * 10 / u) (n * 10 % u) u lo hi ≤ 9 := fun lo hi hh => by
  obtain ⟨a1, a2, a3, a4, a5⟩ := I.ar
  have h1 := I.na; have h2 := I.ne; have h3 := I.a0; have hu := I.u0
  cases hi with
  | false => unfold lastf; simp; omega
  | true =>
    have l := (lastf_rng (n * 10 / u) (n * 10 % u) u lo true a1).2
    rcases (show n * 10 / u ≤ 8 ∨ n * 10 / u = 9 by omega) with q | q
    · omega
    · exfalso
      rw [q] at a5
      have h4 := hh.symm
      unfold gHi gR at h4
      simp only [Bool.or_eq_true, Bool.and_eq_true, decide_eq_true_eq] at h4
      rcases h4 with h4 | ⟨he, h4⟩
      · omega
      · exact h2 ⟨he, by omega⟩
theorem linv_step {b u : Int} {f : List Value} {n a bl : Int} {t : Tok} (I : LInv b u f n a bl) (h1 : gLo n bl u (evB b) = false) (h2 : gHi n a u (evB b) = false) :
    LInv b u (f ++ [Value.str (sOf (dg (n * 10 / u).toNat)) t]) (n * 10 % u) (a * 10) (bl * 10) := by
  obtain ⟨a1, a2, a3, a4, a5⟩ := I.ar
  obtain ⟨front, g1, g2, g3⟩ := I.fr
  have h3 := h2
  unfold gHi gR at h3
  simp only [Bool.or_eq_false_iff, Bool.and_eq_false_iff, decide_eq_false_iff_not] at h3
  have b0 := I.b0; have ba := I.ba; have a0 := I.a0
  refine ⟨I.hu, I.u0, I.uz, a3, by omega, ?_, by omega, by omega, by omega, front ++ [n * 10 / u], ?_, ?_, ?_⟩
  · rintro ⟨q1, q2⟩
    rcases h3.2 with q | q
    · rw [q1] at q; cases q
    · exact q q2
  · rw [List.map_append, one_of a1 a2]
    exact StrsAre.append' g1 (.cons _ _ .nil)
  · intro ds hd
    rw [List.append_assoc]
    exact g2 _ (.step h1 h2 hd)
  · rw [List.length_append, List.length_singleton, Int.pow_succ]; omega
theorem linv_meas {b u : Int} {f : List Value} {n a bl : Int} (I : LInv b u f n a bl) (h2 : gHi n a u (evB b) = false) : (u - a * 10).toNat < (u - a).toNat := by
  obtain ⟨a1, a2, a3, a4, a5⟩ := I.ar
  unfold gHi gR at h2
  simp only [Bool.or_eq_false_iff, Bool.and_eq_false_iff, decide_eq_false_iff_not] at h2
  have a0 := I.a0
  omega
theorem linv_ret {b u : Int} {n a bl : Int} {front : List Int} {lo hi : Bool} (h : ∀ ds, Gen u (evB b) n a bl ds → GenB b (front ++ ds)) (h1 : lo = gLo n bl u (evB b)) (h2 : hi = gHi n a u (evB b)) (h3 : lo = true ∨ hi = true) :
    GenB b (front ++ [lastf (n * 10 / u) (n * 10 % u) u lo hi]) := by
  subst h1 h2
  exact h _ (.stop h3)
theorem sc_rel {m p : Int} (h0 : 0 < m) : 2 * scA m p ≤ scN m p ∧ scB m p ≤ scA m p := by
  have q := pow_pos' p.toNat
  unfold scA scN scB abv fac
  split
  · rename_i h
    obtain ⟨rfl, _⟩ := h
    omega
  · have : m * 2 * 2 ^ p.toNat = m * 2 ^ p.toNat * 2 := by rw [Int.mul_assoc, Int.mul_comm 2, ← Int.mul_assoc]
    rw [this]
    have := Int.mul_le_mul_of_nonneg_right (show 1 ≤ m by omega) (Int.le_of_lt q)
    omega
theorem linv_0 {b : Int} (h0 : 0 < mant b) (h1 : mant b < 2 ^ 53) (h2 : -1074 ≤ powr b) (h3 : powr b ≤ 971) : LInv b (unB b) [] (nuB b) (abB b) (beB b) := by
  have F := sc_facts h0 h1 h2 h3
  have R := sc_rel (p := powr b) h0
  have P := fplace_facts (ev := evB b) F.n0 F.u0 F.a0 R.1
  have q := p10_pos (0 - plB b).toNat
  have q2 := p10_pos (plB b).toNat
  have hr := plB_rng h0 h1 h2 h3
  refine ⟨rfl, Int.mul_pos F.u0 q2, ?_, Int.le_of_lt (Int.mul_pos F.n0 q), P.le, P.ne, Int.mul_pos F.a0 q, Int.mul_pos F.b0 q, Int.mul_le_mul_of_nonneg_right R.2 (Int.le_of_lt q), [], .nil, fun ds h => h, ?_⟩
  · have k : (plB b).toNat ≤ 1103 := Int.toNat_le.mpr hr.2
    have := p10_bits (plB b).toNat
    exact Nat.le_trans (intBits_mul_le F.uz this) (by omega)
  · have := Int.mul_pos F.a0 q
    show (1 : Int) ≤ _
    exact this
theorem linv_1 {b : Int} (h0 : 0 < mant b) (h1 : mant b < 2 ^ 53) (h2 : -1074 ≤ powr b) (h3 : powr b ≤ 971) (hp : 0 ≤ plB b) : LInv b (scU (mant b) (powr b) * 10 ^ (plB b).toNat) [] (scN (mant b) (powr b)) (scA (mant b) (powr b)) (scB (mant b) (powr b)) := by
  have I := linv_0 h0 h1 h2 h3
  unfold unB nuB abB beB at I
  rw [show (0 - plB b).toNat = 0 by omega, Int.pow_zero, Int.mul_one, Int.mul_one, Int.mul_one] at I
  exact I
theorem linv_2 {b : Int} (h0 : 0 < mant b) (h1 : mant b < 2 ^ 53) (h2 : -1074 ≤ powr b) (h3 : powr b ≤ 971) (hp : ¬ 0 ≤ plB b) : LInv b (scU (mant b) (powr b)) [] (scN (mant b) (powr b) * 10 ^ (0 - plB b).toNat) (scA (mant b) (powr b) * 10 ^ (0 - plB b).toNat) (scB (mant b) (powr b) * 10 ^ (0 - plB b).toNat) := by
  have I := linv_0 h0 h1 h2 h3
  unfold unB nuB abB beB at I
  rw [show (plB b).toNat = 0 by omega, Int.pow_zero, Int.mul_one] at I
  exact I
theorem off_of {d : Addr} {news : List (Addr × Obj)} (h : AllLt d news) : ∀ p ∈ news, p.1 ≠ d := fun p hp => Nat.ne_of_lt (ktn_ltOf h p hp)
theorem join_ones : ∀ l : List Int, Txt.join (sOf []) (l.map one) = sOf (sgn l) := by
  intro l
  rw [show Txt.join (sOf []) (l.map one) = Str.join (sOf []) (l.map one) from PySem.StrLaws.glued_eq_join _ _]
  induction l with
  | nil => rfl
  | cons d r ih =>
    rw [List.map_cons, show Str.join (sOf []) (one d :: r.map one) = one d ++ Str.join (sOf []) (r.map one) from PyProof.Rows.join_nil_cons _ _, ih]
    exact sOf_app [d.toNat + 48] (sgn r)
theorem ones_sum : ∀ l : List Int, ((l.map one).map (·.length)).sum = l.length := by
  intro l
  induction l with
  | nil => rfl
  | cons d r ih => rw [List.map_cons, List.map_cons, List.sum_cons, ih, List.length_cons]; show 1 + _ = _; omega
theorem my_append {prog : Program} {w : World} {A : Around} {E : Value → Shared → Prop} {s : Shared} {h₀ : Heap} {L D : Addr} {m : Str → Option Value} {news news' : List (Addr × Obj)} {vals : List Value} {n : Nat} {x : Value} {Q : Value → Shared → Prop} (F : Fr h₀ L s.heap m) (N : News h₀ L s.heap news)
    (U : Upd D { cls := .type "list", data := .seq vals.toArray n } { cls := .type "list", data := .seq (vals ++ [x]).toArray (n + 1) } news news') (hz : vals.length ≤ 100000) (h : ∀ h', Fr h₀ L h' m → News h₀ L h' news' → Q .none { s with heap := h' }) :
    wpAny (model prog w) A (call (.builtin "list.append") [.ref D, x]) Q E s :=
  append_K (its := vals.toArray) F N (by rw [List.push_toArray]; exact U) h (by rw [List.size_toArray, sizeLine_eq]; omega)
theorem my_join {prog : Program} {w : World} {A : Around} {E : Value → Shared → Prop} {s : Shared} {h₀ : Heap} {L D : Addr} {news : List (Addr × Obj)} {vals : List Value} {front : List Int} {d : Int} {t u : Tok} {c : Nat} {x : Str} {Q : Value → Shared → Prop} (hx : x = sOf []) (N : News h₀ L s.heap news) (hf : StrsAre vals (front.map one)) 
    (hm : (D, ({ cls := .type "list", data := .seq (vals ++ [Value.str (sOf (dg d.toNat)) t]).toArray c } : Obj)) ∈ news) (hd0 : 0 ≤ d) (hd9 : d ≤ 9) (hl : vals.length ≤ 100000) (h : ∀ t' k, Q (.str (sOf (sgn (front ++ [d]))) t') { s with toks := k }) :
    wpAny (model prog w) A (call (.builtin "str.join") [.str x u, .ref D]) Q E s := by
  subst hx
  have hi : StrsAre (vals ++ [Value.str (sOf (dg d.toNat)) t]) ((front ++ [d]).map one) := by
    rw [one_of hd0 hd9, List.map_append]
    exact StrsAre.append' hf (.cons _ _ .nil)
  refine join_listW (ys := (front ++ [d]).map one) (News.isList N hm) (by simpa using hi) (by decide) ?_ (fun t' k => by rw [join_ones]; exact h t' k)
  have e := strs_len hf
  rw [ones_sum, List.length_map, List.length_append, List.length_singleton]
  rw [List.length_map] at e
  omega
theorem news_drop3 {h₀ h : Heap} {L : Addr} {x y z v : Addr × Obj} {news : List (Addr × Obj)} (N : News h₀ L h (x :: y :: z :: v :: news)) : News h₀ L h (x :: news) := fun p hp => N p ((List.mem_cons.mp hp).elim (fun e => e ▸ .head _) fun q => .tail _ (.tail _ (.tail _ (.tail _ q))))
theorem news_drop2 {h₀ h : Heap} {L : Addr} {x y z : Addr × Obj} {news : List (Addr × Obj)} (N : News h₀ L h (x :: y :: z :: news)) : News h₀ L h (x :: news) := fun p hp => N p ((List.mem_cons.mp hp).elim (fun e => e ▸ .head _) fun q => .tail _ (.tail _ (.tail _ q)))
theorem news_sub {h₀ h : Heap} {L : Addr} {x : Addr × Obj} {news all : List (Addr × Obj)} (N : News h₀ L h all) (hx : x ∈ all) (hs : ∀ p ∈ news, p ∈ all) : News h₀ L h (x :: news) := fun p hp => (List.mem_cons.mp hp).elim (fun q => q ▸ N _ hx) fun q => N p (hs p q)
def Hold (P : Prop) : Prop := P
theorem hold_of {P : Prop} (h : Hold P) : P := h

theorem lo_1 {n bl u b : Int} (h : n * 10 % u < bl * 10) : decide (n * 10 % u < bl * 10) = gLo n bl u (evB b) := by
  unfold gLo gR; rw [decide_eq_true h]; rfl
theorem lo_2 {n bl u b : Int} (h : ¬ n * 10 % u < bl * 10) (he : mant b % 2 = 0) : (n * 10 % u == bl * 10) = gLo n bl u (evB b) := by
  unfold gLo gR evB; rw [decide_eq_false h, he]; simp; rfl
theorem lo_3 {n bl u b : Int} (h : ¬ n * 10 % u < bl * 10) (he : mant b % 2 ≠ 0) : (mant b % 2 == 0) = gLo n bl u (evB b) := by
  unfold gLo gR evB; rw [decide_eq_false h, beq_eq_false_iff_ne.mpr he]; rfl
theorem hi_1 {n a u b : Int} (h : u < n * 10 % u + a * 10) : decide (u < n * 10 % u + a * 10) = gHi n a u (evB b) := by
  unfold gHi gR; rw [decide_eq_true h]; rfl
theorem hi_2 {n a u b : Int} (h : ¬ u < n * 10 % u + a * 10) (he : mant b % 2 = 0) : (n * 10 % u + a * 10 == u) = gHi n a u (evB b) := by
  unfold gHi gR evB; rw [decide_eq_false h, he]; simp; rfl
theorem hi_3 {n a u b : Int} (h : ¬ u < n * 10 % u + a * 10) (he : mant b % 2 ≠ 0) : (mant b % 2 == 0) = gHi n a u (evB b) := by
  unfold gHi gR evB; rw [decide_eq_false h, beq_eq_false_iff_ne.mpr he]; rfl
theorem cont3 {z a b c : Str} (h : [a, b, c].contains z = false) : z ≠ a ∧ z ≠ b ∧ z ≠ c := by
  simp only [List.contains_cons, List.contains_nil, Bool.or_false, Bool.or_eq_false_iff, beq_eq_false_iff_ne] at h
  exact ⟨h.1, h.2.1, h.2.2⟩
structure IsB (B : Bool) (s : Shared) (v : Value) (s' : Shared) : Prop where
  p1 : v = .bool B
  p2 : ∃ tk, s' = { s with toks := tk }
theorem isB {B y : Bool} {s : Shared} {tk : Nat} (h : y = B) : IsB B s (.bool y) { s with toks := tk } := ⟨congrArg _ h, ⟨tk, rfl⟩⟩
theorem assign_bool (B : Bool) {M : Model} {A : Around} {E : Value → Shared → Prop} {s : Shared} {env : Env} {x pos' value pos} {Q : Flow → Shared → Prop} (h : wpAny M A (eval value env) (IsB B s) E s)
    (k : ∀ tk, wpAny M A (storeName env x (.bool B)) (fun _ => Q .next) E { s with toks := tk }) (hs : swapsWith value (some (.Name x pos')) pos.line env = pure false := by rfl) :
    wpAny M A (exec (.Assign [.Name x pos'] value pos) env) Q E s :=
  wpAny_Assign_Name (wpAny_mono h (fun _ _ q => by obtain ⟨rfl, ⟨tk, rfl⟩⟩ := q; exact k tk) fun _ _ x => x) hs

end Mine
end
section
open PySem PySem.W PyProof.Rows PySem.Calls PySem.Spec
namespace Mine
open PySem.Builtin.Int (intBits)

local macro_rules | `(tactic| k_all) => `(tactic| assumption)

noncomputable abbrev shSc0 {n : Str} {a : Arguments} {b : List Stmt} {dl : List PySem.Expr} {r : Option PySem.Expr} {tp : List TypeParam} {sc : Scope} {ts : Option Scope} {bd : Str} {ps : Pos} {x : Option Stmt}
    (_ : x = some (Stmt.FunctionDef n a b dl r tp sc ts bd ps)) : Scope := sc
noncomputable abbrev shRe0 {n : Str} {a : Arguments} {b1 b2 b3 b4 b5 : Stmt} {b : List Stmt} {dl : List PySem.Expr} {r : Option PySem.Expr} {tp : List TypeParam} {sc : Scope} {ts : Option Scope} {bd : Str} {ps : Pos} {x : Option Stmt}
    (_ : x = some (Stmt.FunctionDef n a (b1 :: b2 :: b3 :: b4 :: b5 :: b) dl r tp sc ts bd ps)) : List Stmt := b
noncomputable abbrev shSc : Scope := shSc0 (x := pw.main.body[30]?) rfl
noncomputable abbrev shRe : List Stmt := shRe0 (x := pw.main.body[30]?) rfl
theorem fr_put {h₀ h : Heap} {L : Addr} {m : Str → Option Value} {x : Str} {v : Value} (F : Fr h₀ L h m) (e : m x = some v) : Fr h₀ L h (fun y => if y = x then some v else m y) := by
  have q : (fun y => if y = x then some v else m y) = m := by
    funext y
    by_cases z : y = x
    · rw [if_pos z, z, e]
    · rw [if_neg z]
  rw [q]; exact F
/-- the loop of the figures, once for both ways to it -/
theorem sh_rest {b U0 N0 A0 B0 plX : Int} (hpl : plB b = plX) (I0 : LInv b U0 [] N0 A0 B0) {w : World} {p : Program} {loose : List Str} {mean : ExcName → Option Value} {mg mb : Str → Option Value}
    {dp un : Nat} {gd : Option (List Code)} {ad : Addr} {ccd : Value} {outer : List Env} {A₀ : Around} {base h₀ : Heap} {L : Addr} {mm : Str → Option Value} {news : List (Addr × Obj)} {s : Shared} {Q : Flow → Shared → Prop} {E : Value → Shared → Prop} {t1 t2 t3 t4 t5 : Tok}
    (X : (KK w.params).In h₀) (B : Below A₀ base outer h₀) (N : News h₀ L s.heap news) (T : Top p loose mean mg mb h₀)
    (F : Fr h₀ L s.heap (fun y => if y = Str.ofString "number" then some (.int N0 t1) else if y = Str.ofString "above" then some (.int A0 t2) else if y = Str.ofString "below" then some (.int B0 t3) else if y = Str.ofString "unit" then some (.int U0 t4) else if y = Str.ofString "place" then some (.int plX t5) else if y = Str.ofString "is_even" then some (.bool (mant b % 2 == 0)) else mm y))
    (hd : dp + 3 < recursionLimit) (hu : un + 24 < cLine)
    (hE : PassesOwn (model PySem.Challenge.rw_nt0408_01.row.prog w) (ktrTop dp un gd (Str.ofString "shortest") shSc L ad ccd [] outer) (envOf (Str.ofString "shortest") shSc L ad ccd) E)
    (hret : ∀ ds, GenB b ds → ∀ (D : Addr) (t u : Tok) (c : Nat) (h' : Heap) (tk' : Nat) (m' : Str → Option Value), Fr h₀ L h' m' → News h₀ L h' ((D, tupO [.str (sOf (sgn ds)) t, .int (plB b) u] c) :: news) → Q (.ret (.ref D)) { s with heap := h', toks := tk' }) :
    wpAny (model PySem.Challenge.rw_nt0408_01.row.prog w) (ktrTop dp un gd (Str.ofString "shortest") shSc L ad ccd [] outer) (execs shRe (envOf (Str.ofString "shortest") shSc L ad ccd)) Q E s := by
  subst hpl
  revert X hE
  k_fill
  intro X hE
  have markS := True.intro
  dsimp only [shSc, shSc0, shRe, shRe0] at hE ⊢
  k_steps
  all_goals unfold Hold
  rename News _ _ _ _ => lN1
  rename (∀ p : Addr × Obj, p ∈ news → p.1 < _) => l1
  have hOff := fun (p : Addr × Obj) (hp : p ∈ news) => Nat.ne_of_lt (l1 p hp)
  refine ksw_while (fun c : List Value × Nat × Int × Tok × Int × Tok × Int × Tok => (_, { cls := .type "list", data := .seq c.1.toArray c.2.1 }) :: news)
    (fun c => [("number", .int c.2.2.1 c.2.2.2.1), ("above", .int c.2.2.2.2.1 c.2.2.2.2.2.1), ("below", .int c.2.2.2.2.2.2.1 c.2.2.2.2.2.2.2)])
    (fun _ => True) ["figure", "is_low", "is_high"] (fun c => LInv b U0 c.1 c.2.2.1 c.2.2.2.2.1 c.2.2.2.2.2.2.1) (fun c => (U0 - c.2.2.2.2.1).toNat) ([], 0, N0, _, A0, _, B0, _)
    (by k_asm) lN1 True.intro (by (refine List.forall_mem_cons.mpr ⟨by rfl, ?_⟩; refine List.forall_mem_cons.mpr ⟨by rfl, ?_⟩; refine List.forall_mem_cons.mpr ⟨by rfl, ?_⟩; exact List.forall_mem_nil _)) I0 ?_ (hE := hE)
  rintro ⟨vals, cnt, n, tn, a, ta, bl, tb⟩ u h tk - kI F1 N1
  dsimp only at kI F1 N1 ⊢
  clear I0
  have hUU := kI.u0
  have hUz := kI.uz
  obtain ⟨hzn, hza, hzb⟩ := linv_sz kI
  obtain ⟨hd0, hd9, hr0, hrz⟩ := linv_dig kI
  have hlf := linv_last kI
  (k_with "len" => first | exact (hlf _ _).1 | exact (hlf _ _).2)
  obtain ⟨front, hfr, hG, hlen⟩ := kI.fr
  have hvl := linv_len kI
  obtain ⟨lo, hlo⟩ : ∃ lo, lo = gLo n bl U0 (evB b) := ⟨_, rfl⟩
  obtain ⟨hi, hhi⟩ : ∃ hi, hi = gHi n a U0 (evB b) := ⟨_, rfl⟩
  have hni := linv_nine kI lo hi hhi
  (k_with "bool" => first
    | ((with_reducible show wpAny _ _ (exec (Stmt.Assign [Expr.Name (PySem.Str.ofString "is_low") _] _ _) _) _ _ _); k_dflt (refine assign_bool lo ?hA ?_); (case hA => (k_steps; (all_goals (refine isB (Eq.trans ?_ hlo.symm))); (all_goals first | exact lo_1 (by assumption) | exact lo_2 (by assumption) (by assumption) | exact lo_3 (by assumption) (by assumption)))); intro tkB)
    | ((with_reducible show wpAny _ _ (exec (Stmt.Assign [Expr.Name (PySem.Str.ofString "is_high") _] _ _) _) _ _ _); k_dflt (refine assign_bool hi ?hC ?_); (case hC => (k_steps; (all_goals (refine isB (Eq.trans ?_ hhi.symm))); (all_goals first | exact hi_1 (by assumption) | exact hi_2 (by assumption) (by assumption) | exact hi_3 (by assumption) (by assumption)))); intro tkB))
  (k_with "nine" => assumption)
  (k_with "state" => exact linv_step kI (hlo.symm.trans (by assumption)) (hhi.symm.trans (by assumption)))
  (k_with "measure" => exact linv_meas kI (hhi.symm.trans (by assumption)))
  (try k_fold)
  k_steps
  all_goals (refine hret _ (linv_ret hG hlo hhi ?_) _ _ _ _ _ _ _ (by k_asm) (news_sub (by k_asm) (by k_mem) (by (intro p9 hp9; repeat (first | exact hp9 | refine List.Mem.tail _ ?_)))))
  all_goals first | exact Or.inl (by assumption) | exact Or.inr (by assumption)

theorem spec_shortest (b : Int) (t1 : Tok) (fb : FinB b) : Spec 4 126 [.int b t1] [] (fun h₀ L m news s Q => ∀ ds, GenB b ds → retT2 (.str (sOf (sgn ds))) (.int (plB b)) h₀ L m news s Q) := by
  unfold Spec
  k_fill
  intro w pg loose mean mg mb dp un gd cn cs ad ccd cl outer A₀ base h₀ L fm news s Q E B F X N T hk hd hu hneed hret
  have markR := True.intro
  obtain ⟨fb0, fb1, fbm, fbp⟩ := fb
  have hm := mant_rng b
  have hp := powr_rng b
  obtain ⟨n0, a0, b0, u0, nz, az, bz, uz⟩ := sc_facts fbm hm.2 hp.1 fbp
  have hplr := plB_rng fbm hm.2 hp.1 fbp
  unfold plB evB at hplr
  refine wpAny_call ?_
  k_dflt cell_enter
  k_steps
  all_goals unfold Hold
  all_goals (generalize hplX : fplace (scN (mant b) (powr b)) (scA (mant b) (powr b)) (scU (mant b) (powr b)) (mant b % 2 == 0) = plX at *)
  all_goals have hpl : plB b = plX := by unfold plB evB; exact hplX
  · have I0 := linv_1 fbm hm.2 hp.1 fbp (show 0 ≤ plB b by rw [hpl]; assumption)
    rw [hpl] at I0
    clear hplX hplr n0 a0 b0 u0 nz az bz uz
    rename Fr _ _ _ _ => fZ
    rename News _ _ _ _ => nZ
    k_dflt (refine' sh_rest hpl I0 ?kX ?kB nZ ?kT (fr_put (fr_put (fr_put (fr_put (fr_put (fr_put fZ rfl) rfl) rfl) rfl) rfl) rfl) ?kd ?ku ?kE ?kR)
    case kB => k_asm
    case kX => k_asm
    case kT => k_asm
    case kd => ktr_room
    case ku => ktr_units
    case kE => first | passes_own | with_unfolding_all passes_own
    case kR =>
      intro ds gd D9 t9 u9 c9 h9 tk9 m9 F9 N9
      k_dflt k_steps
      all_goals (refine' retT2_of (hret _ gd) ?F ?N ?mm ?ss ?e1 ?e2; (case F => k_asm); (case N => k_asm); (case mm => k_mem); (case ss => (intro p9 hp9; repeat (first | exact hp9 | refine List.Mem.tail _ ?_))); (case e1 => exact is_S rfl); (case e2 => exact is_I rfl))
  · have I0 := linv_2 fbm hm.2 hp.1 fbp (show ¬ 0 ≤ plB b by rw [hpl]; assumption)
    rw [hpl] at I0
    clear hplX hplr n0 a0 b0 u0 nz az bz uz
    rename Fr _ _ _ _ => fZ
    rename News _ _ _ _ => nZ
    k_dflt (refine' sh_rest hpl I0 ?kX ?kB nZ ?kT (fr_put (fr_put (fr_put (fr_put (fr_put (fr_put fZ rfl) rfl) rfl) rfl) rfl) rfl) ?kd ?ku ?kE ?kR)
    case kB => k_asm
    case kX => k_asm
    case kT => k_asm
    case kd => ktr_room
    case ku => ktr_units
    case kE => first | passes_own | with_unfolding_all passes_own
    case kR =>
      intro ds gd D9 t9 u9 c9 h9 tk9 m9 F9 N9
      k_dflt k_steps
      all_goals (refine' retT2_of (hret _ gd) ?F ?N ?mm ?ss ?e1 ?e2; (case F => k_asm); (case N => k_asm); (case mm => k_mem); (case ss => (intro p9 hp9; repeat (first | exact hp9 | refine List.Mem.tail _ ?_))); (case e1 => exact is_S rfl); (case e2 => exact is_I rfl))

end Mine
end
section
open PySem PySem.W PyProof.Rows PySem.Calls PySem.Spec
namespace Mine
open PySem.Builtin.Int (intBits)
open PySem.Builtin PySem.Builtin.Str in
theorem clip_idx {n : Nat} {j : Int} (l : Option Int) (h : 0 ≤ j) : strSliceIndices l (some j) 1 n = strSliceIndices l (some (min j n)) 1 n := by
  have e1 : ¬ j < 0 := by omega
  have e2 : ¬ min j (n : Int) < 0 := by omega
  have e3 : min (min j (n : Int)) n = min j n := by omega
  unfold strSliceIndices
  simp only [if_neg e1, if_neg e2, e3, show (1 : Int) > 0 by decide, if_true]
theorem slice_clip {x : Str} {j : Int} (l : Option Int) (h : 0 ≤ j) : Txt.slice x l (some j) = Txt.slice x l (some (min j x.length)) := by
  unfold Txt.slice
  rw [clip_idx l h]
theorem slice_ss_cl {l : List Nat} {i j : Int} (h0 : 0 ≤ i) (h1 : i ≤ j) (h2 : i ≤ l.length) : Txt.slice (sOf l) (some i) (some j) = sOf ((l.drop i.toNat).take (j.toNat - i.toNat)) := by
  rw [slice_clip _ (by omega), sOf_len]
  rcases Int.lt_or_le l.length j with q | q
  · rw [show min j (l.length : Int) = l.length by omega, slice_ss_eq h0 h2 (Int.le_refl _)]
    congr 1
    rw [List.take_of_length_le (by rw [List.length_drop]; omega), List.take_of_length_le (by rw [List.length_drop]; omega)]
  · rw [show min j (l.length : Int) = j by omega, slice_ss_eq h0 h1 q]
theorem slice_ns_cl {l : List Nat} {j : Int} (h1 : 0 ≤ j) : Txt.slice (sOf l) none (some j) = sOf (l.take j.toNat) := by
  rw [slice_clip _ h1, sOf_len]
  rcases Int.lt_or_le l.length j with q | q
  · rw [show min j (l.length : Int) = l.length by omega, slice_ns_eq (by omega) (Int.le_refl _)]
    congr 1
    rw [List.take_of_length_le (by omega), List.take_of_length_le (by omega)]
  · rw [show min j (l.length : Int) = j by omega, slice_ns_eq h1 q]
section
variable {prog : Program} {w : World} {A : Around} {E : Value → Shared → Prop} {s : Shared} {t u : Tok} {h₀ : Heap} {L : Addr} {m : Str → Option Value} {news : List (Addr × Obj)}
theorem slice_ssc {l : List Nat} {i j : Int} {ui uj : Tok} {value slice : Expr} {Q : Value → Shared → Prop} (hF : Fr h₀ L s.heap m) (hN : News h₀ L s.heap news) (h0 : 0 ≤ i) (h1 : i ≤ j) (h2 : i ≤ l.length) (hl : l.length ≤ 100000)
    (h : ∀ h' t' k, Fr h₀ L h' m → News h₀ L h' news → Q (.str (sOf ((l.drop i.toNat).take (j.toNat - i.toNat))) t') { s with heap := h', toks := k })
    (hs : subscripted slice false (.str (sOf l) t) (.ref s.heap.objs.size) = operate [.ref s.heap.objs.size, .str (sOf l) t] (getItem (.str (sOf l) t) (.ref s.heap.objs.size)) := by with_unfolding_all rfl)
    (ht : ∀ r, letTemporaryGo value (.str (sOf l) t) r = pure () := by intro _; with_unfolding_all rfl) :
    wpAny (model prog w) A (subscriptTail value slice (.str (sOf l) t) (.ref s.heap.objs.size)) Q E { s with heap := s.heap.push { cls := .type "slice", data := .fields #[.int i ui, .int j uj, .none] } } :=
  slice_strN_ss_len hF hN (fun h' t' k a b _ => by rw [slice_ss_cl h0 h1 h2]; exact h h' t' k a b) hs ht (by rw [sOf_len, sizeLine_eq]; omega)
theorem slice_nsc {l : List Nat} {j : Int} {uj : Tok} {value slice : Expr} {Q : Value → Shared → Prop} (hF : Fr h₀ L s.heap m) (hN : News h₀ L s.heap news) (h1 : 0 ≤ j) (hl : l.length ≤ 100000)
    (h : ∀ h' t' k, Fr h₀ L h' m → News h₀ L h' news → Q (.str (sOf (l.take j.toNat)) t') { s with heap := h', toks := k })
    (hs : subscripted slice false (.str (sOf l) t) (.ref s.heap.objs.size) = operate [.ref s.heap.objs.size, .str (sOf l) t] (getItem (.str (sOf l) t) (.ref s.heap.objs.size)) := by with_unfolding_all rfl)
    (ht : ∀ r, letTemporaryGo value (.str (sOf l) t) r = pure () := by intro _; with_unfolding_all rfl) :
    wpAny (model prog w) A (subscriptTail value slice (.str (sOf l) t) (.ref s.heap.objs.size)) Q E { s with heap := s.heap.push { cls := .type "slice", data := .fields #[.none, .int j uj, .none] } } :=
  slice_strN_ns_len hF hN (fun h' t' k a b _ => by rw [slice_ns_cl h1]; exact h h' t' k a b) hs ht (by rw [sOf_len, sizeLine_eq]; omega)
theorem in_s {c : Nat} {x : Str} {Q : Value → Shared → Prop} (h : Q (.bool (decide (c ∈ x.cps.toList))) s) : wpAny (model prog w) A (compareOp .In (.str (sOf [c]) u) (.str x t)) Q E s :=
  P.in_str (by rw [show sOf [c] = (⟨#[c]⟩ : Str) from rfl, StrLaws.found_one]; exact h)
theorem nin_s {c : Nat} {x : Str} {Q : Value → Shared → Prop} (h : Q (.bool (!decide (c ∈ x.cps.toList))) s) : wpAny (model prog w) A (compareOp .NotIn (.str (sOf [c]) u) (.str x t)) Q E s :=
  P.notIn_str (by rw [show sOf [c] = (⟨#[c]⟩ : Str) from rfl, StrLaws.found_one]; exact h)
theorem reps (c : Nat) : ∀ (k : Nat) (a : Array Nat), (List.replicate k (#[c] : Array Nat)).foldl (· ++ ·) a = ⟨a.toList ++ List.replicate k c⟩ := by
  intro k
  induction k with
  | zero => intro a; simp
  | succ k ih => intro a; rw [List.replicate_succ, List.foldl_cons, ih]; simp [List.replicate_succ]
theorem mul_eq (c : Nat) {n : Int} (h : 0 ≤ n) : Txt.mul (sOf [c]) n = sOf (List.replicate n.toNat c) := by
  unfold Txt.mul
  split
  · rw [show n.toNat = 0 by omega]; rfl
  · split
    · rename_i h1 h2
      have : n = 1 := by
        rw [Bool.or_eq_true] at h2
        rcases h2 with q | q
        · exact beq_iff_eq.mp q
        · exact absurd (beq_iff_eq.mp q) (by rw [sOf_len, List.length_singleton]; decide)
      subst this; rfl
    · show (⟨(List.replicate n.toNat (#[c] : Array Nat)).foldl (· ++ ·) #[]⟩ : Str) = _
      rw [reps]; simp; rfl
theorem mul_s {c : Nat} {n : Int} {Q : Value → Shared → Prop} (h0 : 0 ≤ n) (h1 : n ≤ 100000) (h : ∀ t' k, Q (.str (sOf (List.replicate n.toNat c)) t') { s with toks := k }) : wpAny (model prog w) A (binaryOp .Mult (.str (sOf [c]) t) (.int n u)) Q E s :=
  SB.mul (mulOk_of 16 1048576 (by rw [sOf_len, List.length_singleton]; decide) (by omega) (by omega) (by decide) (by decide)) fun t' k => by rw [mul_eq c h0]; exact h t' k
theorem takeWhile_drop {p : Nat → Bool} : ∀ l : List Nat, l.drop (l.takeWhile p).length = l.dropWhile p
  | [] => rfl
  | a :: r => by
    rw [List.takeWhile_cons, List.dropWhile_cons]
    split
    · rw [List.length_cons, List.drop_succ_cons]; exact takeWhile_drop r
    · rfl
open PySem.Builtin PySem.Builtin.Str in
theorem lstrip_eq (l : List Nat) (c : Nat) : Txt.lstripChars (sOf l) (sOf [c]) = sOf (l.dropWhile (· == c)) := by
  unfold Txt.lstripChars
  rw [PyProof.Rows.stripBy_eq]
  unfold stripLo stripHi strSub
  simp only [if_true, if_false, Bool.false_eq_true]
  rw [sOf_list, show ((sOf [c]).cps.contains) = (fun x : Nat => x == c) from by funext x; show (#[c] : Array Nat).contains x = _; simp; rfl]
  have : (sOf l).cps.extract (l.takeWhile fun x => x == c).length (sOf l).length = (l.dropWhile fun x => x == c).toArray := by
    apply Array.toList_inj.mp
    rw [Array.toList_extract, sOf_len, List.extract_eq_take_drop, sOf_list, takeWhile_drop, List.take_of_length_le]
    rw [← takeWhile_drop, List.length_drop]; omega
  rw [this]; rfl
theorem lstrip_s {l : List Nat} {c : Nat} {Q : Value → Shared → Prop} (hl : l.length ≤ 100000) (h : ∀ t' k, Q (.str (sOf (l.dropWhile (· == c))) t') { s with toks := k }) :
    wpAny (model prog w) A (call (.builtin "str.lstrip") [.str (sOf l) t, .str (sOf [c]) u]) Q E s :=
  SC.lstripChars (fun t' k => by rw [lstrip_eq]; exact h t' k) (by rw [sOf_len, sizeLine_eq]; omega)
end
theorem spec_short {b : Int} {t1 : Tok} (fb : FinB b) {ds : List Int} (g : GenB b ds) : Spec 4 126 [.int b t1] [] (retT2 (.str (sOf (sgn ds))) (.int (plB b))) :=
  fun w p loose mean mg mb dp un gd cn cs a ccd cl outer A₀ base h₀ L m news s Q E B F X N T hk hd hu hn hr =>
    spec_shortest b t1 fb w p loose mean mg mb dp un gd cn cs a ccd cl outer A₀ base h₀ L m news s Q E B F X N T hk hd hu hn fun ds' g' => by
      rw [Gen.det g' g]; exact hr
end Mine
end
section
open PySem PySem.W PyProof.Rows PySem.Calls PySem.Spec
namespace Mine
open PySem.Builtin.Int (intBits)

def absI (e : Int) : Int := if e < 0 then -e else e
def sgE (e : Int) : List Nat := 101 :: (if e < 0 then 45 else 43) :: dg (absI e).toNat
theorem abs_sz {e : Int} (h1 : -10000 ≤ e) (h2 : e ≤ 10000) : 0 ≤ absI e ∧ intBits (absI e) ≤ 1900 ∧ (dg (absI e).toNat).length ≤ 20 := by
  have h3 : 0 ≤ absI e ∧ absI e ≤ 10000 := by unfold absI; split <;> omega
  refine ⟨h3.1, bits_le_of h3.1 h3.2 (by decide), ?_⟩
  rcases Nat.eq_zero_or_pos (absI e).toNat with q | q
  · rw [q]; decide
  · have := (dg_len_pow q).1
    rcases Nat.lt_or_ge 20 (dg (absI e).toNat).length with z | z
    · exfalso
      have : 10 ^ 20 ≤ 10 ^ ((dg (absI e).toNat).length - 1) := Nat.pow_le_pow_right (by decide) (by omega)
      have : (10 : Nat) ^ 20 = 100000000000000000000 := by decide
      omega
    · exact z
theorem sgE_len {e : Int} (h1 : -10000 ≤ e) (h2 : e ≤ 10000) : (sgE e).length ≤ 100 := by
  have := (abs_sz h1 h2).2.2
  unfold sgE; simp only [List.length_cons]; omega

theorem spec_signed_exponent (e : Int) (t1 : Tok) (h1 : -10000 ≤ e) (h2 : e ≤ 10000) : Spec 1 140 [.int e t1] [] (retS (sOf (sgE e))) := by
  unfold Spec
  k_fill
  intro w pg loose mean mg mb dp un gd cn cs ad ccd cl outer A₀ base h₀ L fm news s Q E B F X N T hk hd hu hneed hret
  have hz := abs_sz h1 h2
  unfold absI at hz
  obtain ⟨hz0, hz1, hz2⟩ := hz
  refine wpAny_call ?_
  k_dflt cell_enter
  k_steps
  all_goals (refine' retS_of hret ?_ ?F ?N ?ss; (case F => k_asm); (case N => k_asm); (case ss => (intro p9 hp9; repeat (first | exact hp9 | refine List.Mem.tail _ ?_))))
  all_goals first
    | (have hx : e < 0 := by assumption
       unfold sgE absI; rw [if_pos hx, if_pos hx]; rfl)
    | (have hx : ¬ e < 0 := by assumption
       unfold sgE absI; rw [if_neg hx, if_neg hx]; rfl)

def wE (l : List Nat) (e : Int) : List Nat := l.take 1 ++ (if 1 < l.length then 46 :: l.drop 1 else []) ++ sgE e

theorem spec_with_exponent (l : List Nat) (t1 : Tok) (e : Int) (t2 : Tok) (h0 : 1 ≤ l.length) (hl : l.length ≤ 1000) (h1 : -10000 ≤ e) (h2 : e ≤ 10000) : Spec 2 147 [.str (sOf l) t1, .int e t2] [] (retS (sOf (wE l e))) := by
  unfold Spec
  k_fill
  intro w pg loose mean mg mb dp un gd cn cs ad ccd cl outer A₀ base h₀ L fm news s Q E B F X N T hk hd hu hneed hret
  have hz := sgE_len h1 h2
  refine wpAny_call ?_
  k_dflt cell_enter
  k_steps
  all_goals (refine' retS_of hret ?_ ?F ?N ?ss; (case F => k_asm); (case N => k_asm); (case ss => (intro p9 hp9; repeat (first | exact hp9 | refine List.Mem.tail _ ?_))))
  all_goals first
    | (have hx : (1 : Int) < l.length := by assumption
       have hx2 : 1 < l.length := by omega
       unfold wE; rw [if_pos hx2]; simp; done)
    | (have hx : ¬ (1 : Int) < l.length := by assumption
       have hx2 : ¬ 1 < l.length := by omega
       unfold wE; rw [if_neg hx2]; simp; done)

def laid (l : List Nat) (p : Int) : List Nat :=
  if (l.length : Int) ≤ p ∧ p ≤ 21 then l ++ List.replicate (p - l.length).toNat 48
  else if 0 < p ∧ p ≤ 21 then l.take p.toNat ++ 46 :: l.drop p.toNat
  else if -6 < p ∧ p ≤ 0 then 48 :: 46 :: (List.replicate (0 - p).toNat 48 ++ l)
  else wE l (p - 1)
theorem laid_1 {l : List Nat} {p : Int} (h1 : (l.length : Int) ≤ p) (h2 : p ≤ 21) : l ++ List.replicate (p - l.length).toNat 48 = laid l p := by unfold laid; rw [if_pos ⟨h1, h2⟩]
theorem laid_2 {l : List Nat} {p : Int} (h1 : ¬ ((l.length : Int) ≤ p ∧ p ≤ 21)) (h2 : 0 < p) (h3 : p ≤ 21) : l.take p.toNat ++ [46] ++ l.drop p.toNat = laid l p := by unfold laid; rw [if_neg h1, if_pos ⟨h2, h3⟩]; simp
theorem laid_3 {l : List Nat} {p : Int} (h1 : ¬ ((l.length : Int) ≤ p ∧ p ≤ 21)) (h2 : ¬ (0 < p ∧ p ≤ 21)) (h3 : -6 < p) (h4 : p ≤ 0) : [48, 46] ++ List.replicate (0 - p).toNat 48 ++ l = laid l p := by unfold laid; rw [if_neg h1, if_neg h2, if_pos ⟨h3, h4⟩]; simp
theorem laid_4 {l : List Nat} {p : Int} (h1 : ¬ ((l.length : Int) ≤ p ∧ p ≤ 21)) (h2 : ¬ (0 < p ∧ p ≤ 21)) (h3 : ¬ (-6 < p ∧ p ≤ 0)) : wE l (p - 1) = laid l p := by unfold laid; rw [if_neg h1, if_neg h2, if_neg h3]

theorem spec_laid_out (l : List Nat) (t1 : Tok) (p : Int) (t2 : Tok) (h0 : 1 ≤ l.length) (hl : l.length ≤ 1000) (h1 : -2000 ≤ p) (h2 : p ≤ 2000) : Spec 3 154 [.str (sOf l) t1, .int p t2] [] (retS (sOf (laid l p))) := by
  unfold Spec
  k_fill
  intro w pg loose mean mg mb dp un gd cn cs ad ccd cl outer A₀ base h₀ L fm news s Q E B F X N T hk hd hu hneed hret
  refine wpAny_call ?_
  k_dflt cell_enter
  k_steps
  all_goals (refine' retS_of hret ?_ ?F ?N ?ss; (case F => k_asm); (case N => k_asm); (case ss => (intro p9 hp9; repeat (first | exact hp9 | refine List.Mem.tail _ ?_))))
  all_goals first
    | (refine congrArg sOf (laid_1 ?_ ?_) <;> omega)
    | (refine congrArg sOf (laid_2 ?_ ?_ ?_) <;> omega)
    | (refine congrArg sOf (laid_3 ?_ ?_ ?_ ?_) <;> omega)
    | (refine congrArg sOf (laid_4 ?_ ?_ ?_) <;> omega)

theorem spec_without_figures (b : Int) (t1 : Tok) (h0 : 0 ≤ b) (h1 : b % 9223372036854775808 < 9218868437227405312) : Spec 2 161 [.int b t1] [] (retN) := by
  unfold Spec
  k_fill
  intro w pg loose mean mg mb dp un gd cn cs ad ccd cl outer A₀ base h₀ L fm news s Q E B F X N T hk hd hu hneed hret
  refine wpAny_call ?_
  k_dflt cell_enter
  k_steps
  all_goals (refine' retN_of hret ?F ?N ?ss; (case F => k_asm); (case N => k_asm); (case ss => (intro p9 hp9; repeat (first | exact hp9 | refine List.Mem.tail _ ?_))))
  all_goals first | (exfalso; omega)

end Mine
end
section
open PySem PySem.W PyProof.Rows PySem.Calls PySem.Spec
namespace Mine
open PySem.Builtin.Int (intBits)
/-- signs that the layout uses -/
def okc (c : Nat) : Prop := c ∈ [43, 45, 46, 48, 49, 50, 51, 52, 53, 54, 55, 56, 57, 101]
theorem bl1 : ∀ c : Nat, okc c → c ∉ (sO (x := pw.main.body[38]?) rfl).cps.toList := by
  unfold okc; decide +kernel
theorem bl2 : ∀ c : Nat, okc c → c ∉ (sO (x := pw.main.body[39]?) rfl).cps.toList := by
  unfold okc; decide +kernel
def figF (c : Nat) : Int := if 48 ≤ c ∧ c ≤ 57 then c - 48 else if 97 ≤ c ∧ c ≤ 122 then c - 87 else if 65 ≤ c ∧ c ≤ 90 then c - 55 else 36
theorem figF_rng (c : Nat) : 0 ≤ figF c ∧ figF c ≤ 36 := by
  unfold figF; (repeat' split) <;> omega
theorem figF_1 {c : Nat} (h1 : 48 ≤ c) (h2 : c ≤ 57) : (c : Int) - 48 = figF c := by unfold figF; rw [if_pos ⟨h1, h2⟩]
theorem figF_2 {c : Nat} (h0 : ¬ (48 ≤ c ∧ c ≤ 57)) (h1 : 97 ≤ c) (h2 : c ≤ 122) : (c : Int) - 87 = figF c := by unfold figF; rw [if_neg h0, if_pos ⟨h1, h2⟩]
theorem figF_3 {c : Nat} (h0 : ¬ (48 ≤ c ∧ c ≤ 57)) (h' : ¬ (97 ≤ c ∧ c ≤ 122)) (h1 : 65 ≤ c) (h2 : c ≤ 90) : (c : Int) - 55 = figF c := by unfold figF; rw [if_neg h0, if_neg h', if_pos ⟨h1, h2⟩]
theorem figF_4 {c : Nat} (h0 : ¬ (48 ≤ c ∧ c ≤ 57)) (h' : ¬ (97 ≤ c ∧ c ≤ 122)) (h'' : ¬ (65 ≤ c ∧ c ≤ 90)) : 36 = figF c := by unfold figF; rw [if_neg h0, if_neg h', if_neg h'']
def dgt (c : Nat) : Bool := decide (48 ≤ c ∧ c ≤ 57)
theorem dgt_iff {c : Nat} : figF c < 10 ↔ dgt c = true := by
  unfold dgt figF; rw [decide_eq_true_eq]; (repeat' split) <;> omega
/-- where the run of figures ends -/
def runE (l : List Nat) (a : Nat) : Nat := a + ((l.drop a).takeWhile dgt).length
theorem drop_getD {l : List Nat} {a : Nat} (h : a < l.length) : l.drop a = l.getD a 0 :: l.drop (a + 1) := by
  rw [List.drop_eq_getElem_cons h]; congr 1; rw [List.getD_eq_getElem?_getD, List.getElem?_eq_getElem h]; rfl
theorem runE_go {l : List Nat} {a : Nat} (h : a < l.length) (hd : dgt (l.getD a 0) = true) : runE l a = runE l (a + 1) := by
  unfold runE; rw [drop_getD h, List.takeWhile_cons, if_pos hd, List.length_cons]; omega
theorem runE_stop {l : List Nat} {a : Nat} (hd : ¬ dgt (l.getD a 0) = true) : runE l a = a := by
  unfold runE
  rcases Nat.lt_or_ge a l.length with h | h
  · rw [drop_getD h, List.takeWhile_cons, if_neg hd]; rfl
  · rw [List.drop_of_length_le h]; rfl
theorem runE_end {l : List Nat} {a : Nat} (h : l.length ≤ a) : runE l a = a := by
  unfold runE; rw [List.drop_of_length_le h]; rfl
theorem runE_rng {l : List Nat} {a : Nat} (h : a ≤ l.length) : a ≤ runE l a ∧ runE l a ≤ l.length := by
  unfold runE
  have h1 : ((l.drop a).takeWhile dgt).length ≤ (l.drop a).length := (List.takeWhile_sublist dgt).length_le
  rw [List.length_drop] at h1; omega
theorem run_st {l : List Nat} {a x : Int} (h0 : 0 ≤ a) (h1 : a ≤ x) (_ : x ≤ l.length) (h3 : runE l x.toNat = runE l a.toNat) (h4 : x < l.length) (h5 : figF (l.getD x.toNat 0) < 10) :
    a ≤ x + 1 ∧ x + 1 ≤ l.length ∧ runE l (x + 1).toNat = runE l a.toNat := by
  refine ⟨by omega, by omega, ?_⟩
  rw [← h3, runE_go (l := l) (a := x.toNat) (by omega) (dgt_iff.mp h5)]
  congr 1; omega
theorem run_e1 {l : List Nat} {a x : Int} (h0 : 0 ≤ a) (h1 : a ≤ x) (h3 : runE l x.toNat = runE l a.toNat) (h4 : ¬ x < l.length) : x = (runE l a.toNat : Int) := by
  rw [← h3, runE_end (by omega)]; omega
theorem run_e2 {l : List Nat} {a x : Int} (h0 : 0 ≤ a) (h1 : a ≤ x) (h3 : runE l x.toNat = runE l a.toNat) (h5 : ¬ figF (l.getD x.toNat 0) < 10) : x = (runE l a.toNat : Int) := by
  rw [← h3, runE_stop (fun q => h5 (dgt_iff.mpr q))]; omega
/-- the number that figures tell -/
def wv (l : List Nat) : Int := l.foldl (fun a c => a * 10 + figF c) 0
theorem wv_snoc (l : List Nat) (c : Nat) : wv (l ++ [c]) = wv l * 10 + figF c := by unfold wv; rw [List.foldl_append]; rfl
theorem wv_bnd_r : ∀ (l : List Nat), 0 ≤ wv l.reverse ∧ wv l.reverse < 64 ^ l.length := by
  intro l
  induction l with
  | nil => exact ⟨by decide, by decide⟩
  | cons c l ih =>
    rw [List.reverse_cons, wv_snoc, List.length_cons, Int.pow_succ]
    have := figF_rng c
    omega
theorem wv_bnd (l : List Nat) : 0 ≤ wv l ∧ wv l < 64 ^ l.length := by
  have := wv_bnd_r l.reverse
  rwa [List.reverse_reverse, List.length_reverse] at this
theorem wv_bits (l : List Nat) : intBits (wv l) ≤ 6 * l.length := by
  have h := wv_bnd l
  refine intBits_le_iff.mpr ?_
  have e : ((64 : Int) ^ l.length) = ((2 ^ (6 * l.length) : Nat) : Int) := by
    rw [Nat.pow_mul]; simp
  rw [e] at h
  omega
structure WInv (l : List Nat) (b : Int) (pre : List Int) (x : Int) : Prop where
  e : x = wv ((l.drop b.toNat).take pre.length)
  n : 0 ≤ x
  z : intBits x ≤ 6 * pre.length
theorem winv_of {l : List Nat} {b : Int} {pre : List Int} {x : Int} (e : x = wv ((l.drop b.toNat).take pre.length)) : WInv l b pre x := by
  refine ⟨e, e ▸ (wv_bnd _).1, ?_⟩
  have := wv_bits ((l.drop b.toNat).take pre.length)
  rw [← e, List.length_take] at this
  omega
theorem winv_0 {l : List Nat} {b : Int} : WInv l b [] 0 := winv_of rfl
theorem wv_snoc_opt {a : List Nat} {o : Option Nat} {x : Int} {c : Nat} (e : x = wv a) (h : o = some c) : wv (a ++ o.toList) = x * 10 + figF c := by
  subst h; rw [e]; exact wv_snoc a c
theorem winv_st {l : List Nat} {b : Int} {pre : List Int} {x k : Int} (h0 : 0 ≤ b) (I : WInv l b pre x) (hk : k = b + (pre.length : Int)) (hl : k < l.length) : WInv l b (pre ++ [k]) (x * 10 + figF (l.getD k.toNat 0)) := by
  refine winv_of ?_
  have hi : b.toNat + pre.length < l.length := by omega
  rw [List.length_append, List.length_singleton, List.take_add_one, wv_snoc_opt I.e ?_]
  · rw [List.getElem?_drop]
    have : b.toNat + pre.length = k.toNat := by omega
    rw [this]; simp [show k.toNat < l.length by omega]
theorem winv_end {l : List Nat} {b e : Int} {pre : List Int} {x : Int} (I : WInv l b pre x) (h : (pre.length : Int) = e - b) : x = wv ((l.drop b.toNat).take (e - b).toNat) := by
  rw [I.e]; congr 2; omega
def fdN (l : List Nat) (e : Int) : Int := if 0 ≤ e then wv l * 10 ^ e.toNat else wv l
def fdD (e : Int) : Int := if 0 ≤ e then 1 else 10 ^ (0 - e).toNat
def told (l : List Nat) : List Nat := l.dropWhile (· == 48)
structure FDOk (l : List Nat) (e : Int) : Prop where
  ln : l.length ≤ 900
  ne : told l ≠ []
  lo : -400 ≤ (told l).length + e
  hi : (told l).length + e ≤ 400
  e0 : -1500 ≤ e
  e1 : e ≤ 1500
  np : 0 < fdN (told l) e
  nb : intBits (fdN (told l) e) ≤ 2500
  db : intBits (fdD e) ≤ 1500
  rk : RROk (fdN (told l) e) (fdD e)
theorem told_len (l : List Nat) : (told l).length ≤ l.length := (List.dropWhile_sublist _).length_le
theorem fdD_pos (e : Int) : 0 < fdD e := by unfold fdD; split
                                            · decide
                                            · exact p10_pos _
def sgB (l : List Nat) (a : Int) : Bool := decide (l.getD a.toNat 0 = 45)
def sgN (l : List Nat) (a : Int) : Int := if l.getD a.toNat 0 = 43 ∨ l.getD a.toNat 0 = 45 then a + 1 else a
theorem getD_out {l : List Nat} {a : Nat} (h : l.length ≤ a) : l.getD a 0 = 0 := by
  rw [List.getD_eq_getElem?_getD, List.getElem?_eq_none h]; rfl
theorem sgN_rng {l : List Nat} {a : Int} (h0 : 0 ≤ a) (h1 : a ≤ l.length) : a ≤ sgN l a ∧ sgN l a ≤ l.length := by
  unfold sgN; split
  · rename_i h
    rcases Int.lt_or_le a l.length with q | q
    · omega
    · rw [getD_out (by omega)] at h; omega
  · omega
abbrev isE (l : List Nat) (a : Int) : Prop := l.getD a.toNat 0 = 101 ∨ l.getD a.toNat 0 = 69
def exB (l : List Nat) (a : Int) : Int := sgN l (a + 1)
def exN (l : List Nat) (a : Int) : Int := (runE l (exB l a).toNat : Int)
def exF (l : List Nat) (a : Int) : Int := wv ((l.drop (exB l a).toNat).take (exN l a - exB l a).toNat)
def min9 (x : Int) : Int := if 1000000000 < x then 1000000000 else x
def exV (l : List Nat) (a : Int) : Int := if isE l a ∧ exN l a ≠ exB l a then (if sgB l (a + 1) = true then 0 - min9 (exF l a) else min9 (exF l a)) else 0
def exE (l : List Nat) (a : Int) : Int := if isE l a ∧ exN l a ≠ exB l a then exN l a else a
def turnI (b : Int) (m : Bool) : Int := if m = true then b + 9223372036854775808 else b
def dPt (l : List Nat) (a : Int) : Int := (runE l a.toNat : Int)
abbrev isDot (l : List Nat) (a : Int) : Prop := l.getD (dPt l a).toNat 0 = 46
def dRun (l : List Nat) (a : Int) : Int := (runE l (dPt l a + 1).toNat : Int)
def dEnd (l : List Nat) (a : Int) : Int := if isDot l a then dRun l a else dPt l a
def dBeh (l : List Nat) (a : Int) : Int := if isDot l a then dRun l a - dPt l a - 1 else 0
def dFig (l : List Nat) (a : Int) : List Nat := if isDot l a then (l.drop a.toNat).take ((dPt l a).toNat - a.toNat) ++ (l.drop (dPt l a + 1).toNat).take ((dRun l a).toNat - (dPt l a + 1).toNat) else (l.drop a.toNat).take ((dPt l a).toNat - a.toNat)
def dExp (l : List Nat) (a : Int) : Int := exV l (dEnd l a) - dBeh l a
def dVal (l : List Nat) (a : Int) : Int := rr (fdN (told (dFig l a)) (dExp l a)) (fdD (dExp l a))
def dFin (l : List Nat) (a : Int) : Int := exE l (dEnd l a)
end Mine
end
section
open PySem PySem.W PyProof.Rows PySem.Calls PySem.Spec
namespace Mine
open PySem.Builtin.Int (intBits)

theorem spec_is_blank (c : Nat) (t1 : Tok) (hc : okc c) : Spec 1 175 [.str (sOf [c]) t1] [] (retB false) := by
  unfold Spec
  k_fill
  intro w pg loose mean mg mb dp un gd cn cs ad ccd cl outer A₀ base h₀ L fm news s Q E B F X N T hk hd hu hneed hret
  have hn1 := bl1 c hc
  have hn2 := bl2 c hc
  refine wpAny_call ?_
  k_dflt cell_enter
  k_steps
  all_goals (refine' retB_of hret ?_ ?F ?N ?ss; (case F => k_asm); (case N => k_asm); (case ss => (intro p9 hp9; repeat (first | exact hp9 | refine List.Mem.tail _ ?_))))
  all_goals first
    | (exact absurd (by assumption) hn1)
    | (exact decide_eq_false hn2)

theorem spec_skip_blanks (l : List Nat) (t1 : Tok) (t2 : Tok) (hl0 : 0 < l.length) (hl : l.length ≤ 1000) (hc : okc (l.getD 0 0)) : Spec 2 182 [.str (sOf l) t1, .int 0 t2] [] (retI 0) := by
  unfold Spec
  k_fill
  intro w pg loose mean mg mb dp un gd cn cs ad ccd cl outer A₀ base h₀ L fm news s Q E B F X N T hk hd hu hneed hret
  (k_with "exec While BoolOp cons nil" => k_while (fun _ x => x = 0) (fun _ _ => 0) "at")
  (k_with "state" => rfl)
  (k_with "prem" => (rename (_ = 0) => hx9; rw [hx9]; exact hc))
  refine wpAny_call ?_
  k_dflt cell_enter
  k_steps
  all_goals (refine' retI_of hret ?_ ?F ?N ?ss; (case F => k_asm); (case N => k_asm); (case ss => (intro p9 hp9; repeat (first | exact hp9 | refine List.Mem.tail _ ?_))))
  all_goals first | assumption | (exfalso; omega)

theorem spec_trimmed (l : List Nat) (t1 : Tok) (hl0 : 0 < l.length) (hl : l.length ≤ 1000) (hc : okc (l.getD 0 0)) (hc2 : okc (l.getD (l.length - 1) 0)) : Spec 3 189 [.str (sOf l) t1] [] (retS (sOf l)) := by
  unfold Spec
  k_fill
  intro w pg loose mean mg mb dp un gd cn cs ad ccd cl outer A₀ base h₀ L fm news s Q E B F X N T hk hd hu hneed hret
  (k_with "exec While BoolOp cons nil" => k_while (fun _ x => x = (l.length : Int)) (fun _ _ => 0) "end")
  (k_with "state" => rfl)
  (k_with "prem" => (rename (_ = (l.length : Int)) => hx9; rw [hx9, show ((l.length : Int) - 1).toNat = l.length - 1 by omega]; exact hc2))
  refine wpAny_call ?_
  k_dflt cell_enter
  k_steps
  all_goals (refine' retS_of hret ?_ ?F ?N ?ss; (case F => k_asm); (case N => k_asm); (case ss => (intro p9 hp9; repeat (first | exact hp9 | refine List.Mem.tail _ ?_))))
  all_goals (rename (_ = (l.length : Int)) => hx9; subst hx9)
  all_goals (refine congrArg sOf ?_; simp)

theorem spec_figure_of (c : Nat) (t1 : Tok) : Spec 1 196 [.str (sOf [c]) t1] [] (retI (figF c)) := by
  unfold Spec
  k_fill
  intro w pg loose mean mg mb dp un gd cn cs ad ccd cl outer A₀ base h₀ L fm news s Q E B F X N T hk hd hu hneed hret
  refine wpAny_call ?_
  k_dflt cell_enter
  k_steps
  all_goals (refine' retI_of hret ?_ ?F ?N ?ss; (case F => k_asm); (case N => k_asm); (case ss => (intro p9 hp9; repeat (first | exact hp9 | refine List.Mem.tail _ ?_))))
  all_goals first
    | (refine figF_1 ?_ ?_ <;> omega)
    | (refine figF_2 ?_ ?_ ?_ <;> omega)
    | (refine figF_3 ?_ ?_ ?_ ?_ <;> omega)
    | (refine figF_4 ?_ ?_ ?_ <;> omega)

theorem spec_run_end (l : List Nat) (t1 : Tok) (a : Int) (t2 : Tok) (t3 : Tok) (h0 : 0 ≤ a) (h1 : a ≤ l.length) (hl : l.length ≤ 1000) : Spec 2 203 [.str (sOf l) t1, .int a t2, .int 10 t3] [] (retI (runE l a.toNat : Int)) := by
  unfold Spec
  k_fill
  intro w pg loose mean mg mb dp un gd cn cs ad ccd cl outer A₀ base h₀ L fm news s Q E B F X N T hk hd hu hneed hret
  (k_with "exec While BoolOp cons nil" => k_while (fun _ x => a ≤ x ∧ x ≤ l.length ∧ runE l x.toNat = runE l a.toNat) (fun _ x => (l.length - x).toNat) "at")
  (k_with "state" => first | exact run_st h0 (by assumption) (by assumption) (by assumption) (by assumption) (by assumption) | exact ⟨Int.le_refl _, h1, rfl⟩)
  refine wpAny_call ?_
  k_dflt cell_enter
  k_steps
  all_goals (refine' retI_of hret ?_ ?F ?N ?ss; (case F => k_asm); (case N => k_asm); (case ss => (intro p9 hp9; repeat (first | exact hp9 | refine List.Mem.tail _ ?_))))
  all_goals first
    | exact run_e1 h0 (by assumption) (by assumption) (by assumption)
    | exact run_e2 h0 (by assumption) (by assumption) (by assumption)

theorem spec_worth (l : List Nat) (t1 : Tok) (b : Int) (t2 : Tok) (e : Int) (t3 : Tok) (t4 : Tok) (h0 : 0 ≤ b) (h1 : b ≤ e) (h2 : e ≤ l.length) (hl : l.length ≤ 1000) : Spec 2 210 [.str (sOf l) t1, .int b t2, .int e t3, .int 10 t4] [] (retI (wv ((l.drop b.toNat).take (e - b).toNat))) := by
  unfold Spec
  k_fill
  intro w pg loose mean mg mb dp un gd cn cs ad ccd cl outer A₀ base h₀ L fm news s Q E B F X N T hk hd hu hneed hret
  (k_with "pyIter ref" => k_state (fun pre x => WInv l b pre x) "found")
  (k_with "state" => first | exact winv_0 | exact winv_st h0 (by assumption) (by assumption) (by omega))
  refine wpAny_call ?_
  k_dflt cell_enter
  k_steps
  all_goals (refine' retI_of hret ?_ ?F ?N ?ss; (case F => k_asm); (case N => k_asm); (case ss => (intro p9 hp9; repeat (first | exact hp9 | refine List.Mem.tail _ ?_))))
  rename (WInv _ _ _ _) => hW9
  exact winv_end hW9 (by rw [rangeKs_length]; omega)

end Mine
end
section
open PySem PySem.W PyProof.Rows PySem.Calls PySem.Spec
namespace Mine
open PySem.Builtin.Int (intBits)

theorem wv_whole (l : List Nat) : wv ((l.drop (0 : Int).toNat).take ((l.length : Int) - 0).toNat) = wv l := by
  congr 1; simp
theorem fd_a {l : List Nat} {e : Int} (h : 0 ≤ e) : fdN l e = wv l * 10 ^ e.toNat ∧ fdD e = 1 := by unfold fdN fdD; rw [if_pos h, if_pos h]; exact ⟨rfl, rfl⟩
theorem fd_b {l : List Nat} {e : Int} (h : ¬ 0 ≤ e) : fdN l e = wv l ∧ fdD e = 10 ^ (0 - e).toNat := by unfold fdN fdD; rw [if_neg h, if_neg h]; exact ⟨rfl, rfl⟩
theorem mem_pm {c : Nat} : c ∈ (sOf [43, 45]).cps.toList ↔ c = 43 ∨ c = 45 := by rw [sOf_list]; simp
theorem sgB_1 {l : List Nat} {a : Int} : ([l.getD a.toNat 0] == [45]) = sgB l a := by
  unfold sgB
  rw [Bool.eq_iff_iff, beq_iff_eq, decide_eq_true_eq]; simp
theorem sgB_2 {l : List Nat} {a : Int} (h : ¬ l.getD a.toNat 0 ∈ (sOf [43, 45]).cps.toList) : false = sgB l a := by
  unfold sgB; rw [decide_eq_false fun q => h (mem_pm.mpr (.inr q))]
theorem sgB_3 {l : List Nat} {a : Int} (h : ¬ a < l.length) : false = sgB l a := by
  unfold sgB; rw [getD_out (by omega)]; rfl
theorem sgN_1 {l : List Nat} {a : Int} (h : l.getD a.toNat 0 ∈ (sOf [43, 45]).cps.toList) : a + 1 = sgN l a := by
  unfold sgN; rw [if_pos (mem_pm.mp h)]
theorem sgN_2 {l : List Nat} {a : Int} (h : ¬ l.getD a.toNat 0 ∈ (sOf [43, 45]).cps.toList) : a = sgN l a := by
  unfold sgN; rw [if_neg fun q => h (mem_pm.mpr q)]
theorem sgN_3 {l : List Nat} {a : Int} (h : ¬ a < l.length) : a = sgN l a := by
  unfold sgN; rw [getD_out (by omega)]; rfl

theorem spec_from_decimal (l : List Nat) (t1 : Tok) (e : Int) (t2 : Tok) (ok : FDOk l e) : Spec 5 217 [.str (sOf l) t1, .int e t2] [] (retI (rr (fdN (told l) e) (fdD e))) := by
  unfold Spec
  k_fill
  intro w pg loose mean mg mb dp un gd cn cs ad ccd cl outer A₀ base h₀ L fm news s Q E B F X N T hk hd hu hneed hret
  obtain ⟨fl, fne, flo, fhi, fe0, fe1, fnp, fnb, fdb, frk⟩ := ok
  have hle := told_len l
  have hz := wv_bits (told l)
  have hdp := fdD_pos e
  have hne : ((told l) == []) = false := by rw [beq_eq_false_iff_ne]; exact fne
  obtain ⟨T, hT⟩ : ∃ T, T = told l := ⟨_, rfl⟩
  rw [← hT] at hle hz hne flo fhi fne fnp fnb frk
  have fA : 0 ≤ e → 0 < wv T * 10 ^ e.toNat ∧ intBits (wv T * 10 ^ e.toNat) ≤ 2500 ∧ RROk (wv T * 10 ^ e.toNat) 1 := fun h => by
    have q := fd_a (l := T) h
    rw [q.1] at fnp fnb frk; rw [q.2] at frk
    exact ⟨fnp, fnb, frk⟩
  have fB : ¬ 0 ≤ e → 0 < wv T ∧ intBits (wv T) ≤ 2500 ∧ 0 < (10 : Int) ^ (0 - e).toNat ∧ intBits ((10 : Int) ^ (0 - e).toNat) ≤ 1500 ∧ RROk (wv T) (10 ^ (0 - e).toNat) := fun h => by
    have q := fd_b (l := T) h
    rw [q.1] at fnp fnb frk; rw [q.2] at frk hdp fdb
    exact ⟨fnp, fnb, hdp, fdb, frk⟩
  have one1 : (0 : Int) < 1 ∧ intBits (1 : Int) ≤ 1500 := ⟨by decide, by decide⟩
  (k_with "prem" => first | exact (fA (by assumption)).1 | exact (fA (by assumption)).2.1 | exact (fA (by assumption)).2.2 | exact (fB (by assumption)).1 | exact (fB (by assumption)).2.1 | exact (fB (by assumption)).2.2.1 | exact (fB (by assumption)).2.2.2.1 | exact (fB (by assumption)).2.2.2.2 | exact one1.1 | exact one1.2)
  have hTf : List.dropWhile (fun x => x == 48) l = T := hT.symm
  (k_with "fold" => first | rw [hTf] | rw [wv_whole])
  clear fnp fnb frk hdp fdb
  refine wpAny_call ?_
  k_dflt cell_enter
  k_steps
  all_goals (refine' retI_of hret ?_ ?F ?N ?ss; (case F => k_asm); (case N => k_asm); (case ss => (intro p9 hp9; repeat (first | exact hp9 | refine List.Mem.tail _ ?_))))
  all_goals first
    | (exfalso; omega)
    | (rw [← hT, (fd_a (l := T) (by assumption)).1, (fd_a (l := T) (by assumption)).2])
    | (rw [← hT, (fd_b (l := T) (by assumption)).1, (fd_b (l := T) (by assumption)).2])

theorem spec_sign_at (l : List Nat) (t1 : Tok) (a : Int) (t2 : Tok) (h0 : 0 ≤ a) (h1 : a ≤ l.length) (hl : l.length ≤ 1000) : Spec 2 224 [.str (sOf l) t1, .int a t2] [] (retT2 (fun _ => .bool (sgB l a)) (.int (sgN l a))) := by
  unfold Spec
  k_fill
  intro w pg loose mean mg mb dp un gd cn cs ad ccd cl outer A₀ base h₀ L fm news s Q E B F X N T hk hd hu hneed hret
  refine wpAny_call ?_
  k_dflt cell_enter
  k_steps
  all_goals (refine' retT2_of hret ?F ?N ?mm ?ss ?_ ?_; (case F => k_asm); (case N => k_asm); (case mm => k_mem); (case ss => (intro p9 hp9; repeat (first | exact hp9 | refine List.Mem.tail _ ?_))))
  all_goals first | refine is_I ?_ | refine is_Bo ?_
  all_goals first | exact sgB_1 | exact sgB_2 (by assumption) | exact sgB_3 (by assumption) | exact sgN_1 (by assumption) | exact sgN_2 (by assumption) | exact sgN_3 (by assumption)

theorem spec_turned (b : Int) (t1 : Tok) (m : Bool) (h0 : 0 ≤ b) (h1 : b < 9223372036854775808) : Spec 2 231 [.int b t1, .bool m] [] (retI (turnI b m)) := by
  unfold Spec
  k_fill
  intro w pg loose mean mg mb dp un gd cn cs ad ccd cl outer A₀ base h₀ L fm news s Q E B F X N T hk hd hu hneed hret
  refine wpAny_call ?_
  k_dflt cell_enter
  k_steps
  all_goals (refine' retI_of hret ?_ ?F ?N ?ss; (case F => k_asm); (case N => k_asm); (case ss => (intro p9 hp9; repeat (first | exact hp9 | refine List.Mem.tail _ ?_))))
  all_goals first
    | (rename (m = true) => hm; subst hm; exact bXor_sign h0 h1)
    | (rename (m = false) => hm; subst hm; rfl)

end Mine
end
section
open PySem PySem.W PyProof.Rows PySem.Calls PySem.Spec
namespace Mine
open PySem.Builtin.Int (intBits)

theorem mem_eE {c : Nat} : c ∈ (sOf [101, 69]).cps.toList ↔ c = 101 ∨ c = 69 := by rw [sOf_list]; simp
theorem ex_no {l : List Nat} {a : Int} (h : ¬ (isE l a ∧ exN l a ≠ exB l a)) : 0 = exV l a ∧ a = exE l a := by
  unfold exV exE; rw [if_neg h, if_neg h]; exact ⟨rfl, rfl⟩
theorem ex_1 {l : List Nat} {a : Int} (h : (l.length : Int) ≤ a) : 0 = exV l a ∧ a = exE l a := ex_no fun q => by
  have := q.1; unfold isE at this; rw [getD_out (by omega)] at this; omega
theorem ex_2 {l : List Nat} {a : Int} (h : (runE l (sgN l (a + 1)).toNat : Int) = sgN l (a + 1)) : 0 = exV l a ∧ a = exE l a := ex_no fun q => q.2 h
theorem ex_3 {l : List Nat} {a : Int} (h : ¬ l.getD a.toNat 0 ∈ (sOf [101, 69]).cps.toList) : 0 = exV l a ∧ a = exE l a := ex_no fun q => h (mem_eE.mpr q.1)
theorem ex_4 {l : List Nat} {a : Int} (h : l.getD a.toNat 0 ∈ (sOf [101, 69]).cps.toList) (h2 : (runE l (sgN l (a + 1)).toNat : Int) ≠ sgN l (a + 1)) : (runE l (sgN l (a + 1)).toNat : Int) = exE l a := by
  unfold exE; rw [if_pos ⟨mem_eE.mp h, h2⟩]; rfl
theorem min9_eq {x : Int} : (if (10 : Int) ^ Int.toNat 9 < x then (10 : Int) ^ Int.toNat 9 else x) = min9 x := by
  rw [show (10 : Int) ^ Int.toNat 9 = 1000000000 by decide]; rfl
theorem ex_5 {l : List Nat} {a : Int} (h : l.getD a.toNat 0 ∈ (sOf [101, 69]).cps.toList) (h2 : (runE l (sgN l (a + 1)).toNat : Int) ≠ sgN l (a + 1)) (h3 : sgB l (a + 1) = true) : 0 - min9 (exF l a) = exV l a := by
  unfold exV; rw [if_pos ⟨mem_eE.mp h, h2⟩, if_pos h3]
theorem ex_6 {l : List Nat} {a : Int} (h : l.getD a.toNat 0 ∈ (sOf [101, 69]).cps.toList) (h2 : (runE l (sgN l (a + 1)).toNat : Int) ≠ sgN l (a + 1)) (h3 : sgB l (a + 1) = false) : min9 (exF l a) = exV l a := by
  unfold exV; rw [if_pos ⟨mem_eE.mp h, h2⟩, if_neg (by rw [h3]; decide)]
theorem exE_rng {l : List Nat} {a : Int} (h0 : 0 ≤ a) (h1 : a ≤ l.length) : 0 ≤ exE l a ∧ exE l a ≤ l.length := by
  unfold exE; split
  · rename_i h
    have hA : a < l.length := by
      rcases Int.lt_or_le a l.length with q | q
      · exact q
      · have := h.1; unfold isE at this; rw [getD_out (by omega)] at this; omega
    have h2 := sgN_rng (l := l) (a := a + 1) (by omega) (by omega)
    have h3 := runE_rng (l := l) (a := (sgN l (a + 1)).toNat) (by omega)
    unfold exN exB; omega
  · exact ⟨h0, h1⟩
theorem not_inf {l : List Nat} {a : Int} {k : Nat} (h : l.getD a.toNat 0 ≠ 73) : (sOf ((l.drop a.toNat).take k) == Str.ofString "Infinity") = false := by
  rw [show Str.ofString "Infinity" = sOf [73, 110, 102, 105, 110, 105, 116, 121] from rfl, sOf_beq, beq_eq_false_iff_ne]
  intro e
  rcases Nat.lt_or_ge a.toNat l.length with q | q
  · rw [drop_getD q] at e
    cases k with
    | zero => simp at e
    | succ k => rw [List.take_succ_cons] at e; exact h (List.cons.inj e).1
  · rw [List.drop_of_length_le q] at e; simp at e
theorem dotA {l : List Nat} {a : Int} (h : ([l.getD ((runE l a.toNat : Nat) : Int).toNat 0] == [46]) = true) :
    dFig l a = (l.drop a.toNat).take (((runE l a.toNat : Nat) : Int).toNat - a.toNat) ++ (l.drop (((runE l a.toNat : Nat) : Int) + 1).toNat).take (((runE l (((runE l a.toNat : Nat) : Int) + 1).toNat : Nat) : Int).toNat - (((runE l a.toNat : Nat) : Int) + 1).toNat)
    ∧ dExp l a = exV l ((runE l (((runE l a.toNat : Nat) : Int) + 1).toNat : Nat) : Int) - (((runE l (((runE l a.toNat : Nat) : Int) + 1).toNat : Nat) : Int) - ((runE l a.toNat : Nat) : Int) - 1)
    ∧ dFin l a = exE l ((runE l (((runE l a.toNat : Nat) : Int) + 1).toNat : Nat) : Int) := by
  have hd : isDot l a := by unfold isDot dPt; simpa using h
  refine ⟨?_, ?_, ?_⟩
  · unfold dFig; rw [if_pos hd]; rfl
  · unfold dExp dEnd dBeh; rw [if_pos hd, if_pos hd]; rfl
  · unfold dFin dEnd; rw [if_pos hd]; rfl
theorem dotB {l : List Nat} {a : Int} (hd : ¬ isDot l a) :
    dFig l a = (l.drop a.toNat).take (((runE l a.toNat : Nat) : Int).toNat - a.toNat)
    ∧ dExp l a = exV l ((runE l a.toNat : Nat) : Int) - 0
    ∧ dFin l a = exE l ((runE l a.toNat : Nat) : Int) := by
  refine ⟨?_, ?_, ?_⟩
  · unfold dFig; rw [if_neg hd]; rfl
  · unfold dExp dEnd dBeh; rw [if_neg hd, if_neg hd]; rfl
  · unfold dFin dEnd; rw [if_neg hd]; rfl
theorem nodot_1 {l : List Nat} {a : Int} (h : ([l.getD ((runE l a.toNat : Nat) : Int).toNat 0] == [46]) = false) : ¬ isDot l a := fun hd => by
  unfold isDot dPt at hd; rw [hd] at h; exact absurd h (by decide)
theorem nodot_2 {l : List Nat} {a : Int} (h : ¬ ((runE l a.toNat : Nat) : Int) < l.length) : ¬ isDot l a := fun hd => by
  unfold isDot dPt at hd; rw [getD_out (by omega)] at hd; exact absurd hd (by decide)
theorem fd_cast {l l' : List Nat} {e e' : Int} (ok : FDOk l e) (h1 : l = l') (h2 : e = e') : FDOk l' e' := by subst h1 h2; exact ok
theorem dval_of {l l' : List Nat} {a e' : Int} (h1 : dFig l a = l') (h2 : dExp l a = e') : rr (fdN (told l') e') (fdD e') = dVal l a := by subst h1 h2; rfl
theorem none_of {F G : List Nat} (h : G = F) (hF : G ≠ []) (h2 : (F == []) = true) : False := hF (h.trans (beq_iff_eq.mp h2))
structure DOk (l : List Nat) (a : Int) : Prop where
  h0 : 0 ≤ a
  h1 : a ≤ l.length
  hl : l.length ≤ 1000
  hI : l.getD a.toNat 0 ≠ 73
  hF : dFig l a ≠ []
  ok : FDOk (dFig l a) (dExp l a)

theorem spec_exponent_at (l : List Nat) (t1 : Tok) (a : Int) (t2 : Tok) (h0 : 0 ≤ a) (h1 : a ≤ l.length) (hl : l.length ≤ 1000) : Spec 3 238 [.str (sOf l) t1, .int a t2] [] (retT2 (.int (exV l a)) (.int (exE l a))) := by
  unfold Spec
  k_fill
  intro w pg loose mean mg mb dp un gd cn cs ad ccd cl outer A₀ base h₀ L fm news s Q E B F X N T hk hd hu hneed hret
  have hA : a < l.length → a + 1 ≤ sgN l (a + 1) ∧ sgN l (a + 1) ≤ l.length := fun h => sgN_rng (by omega) (by omega)
  have hB : a < l.length → sgN l (a + 1) ≤ (runE l (sgN l (a + 1)).toNat : Int) ∧ (runE l (sgN l (a + 1)).toNat : Int) ≤ l.length := fun h => by
    have h2 := hA h
    have h3 := runE_rng (l := l) (a := (sgN l (a + 1)).toNat) (by omega)
    omega
  (k_with "prem" => first | (have h29 := hA (by omega); omega) | (have h29 := hA (by omega); have h39 := hB (by omega); omega))
  refine wpAny_call ?_
  k_dflt cell_enter
  k_steps
  all_goals (refine' retT2_of hret ?F ?N ?mm ?ss ?_ ?_; (case F => k_asm); (case N => k_asm); (case mm => k_mem); (case ss => (intro p9 hp9; repeat (first | exact hp9 | refine List.Mem.tail _ ?_))))
  all_goals refine is_I ?_
  all_goals first
    | exact (ex_1 (by assumption)).1 | exact (ex_1 (by assumption)).2 | exact (ex_2 (by assumption)).1 | exact (ex_2 (by assumption)).2 | exact (ex_3 (by assumption)).1 | exact (ex_3 (by assumption)).2
    | exact ex_4 (by assumption) (by assumption)
    | (rw [min9_eq]; exact ex_5 (by assumption) (by assumption) (by assumption))
    | (rw [min9_eq]; exact ex_6 (by assumption) (by assumption) (by assumption))

theorem spec_decimal_at (l : List Nat) (t1 : Tok) (a : Int) (t2 : Tok) (ok : DOk l a) : Spec 6 245 [.str (sOf l) t1, .int a t2] [] (retT2 (.int (dVal l a)) (.int (dFin l a))) := by
  unfold Spec
  k_fill
  intro w pg loose mean mg mb dp un gd cn cs ad ccd cl outer A₀ base h₀ L fm news s Q E B F X N T hk hd hu hneed hret
  obtain ⟨h0, h1, hl, hI, hF, ok⟩ := ok
  have hp : a ≤ (runE l a.toNat : Int) ∧ (runE l a.toNat : Int) ≤ l.length := by
    have h3 := runE_rng (l := l) (a := a.toNat) (by omega)
    omega
  have hq : (runE l a.toNat : Int) < l.length → (runE l a.toNat : Int) + 1 ≤ (runE l ((runE l a.toNat : Int) + 1).toNat : Int) ∧ (runE l ((runE l a.toNat : Int) + 1).toNat : Int) ≤ l.length := fun h => by
    have h3 := runE_rng (l := l) (a := ((runE l a.toNat : Int) + 1).toNat) (by omega)
    omega
  have hni := not_inf (k := (a + 8).toNat - a.toNat) hI
  (k_with "prem" => first
    | exact fd_cast ok (dotA (by assumption)).1 (dotA (by assumption)).2.1
    | exact fd_cast ok (dotB (nodot_1 (by assumption))).1 (dotB (nodot_1 (by assumption))).2.1
    | exact fd_cast ok (dotB (nodot_2 (by assumption))).1 (dotB (nodot_2 (by assumption))).2.1)
  refine wpAny_call ?_
  k_dflt cell_enter
  k_steps
  all_goals first
    | (exfalso; exact none_of (dotA (by assumption)).1 hF (by assumption))
    | (exfalso; exact none_of (dotB (nodot_1 (by assumption))).1 hF (by assumption))
    | (exfalso; exact none_of (dotB (nodot_2 (by assumption))).1 hF (by assumption))
    | skip
  all_goals (refine' retT2_of hret ?F ?N ?mm ?ss ?_ ?_; (case F => k_asm); (case N => k_asm); (case mm => k_mem); (case ss => (intro p9 hp9; repeat (first | exact hp9 | refine List.Mem.tail _ ?_))))
  all_goals refine is_I ?_
  all_goals first
    | exact dval_of (dotA (by assumption)).1 (dotA (by assumption)).2.1
    | exact dval_of (dotB (nodot_1 (by assumption))).1 (dotB (nodot_1 (by assumption))).2.1
    | exact dval_of (dotB (nodot_2 (by assumption))).1 (dotB (nodot_2 (by assumption))).2.1
    | exact (dotA (by assumption)).2.2.symm
    | exact (dotB (nodot_1 (by assumption))).2.2.symm
    | exact (dotB (nodot_2 (by assumption))).2.2.symm

end Mine
end
section
open PySem PySem.W PyProof.Rows PySem.Calls PySem.Spec
namespace Mine
open PySem.Builtin.Int (intBits)

structure TOk (l : List Nat) : Prop where
  n0 : 0 < l.length
  hl : l.length ≤ 1000
  c0 : okc (l.getD 0 0)
  c1 : okc (l.getD (l.length - 1) 0)
  x1 : (l.take 2 == [48, 120]) = false
  x2 : (l.take 2 == [48, 88]) = false
  d : DOk l (sgN l 0)
  f : dFin l (sgN l 0) = l.length
  v0 : 0 ≤ dVal l (sgN l 0)
  v1 : dVal l (sgN l 0) < 9223372036854775808
def t2n (l : List Nat) : Int := turnI (dVal l (sgN l 0)) (sgB l 0)
theorem l_ne {l : List Nat} (h : 0 < l.length) : (l == []) = false := by
  rw [beq_eq_false_iff_ne]; intro e; rw [e] at h; exact absurd h (by decide)

theorem spec_text_to_number (l : List Nat) (t1 : Tok) (ok : TOk l) : Spec 7 252 [.str (sOf l) t1] [] (retI (t2n l)) := by
  unfold Spec
  k_fill
  intro w pg loose mean mg mb dp un gd cn cs ad ccd cl outer A₀ base h₀ L fm news s Q E B F X N T hk hd hu hneed hret
  obtain ⟨n0, hl, c0, c1, x1, x2, d, hf, v0, v1⟩ := ok
  have hne := l_ne n0
  have hx1 : (l.take (Int.toNat 2) == [48, 120]) = false := x1
  have hx2 : (l.take (Int.toNat 2) == [48, 88]) = false := x2
  have z0 : (0 : Int) ≤ 0 ∧ (0 : Int) ≤ l.length := by omega
  refine wpAny_call ?_
  k_dflt cell_enter
  k_steps
  all_goals (refine' retI_of hret ?_ ?F ?N ?ss; (case F => k_asm); (case N => k_asm); (case ss => (intro p9 hp9; repeat (first | exact hp9 | refine List.Mem.tail _ ?_))))
  all_goals first | rfl | exact absurd hf (by assumption)

theorem fin_lt {b : Int} (fb : FinB b) : b % 9223372036854775808 < 9218868437227405312 := by
  have h := fb.p1
  unfold powr at h
  have he : expo b = b / 2 ^ 52 % 2048 := rfl
  split at h <;> omega
theorem fin_nz {b : Int} (fb : FinB b) : ¬ b % 9223372036854775808 = 0 := by
  intro h0
  have h := fb.m0
  have he : expo b = b / 2 ^ 52 % 2048 := rfl
  have hf : frac b = b % 2 ^ 52 := rfl
  unfold mant at h
  split at h <;> omega
theorem laid_len {l : List Nat} {p : Int} (hl : l.length ≤ 1000) (h1 : -2000 ≤ p) (h2 : p ≤ 2000) : (laid l p).length ≤ 5000 := by
  have := sgE_len (e := p - 1) (by omega) (by omega)
  unfold laid wE; (repeat' split) <;> simp only [List.length_append, List.length_cons, List.length_take, List.length_drop, List.length_replicate, List.length_nil] <;> omega
def shw (b : Int) (ds : List Int) : List Nat := if 9223372036854775808 ≤ b then 45 :: laid (sgn ds) (plB b) else laid (sgn ds) (plB b)
theorem plB_fin {b : Int} (fb : FinB b) : -2000 ≤ plB b ∧ plB b ≤ 2000 := by
  have := plB_rng fb.m0 (mant_rng b).2 (powr_rng b).1 fb.p1
  omega
theorem sgn_len (ds : List Int) : (sgn ds).length = ds.length := by unfold sgn; rw [List.length_map]

theorem spec_show (b : Int) (t1 : Tok) (ds : List Int) (fb : FinB b) (hg : GenB b ds) (hl0 : 1 ≤ ds.length) (hl : ds.length ≤ 1000) : Spec 5 168 [.int b t1] [] (retS (sOf (shw b ds))) := by
  unfold Spec
  k_fill
  intro w pg loose mean mg mb dp un gd cn cs ad ccd cl outer A₀ base h₀ L fm news s Q E B F X N T hk hd hu hneed hret
  have b0 := fb.h0
  have b1 := fb.h1
  have hlt := fin_lt fb
  have hnz := fin_nz fb
  have hpl := plB_fin fb
  have hll := laid_len (l := sgn ds) (p := plB b) (by rw [sgn_len]; exact hl) hpl.1 hpl.2
  have hsl : 1 ≤ (sgn ds).length ∧ (sgn ds).length ≤ 1000 := by rw [sgn_len]; exact ⟨hl0, hl⟩
  refine wpAny_call ?_
  k_dflt cell_enter
  k_steps
  all_goals (refine' retS_of hret ?_ ?F ?N ?ss; (case F => k_asm); (case N => k_asm); (case ss => (intro p9 hp9; repeat (first | exact hp9 | refine List.Mem.tail _ ?_))))
  all_goals first
    | (have hx : 9223372036854775808 ≤ b := by assumption
       unfold shw; rw [if_pos hx]; rfl)
    | (have hx : ¬ 9223372036854775808 ≤ b := by assumption
       unfold shw; rw [if_neg hx]; rfl)

end Mine
end
section
open PySem PySem.W PyProof.Rows PySem.Calls PySem.Spec
namespace Mine
open PySem.Builtin.Int (intBits)
def raN (b : Int) : Int := if 0 ≤ powr b then mant b * 2 ^ (powr b).toNat else mant b
def raD (b : Int) : Int := if 0 ≤ powr b then 1 else 2 ^ (0 - powr b).toNat
theorem expo_pos {b : Int} (_ : 0 ≤ b) (h1 : b < 9223372036854775808) : expo b = b / 2 ^ 52 := by unfold expo; omega
theorem mant_bits (b : Int) : intBits (mant b) ≤ 53 := by
  have := mant_rng b
  exact intBits_le_iff.mpr (show (mant b).natAbs < 2 ^ 53 by omega)
theorem raN_bits (b : Int) : intBits (raN b) ≤ 1100 := by
  have h1 := mant_bits b
  have h2 := powr_rng b
  have h3 := p2_bits (powr b).toNat
  have h4 : (powr b).toNat ≤ 972 := Int.toNat_le.mpr h2.2
  unfold raN; split
  · exact Nat.le_trans (intBits_mul_le h1 h3) (by omega)
  · omega
theorem raD_bits (b : Int) : intBits (raD b) ≤ 1100 := by
  have h2 := powr_rng b
  have h3 := p2_bits (0 - powr b).toNat
  have h4 : (0 - powr b).toNat ≤ 1074 := Int.toNat_le.mpr (by omega)
  unfold raD; split
  · decide
  · omega
theorem raD_pos (b : Int) : 0 < raD b := by
  unfold raD; split
  · decide
  · exact pow_pos' _
theorem raN_nonneg (b : Int) : 0 ≤ raN b := by
  unfold raN; split
  · exact Int.mul_nonneg (mant_rng b).1 (Int.le_of_lt (pow_pos' _))
  · exact (mant_rng b).1
/-- between two doubles -/
def beN (x y : Int) : Int := raN x * raD y + raN y * raD x
def beD (x y : Int) : Int := 2 * raD x * raD y
theorem beN_bits (x y : Int) : intBits (beN x y) ≤ 2300 := by
  have h1 := intBits_mul_le (raN_bits x) (raD_bits y)
  have h2 := intBits_mul_le (raN_bits y) (raD_bits x)
  have h3 := intBits_add_le h1 h2
  exact Nat.le_trans h3 (by decide)
theorem beD_bits (x y : Int) : intBits (beD x y) ≤ 2300 := by
  have h1 := intBits_mul_le (intBits_mul_le (show intBits 2 ≤ 2 by decide) (raD_bits x)) (raD_bits y)
  exact Nat.le_trans h1 (by decide)
def loV (n d b : Int) : Int := n * beD (b - 1) b - beN (b - 1) b * d
def hiV (n d b : Int) : Int := beN b (b + 1) * d - n * beD b (b + 1)
/-- n / d is read as b -/
def reads (n d b : Int) : Bool := if b % 2 = 0 then decide (0 ≤ loV n d b) && decide (0 ≤ hiV n d b) else decide (0 < loV n d b) && decide (0 < hiV n d b)
theorem reads_1 {n d b : Int} (h : b % 2 = 0) (h1 : 0 ≤ loV n d b) : decide (0 ≤ hiV n d b) = reads n d b := by unfold reads; rw [if_pos h, decide_eq_true h1, Bool.true_and]
theorem reads_2 {n d b : Int} (h : b % 2 = 0) (h1 : ¬ 0 ≤ loV n d b) : decide (0 ≤ loV n d b) = reads n d b := by unfold reads; rw [if_pos h, decide_eq_false h1, Bool.false_and]
theorem reads_3 {n d b : Int} (h : ¬ b % 2 = 0) (h1 : 0 < loV n d b) : decide (0 < hiV n d b) = reads n d b := by unfold reads; rw [if_neg h, decide_eq_true h1, Bool.true_and]
theorem reads_4 {n d b : Int} (h : ¬ b % 2 = 0) (h1 : ¬ 0 < loV n d b) : decide (0 < loV n d b) = reads n d b := by unfold reads; rw [if_neg h, decide_eq_false h1, Bool.false_and]
def teN (n s : Int) : Int := if 0 ≤ s then n * 10 ^ s.toNat else n
def teD (s : Int) : Int := if 0 ≤ s then 1 else 10 ^ (0 - s).toNat
theorem teD_pos (s : Int) : 0 < teD s := fdD_pos s
theorem teD_bits {s : Int} (h : -600 ≤ s) : intBits (teD s) ≤ 3000 := by
  have h3 := p10_bits (0 - s).toNat
  have h4 : (0 - s).toNat ≤ 600 := Int.toNat_le.mpr (by omega)
  unfold teD; split
  · decide
  · omega
theorem teN_bits {n s : Int} (hz : intBits n ≤ 500) (h : s ≤ 600) : intBits (teN n s) ≤ 3000 := by
  have h3 := p10_bits s.toNat
  have h4 : s.toNat ≤ 600 := Int.toNat_le.mpr (by omega)
  unfold teN; split
  · exact Nat.le_trans (intBits_mul_le hz h3) (by omega)
  · omega
end Mine
end
section
open PySem PySem.W PyProof.Rows PySem.Calls PySem.Spec
namespace Mine
open PySem.Builtin.Int (intBits)

theorem pow2_s {prog : Program} {w : World} {A : Around} {E : Value → Shared → Prop} {s : Shared} {n : Int} {t u : Tok} {Q : Value → Shared → Prop} (h0 : 0 ≤ n) (h1 : n ≤ 2000) (h : Q (.int (2 ^ n.toNat) s.toks) { s with toks := s.toks + 1 }) :
    wpAny (model prog w) A (binaryOp .Pow (.int 2 t) (.int n u)) Q E s := PyProof.Rows.pow_int_small h0 (by omega) (by decide) h
theorem p2_sz {n : Int} (h : n ≤ 2000) : intBits ((2 : Int) ^ n.toNat) ≤ 1000000 := by
  have h9 : n.toNat ≤ 2000 := Int.toNat_le.mpr h
  have h8 := p2_bits n.toNat
  omega
theorem shift52 {b : Int} (h0 : 0 ≤ b) (h1 : b < 9223372036854775808) : b.fdiv (2 ^ Int.toNat 52) = expo b := by
  rw [expo_pos h0 h1]; exact fd (by decide)

theorem ra_a {b : Int} (hs : b.fdiv (2 ^ Int.toNat 52) = expo b) (h : b.fdiv (2 ^ Int.toNat 52) = 0) : b % (2 : Int) ^ Int.toNat 52 = raN b ∧ (2 : Int) ^ ((0 : Int) - -1074).toNat = raD b := by
  have he : expo b = 0 := hs.symm.trans h
  have hp : powr b = -1074 := by unfold powr; rw [if_pos he]
  unfold raN raD
  rw [hp, if_neg (by decide), if_neg (by decide)]
  exact ⟨by unfold mant; rw [if_pos he]; rfl, rfl⟩
theorem ra_b {b : Int} (hs : b.fdiv (2 ^ Int.toNat 52) = expo b) (h : b.fdiv (2 ^ Int.toNat 52) ≠ 0) (h2 : 0 ≤ b.fdiv (2 ^ Int.toNat 52) - 1075) : (b % (2 : Int) ^ Int.toNat 52 + 2 ^ Int.toNat 52) * 2 ^ (b.fdiv (2 ^ Int.toNat 52) - 1075).toNat = raN b ∧ 1 = raD b := by
  rw [hs] at h h2 ⊢
  have hp : powr b = expo b - 1075 := by unfold powr; rw [if_neg h]
  unfold raN raD
  rw [hp, if_pos h2, if_pos h2]
  exact ⟨by unfold mant; rw [if_neg h]; rfl, rfl⟩
theorem ra_c {b : Int} (hs : b.fdiv (2 ^ Int.toNat 52) = expo b) (h : b.fdiv (2 ^ Int.toNat 52) ≠ 0) (h2 : ¬ 0 ≤ b.fdiv (2 ^ Int.toNat 52) - 1075) : b % (2 : Int) ^ Int.toNat 52 + 2 ^ Int.toNat 52 = raN b ∧ (2 : Int) ^ (0 - (b.fdiv (2 ^ Int.toNat 52) - 1075)).toNat = raD b := by
  rw [hs] at h h2 ⊢
  have hp : powr b = expo b - 1075 := by unfold powr; rw [if_neg h]
  unfold raN raD
  rw [hp, if_neg h2, if_neg h2]
  exact ⟨by unfold mant; rw [if_neg h]; rfl, rfl⟩

theorem spec_law_ratio (b : Int) (t1 : Tok) (h0 : 0 ≤ b) (h1 : b ≤ 9218868437227405312) : Spec 1 259 [.int b t1] [] (retT2 (.int (raN b)) (.int (raD b))) := by
  unfold Spec
  k_fill
  intro w pg loose mean mg mb dp un gd cn cs ad ccd cl outer A₀ base h₀ L fm news s Q E B F X N T hk hd hu hneed hret
  have hfr : 0 ≤ b % (2 : Int) ^ Int.toNat 52 ∧ b % (2 : Int) ^ Int.toNat 52 < 4503599627370496 := by
    show 0 ≤ b % 4503599627370496 ∧ b % 4503599627370496 < 4503599627370496
    omega
  have hsh := shift52 h0 (by omega)
  have her : 0 ≤ b.fdiv (2 ^ Int.toNat 52) ∧ b.fdiv (2 ^ Int.toNat 52) < 2048 := by rw [hsh]; exact expo_rng b
  have hmz : intBits (b % (2 : Int) ^ Int.toNat 52) ≤ 100 ∧ intBits (b % (2 : Int) ^ Int.toNat 52 + 2 ^ Int.toNat 52) ≤ 100 := by
    have e : (2 : Int) ^ Int.toNat 52 = 4503599627370496 := by decide
    rw [e] at hfr ⊢
    exact ⟨bits_le_of hfr.1 (y := 9007199254740992) (by omega) (by decide), bits_le_of (by omega) (y := 9007199254740992) (by omega) (by decide)⟩
  refine wpAny_call ?_
  k_dflt cell_enter
  k_steps
  all_goals (refine' retT2_of hret ?F ?N ?mm ?ss ?_ ?_; (case F => k_asm); (case N => k_asm); (case mm => k_mem); (case ss => (intro p9 hp9; repeat (first | exact hp9 | refine List.Mem.tail _ ?_))))
  all_goals refine is_I ?_
  all_goals first
    | exact (ra_a hsh (by assumption)).1 | exact (ra_a hsh (by assumption)).2
    | exact (ra_b hsh (by assumption) (by assumption)).1 | exact (ra_b hsh (by assumption) (by assumption)).2
    | exact (ra_c hsh (by assumption) (by assumption)).1 | exact (ra_c hsh (by assumption) (by assumption)).2

theorem spec_law_between (D1 : Addr) (c1 : Nat) (a : Int) (t1 : Tok) (b : Int) (t2 : Tok) (D2 : Addr) (c2 : Nat) (c : Int) (t3 : Tok) (d : Int) (t4 : Tok) (h1 : intBits a ≤ 10000) (h2 : intBits b ≤ 10000) (h3 : intBits c ≤ 10000) (h4 : intBits d ≤ 10000) : Spec 1 266 [.ref D1, .ref D2] [(D1, tupO [.int a t1, .int b t2] c1), (D2, tupO [.int c t3, .int d t4] c2)] (retT2 (.int (a * d + c * b)) (.int (2 * b * d))) := by
  unfold Spec
  k_fill
  intro w pg loose mean mg mb dp un gd cn cs ad ccd cl outer A₀ base h₀ L fm news s Q E B F X N T hk hd hu hneed hret
  have hm1 := hneed _ (.head _)
  have hm2 := hneed _ (.tail _ (.head _))
  have h2b : intBits (2 * b) ≤ 20000 := Nat.le_trans (intBits_mul_le (show intBits 2 ≤ 2 by decide) h2) (by decide)
  refine wpAny_call ?_
  k_dflt cell_enter
  k_steps
  all_goals (refine' retT2_of hret ?F ?N ?mm ?ss ?_ ?_; (case F => k_asm); (case N => k_asm); (case mm => k_mem); (case ss => (intro p9 hp9; repeat (first | exact hp9 | refine List.Mem.tail _ ?_))))
  all_goals refine is_I ?_
  all_goals first | rfl

theorem spec_law_order (D1 : Addr) (c1 : Nat) (a : Int) (t1 : Tok) (b : Int) (t2 : Tok) (D2 : Addr) (c2 : Nat) (c : Int) (t3 : Tok) (d : Int) (t4 : Tok) (h1 : intBits a ≤ 10000) (h2 : intBits b ≤ 10000) (h3 : intBits c ≤ 10000) (h4 : intBits d ≤ 10000) : Spec 1 273 [.ref D1, .ref D2] [(D1, tupO [.int a t1, .int b t2] c1), (D2, tupO [.int c t3, .int d t4] c2)] (retI (a * d - c * b)) := by
  unfold Spec
  k_fill
  intro w pg loose mean mg mb dp un gd cn cs ad ccd cl outer A₀ base h₀ L fm news s Q E B F X N T hk hd hu hneed hret
  have hm1 := hneed _ (.head _)
  have hm2 := hneed _ (.tail _ (.head _))
  have h2b : intBits (2 * b) ≤ 20000 := Nat.le_trans (intBits_mul_le (show intBits 2 ≤ 2 by decide) h2) (by decide)
  refine wpAny_call ?_
  k_dflt cell_enter
  k_steps
  all_goals (refine' retI_of hret ?_ ?F ?N ?ss; (case F => k_asm); (case N => k_asm); (case ss => (intro p9 hp9; repeat (first | exact hp9 | refine List.Mem.tail _ ?_))))
  all_goals first | rfl

end Mine
end
section
open PySem PySem.W PyProof.Rows PySem.Calls PySem.Spec
namespace Mine
open PySem.Builtin.Int (intBits)

theorem lo_raw (n d b : Int) : n * (2 * raD (b - 1) * raD b) - (raN (b - 1) * raD b + raN b * raD (b - 1)) * d = loV n d b := rfl
theorem hi_raw (n d b : Int) : (raN b * raD (b + 1) + raN (b + 1) * raD b) * d - n * (2 * raD b * raD (b + 1)) = hiV n d b := rfl

theorem spec_law_reads (D : Addr) (c : Nat) (n : Int) (t1 : Tok) (d : Int) (t2 : Tok) (b : Int) (t3 : Tok) (h1 : intBits n ≤ 10000) (h2 : intBits d ≤ 10000) (h3 : 0 < b) (h4 : b < 9218868437227405312) : Spec 2 280 [.ref D, .int b t3] [(D, tupO [.int n t1, .int d t2] c)] (retB (reads n d b)) := by
  unfold Spec
  k_fill
  intro w pg loose mean mg mb dp un gd cn cs ad ccd cl outer A₀ base h₀ L fm news s Q E B F X N T hk hd hu hneed hret
  have hm1 := hneed _ (.head _)
  have r1 := raN_bits (b - 1)
  have r2 := raN_bits b
  have r3 := raN_bits (b + 1)
  have r4 := raD_bits (b - 1)
  have r5 := raD_bits b
  have r6 := raD_bits (b + 1)
  have r7 : intBits (raN (b - 1) * raD b + raN b * raD (b - 1)) ≤ 2300 := beN_bits (b - 1) b
  have r8 : intBits (2 * raD (b - 1) * raD b) ≤ 2300 := beD_bits (b - 1) b
  have r9 : intBits (raN b * raD (b + 1) + raN (b + 1) * raD b) ≤ 2300 := beN_bits b (b + 1)
  have r10 : intBits (2 * raD b * raD (b + 1)) ≤ 2300 := beD_bits b (b + 1)
  refine wpAny_call ?_
  k_dflt cell_enter
  k_steps
  all_goals (refine' retB_of hret ?_ ?F ?N ?ss; (case F => k_asm); (case N => k_asm); (case ss => (intro p9 hp9; repeat (first | exact hp9 | refine List.Mem.tail _ ?_))))
  all_goals first
    | exact reads_1 (by assumption) (by assumption)
    | exact reads_2 (by assumption) (by assumption)
    | exact reads_3 (by assumption) (by assumption)
    | exact reads_4 (by assumption) (by assumption)

theorem spec_law_tens (n : Int) (t1 : Tok) (s1 : Int) (t2 : Tok) (h1 : intBits n ≤ 500) (h2 : -600 ≤ s1) (h3 : s1 ≤ 600) : Spec 1 287 [.int n t1, .int s1 t2] [] (retT2 (.int (teN n s1)) (.int (teD s1))) := by
  unfold Spec
  k_fill
  intro w pg loose mean mg mb dp un gd cn cs ad ccd cl outer A₀ base h₀ L fm news s Q E B F X N T hk hd hu hneed hret
  refine wpAny_call ?_
  k_dflt cell_enter
  k_steps
  all_goals (refine' retT2_of hret ?F ?N ?mm ?ss ?_ ?_; (case F => k_asm); (case N => k_asm); (case mm => k_mem); (case ss => (intro p9 hp9; repeat (first | exact hp9 | refine List.Mem.tail _ ?_))))
  all_goals refine is_I ?_
  all_goals first
    | (have hx : 0 ≤ s1 := by assumption
       unfold teN; rw [if_pos hx]; done)
    | (have hx : 0 ≤ s1 := by assumption
       unfold teD; rw [if_pos hx]; done)
    | (have hx : ¬ 0 ≤ s1 := by assumption
       unfold teN; rw [if_neg hx]; done)
    | (have hx : ¬ 0 ≤ s1 := by assumption
       unfold teD; rw [if_neg hx]; done)

theorem spec_law_distance (D1 : Addr) (c1 : Nat) (a : Int) (t1 : Tok) (b : Int) (t2 : Tok) (D2 : Addr) (c2 : Nat) (c : Int) (t3 : Tok) (d : Int) (t4 : Tok) (h1 : intBits a ≤ 10000) (h2 : intBits b ≤ 10000) (h3 : intBits c ≤ 10000) (h4 : intBits d ≤ 10000) : Spec 2 301 [.ref D1, .ref D2] [(D1, tupO [.int a t1, .int b t2] c1), (D2, tupO [.int c t3, .int d t4] c2)] (retT2 (.int (absI (a * d - c * b))) (.int (b * d))) := by
  unfold Spec
  k_fill
  intro w pg loose mean mg mb dp un gd cn cs ad ccd cl outer A₀ base h₀ L fm news s Q E B F X N T hk hd hu hneed hret
  have hm1 := hneed _ (.head _)
  have hm2 := hneed _ (.tail _ (.head _))
  refine wpAny_call ?_
  k_dflt cell_enter
  k_steps
  all_goals (refine' retT2_of hret ?F ?N ?mm ?ss ?_ ?_; (case F => k_asm); (case N => k_asm); (case mm => k_mem); (case ss => (intro p9 hp9; repeat (first | exact hp9 | refine List.Mem.tail _ ?_))))
  all_goals refine is_I ?_
  all_goals first | rfl

end Mine
end
section
open PySem PySem.W PyProof.Rows PySem.Calls PySem.Spec
namespace Mine
open PySem.Builtin.Int (intBits)

open PySem.NumText in
theorem wv_digits : ∀ (l : List Nat), AllDigits l → ((digitsVal l : Nat) : Int) = wv l := by
  intro l h
  rw [← List.reverse_reverse l] at h ⊢
  generalize l.reverse = r at h ⊢
  induction r with
  | nil => rfl
  | cons c r ih =>
    rw [List.reverse_cons] at h ⊢
    have hc : 48 ≤ c ∧ c ≤ 57 := h c (by simp)
    rw [digitsVal_snoc, wv_snoc, ← ih (fun d hd => h d (by simp at hd ⊢; exact Or.inl hd))]
    unfold figF; rw [if_pos hc]
    omega
section
variable {prog : Program} {w : World} {A : Around} {E : Value → Shared → Prop} {s : Shared} {t u : Tok}
open PySem.NumText in
theorem int_s {l : List Nat} {Q : Value → Shared → Prop} (hd : AllDigits l) (hn : l ≠ []) (hl : l.length ≤ 600) (h : Q (.int (wv l) s.toks) { s with toks := s.toks + 1 }) :
    wpAny (model prog w) A (call (.type "int") [.str (sOf l) t]) Q E s :=
  KIN.call_text (intText_digits (x := sOf l) hd hn (by rw [sOf_len]; omega)) (by rw [sOf_len]; omega) (by rw [sOf_list, wv_digits l hd]; exact h)
end
theorem unrW_end {h₀ : Heap} {L I : Addr} {it : Obj} {rest : (Str → Option Value) → List (Addr × Obj) → Prop} {s₁ : Shared} {h' : Heap} {tk : Nat} {m' : Str → Option Value} {all NB : List (Addr × Obj)} (hlt : ∀ p ∈ NB, p.1 < I) (F : Fr h₀ L h' m') (N : News h₀ L h' all)
    (sub : ∀ p ∈ (I, it) :: NB, p ∈ all) (r : rest m' NB) : UnrEndW h₀ L s₁ [(I, it)] rest { s₁ with heap := h', toks := tk } :=
  ⟨h', tk, m', NB, rfl, F, fun p hp => N p (sub p hp), fun p hp q hq e => by rw [List.mem_singleton.mp hq] at e; exact absurd (hlt p hp) (by rw [e]; exact Nat.lt_irrefl _), r⟩
structure JoinB (B : Bool) (h₀ : Heap) (L : Addr) (m : Str → Option Value) (news : List (Addr × Obj)) (s : Shared) (b : Bool) (s' : Shared) : Prop where
  p1 : b = B
  p2 : ∃ h' tk, s' = { s with heap := h', toks := tk } ∧ Fr h₀ L h' m ∧ News h₀ L h' news
theorem joinB {B b : Bool} {h₀ h' : Heap} {L : Addr} {m : Str → Option Value} {news news' : List (Addr × Obj)} {s : Shared} {tk : Nat} (e : b = B) (F : Fr h₀ L h' m) (N : News h₀ L h' news') (hs : ∀ p ∈ news, p ∈ news') : JoinB B h₀ L m news s b { s with heap := h', toks := tk } :=
  ⟨e, h', tk, rfl, F, fun p hp => N p (hs p hp)⟩
theorem if_join (B : Bool) {M : Model} {A : Around} {E : Value → Shared → Prop} {s : Shared} {env : Env} {test body orelse pos} {Q : Flow → Shared → Prop} {h₀ : Heap} {L : Addr} {m : Str → Option Value} {news : List (Addr × Obj)} (_ : Fr h₀ L s.heap m) (_ : News h₀ L s.heap news)
    (h : wpAny M A (isTrue test env (eval test env)) (JoinB B h₀ L m news s) E s) (k : ∀ h' tk, Fr h₀ L h' m → News h₀ L h' news → wpAny M A (execs (if B = true then body else orelse) env) Q E { s with heap := h', toks := tk }) :
    wpAny M A (exec (.If test body orelse pos) env) Q E s :=
  wpAny_If (wpAny_mono h (fun b s' q => by
    obtain ⟨rfl, h', tk, rfl, F, N⟩ := q
    have := k h' tk F N
    cases b with
    | true => exact this
    | false => exact this) fun _ _ x => x)
def dOrd (n o s b : Int) : Int := absI (teN o s * raD b - raN b * teD s) * (teD s * raD b) - absI (teN n s * raD b - raN b * teD s) * (teD s * raD b)
structure ShOk (l : List Nat) (p b : Int) : Prop where
  dg : PySem.NumText.AllDigits l
  ne : l ≠ []
  ln : l.length ≤ 50
  b0 : 0 < b
  b1 : b < 9218868437227405312
  p0 : -500 ≤ p
  p1 : p ≤ 500
  nr : ∀ o, (o = wv l - 1 ∨ o = wv l + 1) → reads (teN o (p - l.length)) (teD (p - l.length)) b = true → dOrd (wv l) o (p - l.length) b < 0 → False
  sh : (l.length : Int) ≠ 1 → reads (teN (wv l / 10) (p - l.length + 1)) (teD (p - l.length + 1)) b = false ∧ reads (teN (wv l / 10 + 1) (p - l.length + 1)) (teD (p - l.length + 1)) b = false
theorem absI_bits {x : Int} {k : Nat} (h : intBits x ≤ k) : intBits (absI x) ≤ k := by
  refine intBits_le_of_natAbs ?_ h
  unfold absI; split <;> omega
theorem dis_bits {x y : Int} (b : Int) (h1 : intBits x ≤ 3000) (h2 : intBits y ≤ 3000) : intBits (absI (x * raD b - raN b * y)) ≤ 10000 := by
  have a := intBits_mul_le h1 (raD_bits b)
  have c := intBits_mul_le (raN_bits b) h2
  refine absI_bits (Nat.le_trans (intBits_sub_le a c) (by decide))
theorem den_bits {y : Int} (b : Int) (h2 : intBits y ≤ 3000) : intBits (y * raD b) ≤ 10000 := Nat.le_trans (intBits_mul_le h2 (raD_bits b)) (by decide)
theorem near_bits {l : List Nat} (h : l.length ≤ 50) : intBits (wv l) ≤ 500 ∧ intBits (wv l - 1) ≤ 500 ∧ intBits (wv l + 1) ≤ 500 ∧ intBits (wv l / 10) ≤ 500 ∧ intBits (wv l / 10 + 1) ≤ 500 := by
  have h1 := wv_bits l
  have h0 := (wv_bnd l).1
  have h2 := intBits_le_iff.mp h1
  have h3 : 2 ^ (6 * l.length) ≤ 2 ^ 300 := Nat.pow_le_pow_right (by decide) (by omega)
  have h4 : (2 : Nat) ^ 300 + 1 < 2 ^ 500 := by decide +kernel
  have h5 : (2 : Nat) ^ 300 < 2 ^ 500 := by decide +kernel
  generalize hx : (2 : Nat) ^ 300 = X at *
  generalize hy : (2 : Nat) ^ 500 = Y at *
  have key : ∀ z : Int, z.natAbs ≤ (wv l).natAbs + 1 → intBits z ≤ 500 := fun z hz => intBits_le_iff.mpr (by rw [hy]; omega)
  exact ⟨key _ (by omega), key _ (by omega), key _ (by omega), key _ (by omega), key _ (by omega)⟩

theorem spec_law_is_shortest (l : List Nat) (t1 : Tok) (p : Int) (t2 : Tok) (b : Int) (t3 : Tok) (ok : ShOk l p b) : Spec 4 308 [.str (sOf l) t1, .int p t2, .int b t3] [] (retB true) := by
  unfold Spec
  k_fill
  intro w pg loose mean mg mb dp un gd cn cs ad ccd cl outer A₀ base h₀ L fm news s Q E B F X N T hk hd hu hneed hret
  have markI := True.intro
  obtain ⟨hdg, hne, hln, hb0, hb1, hp0, hp1, hnr, hsh⟩ := ok
  obtain ⟨z0, z1, z2, z3, z4⟩ := near_bits hln
  have hsl : -600 ≤ p - (l.length : Int) ∧ p - (l.length : Int) ≤ 600 ∧ -600 ≤ p - (l.length : Int) + 1 ∧ p - (l.length : Int) + 1 ≤ 600 := by omega
  have y0 := teN_bits (s := p - (l.length : Int)) z0 hsl.2.1
  have y1 := teN_bits (s := p - (l.length : Int)) z1 hsl.2.1
  have y2 := teN_bits (s := p - (l.length : Int)) z2 hsl.2.1
  have y3 := teN_bits (s := p - (l.length : Int) + 1) z3 hsl.2.2.2
  have y4 := teN_bits (s := p - (l.length : Int) + 1) z4 hsl.2.2.2
  have y5 := teD_bits hsl.1
  have y6 := teD_bits hsl.2.2.1
  have r2 := raN_bits b
  have r5 := raD_bits b
  have d0 := dis_bits b y0 y5
  have d1 := dis_bits b y1 y5
  have d2 := dis_bits b y2 y5
  have d3 := den_bits b y5
  have n1 := hnr _ (Or.inl rfl)
  have n2 := hnr _ (Or.inr rfl)
  unfold dOrd at n1 n2
  clear hnr
  (k_with "join" => (k_dflt ((refine joinB ?_ (by k_asm) (by k_asm) (by (intro p9 hp9; repeat (first | exact hp9 | refine List.Mem.tail _ ?_)))); (first | rfl | (exfalso; first | exact n1 (by assumption) (by assumption) | exact n2 (by assumption) (by assumption))))))
  refine wpAny_call ?_
  k_dflt cell_enter
  k_steps
  all_goals (refine' retB_of hret ?_ ?F ?N ?ss; (case F => k_asm); (case N => k_asm); (case ss => (intro p9 hp9; repeat (first | exact hp9 | refine List.Mem.tail _ ?_))))
  all_goals first
    | rfl
    | exact absurd ((hsh (by assumption)).1.symm.trans (by assumption)) (by decide)
    | exact absurd ((hsh (by assumption)).2.symm.trans (by assumption)) (by decide)

end Mine
end
section
open PySem PySem.W PyProof.Rows PySem.Calls PySem.Spec
namespace Mine
structure LawB (x : Int) : Prop where
  p : 0 < x
  q : x < 9218868437227405312
structure DInv (pre found : List Int) : Prop where
  n : found.length = pre.length + 1
  a : ∀ x ∈ found, LawB x
abbrev TT : List Int := [4591870180066957722, 1, 9218868437227405311, 4921056587992461136, 4503599627370496, 4599676419421066581, 4845873199050653697, 4517329193108106637, 4609434218613702656, 4503599627370495]
theorem tt_law {k : Nat} (h : k < 10) : LawB (TT.getD k 0) := by
  have : ∀ k < 10, 0 < TT.getD k 0 ∧ TT.getD k 0 < 9218868437227405312 := by decide
  exact ⟨(this k h).1, (this k h).2⟩
theorem tt_at (x : Int) : LawB (TT.getD (x % 10).toNat 0) := tt_law (by omega)
theorem dinv_0 (x : Int) : DInv [] [TT.getD (x % 10).toNat 0] := ⟨rfl, fun y hy => by rw [List.mem_singleton.mp hy]; exact tt_at x⟩
theorem dinv_st {pre found : List Int} {k v : Int} (I : DInv pre found) (h : LawB v) : DInv (pre ++ [k]) (found ++ [v]) :=
  ⟨by rw [List.length_append, List.length_append, List.length_singleton, List.length_singleton, I.n], fun y hy => by
    rcases List.mem_append.mp hy with q | q
    · exact I.a y q
    · rw [List.mem_singleton.mp q]; exact h⟩
theorem dinv_w {pre found : List Int} (I : DInv pre found) : found.length = pre.length + 1 ∧ DInv pre found := ⟨I.n, I⟩
theorem law_b (y : Int) : LawB (1 + y % (2 ^ Int.toNat 63 - 2 ^ Int.toNat 52 - 1)) := by
  have e : (2 : Int) ^ Int.toNat 63 - 2 ^ Int.toNat 52 - 1 = 9218868437227405311 := by decide
  rw [e]
  exact ⟨by omega, by omega⟩
theorem law_c (y z : Int) : LawB (2 ^ Int.toNat 52 * (1000 + y % 47) + 2 ^ Int.toNat 45 * (z % 128)) := by
  have e : (2 : Int) ^ Int.toNat 52 = 4503599627370496 := by decide
  have e2 : (2 : Int) ^ Int.toNat 45 = 35184372088832 := by decide
  rw [e, e2]
  exact ⟨by omega, by omega⟩
end Mine
end
section
open PySem PySem.W PyProof.Rows PySem.Calls PySem.Spec
open PySem.Builtin.Int (intBits)
namespace Mine
structure Good (b : Int) (ds : List Int) : Prop where
  fb : FinB b
  fb2 : FinB (b + 9223372036854775808)
  g : GenB b ds
  g2 : GenB (b + 9223372036854775808) ds
  l1 : 1 ≤ (sgn ds).length
  l2 : (sgn ds).length ≤ 30
  e1 : 1 ≤ ds.length
  e2 : ds.length ≤ 1000
  dg : PySem.NumText.AllDigits (sgn ds)
  ne : sgn ds ≠ []
  hd : (sgn ds).getD 0 0 ≠ 48
  wz : intBits (wv (sgn ds)) ≤ 500
  p0 : -600 ≤ plB b - ((sgn ds).length : Int)
  p1 : plB b - ((sgn ds).length : Int) ≤ 600
  nb : intBits (teN (wv (sgn ds)) (plB b - ((sgn ds).length : Int))) ≤ 3000
  db : intBits (teD (plB b - ((sgn ds).length : Int))) ≤ 3000
  rd : reads (teN (wv (sgn ds)) (plB b - ((sgn ds).length : Int))) (teD (plB b - ((sgn ds).length : Int))) b = true
  sh : ShOk (sgn ds) (plB b) b
  t : TOk (shw b ds)
  tv : t2n (shw b ds) = b
  s2 : shw (b + 9223372036854775808) ds = 45 :: shw b ds
  sl : (shw b ds).length ≤ 900
  t2 : TOk (45 :: shw b ds)
  tv2 : t2n (45 :: shw b ds) = b + 9223372036854775808
end Mine
end
section
open PySem PySem.W PyProof.Rows PySem.Calls PySem.Spec
namespace Mine
def valD (ds : List Int) : Int := ds.foldl (fun a d => a * 10 + d) 0
theorem foldD (ds : List Int) : ∀ a : Int, ds.foldl (fun a d => a * 10 + d) a = a * 10 ^ ds.length + valD ds := by
  unfold valD
  induction ds with
  | nil => intro a; simp
  | cons d r ih =>
    intro a
    rw [List.foldl_cons, List.foldl_cons, ih, ih (0 * 10 + d), List.length_cons, Int.pow_succ, Int.add_mul, Int.mul_assoc, Int.mul_comm 10]
    simp; omega
theorem valD_cons (d : Int) (ds : List Int) : valD (d :: ds) = d * 10 ^ ds.length + valD ds := by
  have := foldD ds (0 * 10 + d)
  unfold valD at *
  rw [List.foldl_cons, this]; simp
theorem valD_snoc (ds : List Int) (d : Int) : valD (ds ++ [d]) = valD ds * 10 + d := by
  unfold valD; rw [List.foldl_append]; rfl
structure Last (u : Int) (ev : Bool) (n a b : Int) (front : List Int) (last n' : Int) : Prop where
  dg : ∀ d ∈ front, 0 ≤ d ∧ d ≤ 9
  eq : n * 10 ^ front.length = valD front * u + n'
  n0 : 0 ≤ n'
  na : n' + a * 10 ^ front.length ≤ u
  ne : ¬ (ev = true ∧ n' + a * 10 ^ front.length = u)
  lo : front ≠ [] → b * 10 ^ front.length ≤ n' ∧ ¬ (ev = true ∧ n' = b * 10 ^ front.length)
  st : gLo n' (b * 10 ^ front.length) u ev = true ∨ gHi n' (a * 10 ^ front.length) u ev = true
  la : last = lastf (gD n' u) (gR n' u) u (gLo n' (b * 10 ^ front.length) u ev) (gHi n' (a * 10 ^ front.length) u ev)
theorem gLo_false {n b u : Int} {ev : Bool} (h : gLo n b u ev = false) : b * 10 ≤ gR n u ∧ ¬ (ev = true ∧ gR n u = b * 10) := by
  unfold gLo at h
  rw [Bool.or_eq_false_iff, decide_eq_false_iff_not, Bool.and_eq_false_iff, decide_eq_false_iff_not] at h
  refine ⟨by omega, fun q => ?_⟩
  rcases h.2 with z | z
  · rw [q.1] at z; cases z
  · exact z q.2
theorem gHi_false {n a u : Int} {ev : Bool} (h : gHi n a u ev = false) : gR n u + a * 10 ≤ u ∧ ¬ (ev = true ∧ gR n u + a * 10 = u) := by
  unfold gHi at h
  rw [Bool.or_eq_false_iff, decide_eq_false_iff_not, Bool.and_eq_false_iff, decide_eq_false_iff_not] at h
  refine ⟨by omega, fun q => ?_⟩
  rcases h.2 with z | z
  · rw [q.1] at z; cases z
  · exact z q.2
theorem p10s (x : Int) (k : Nat) : x * 10 * 10 ^ k = x * 10 ^ (k + 1) := by rw [Int.pow_succ, Int.mul_assoc, Int.mul_comm 10]
theorem gen_last {u : Int} {ev : Bool} (hu : 0 < u) {ds : List Int} {n a b : Int} (g : Gen u ev n a b ds) : 0 ≤ n → n + a ≤ u → ¬ (ev = true ∧ n + a = u) → 0 < a →
    ∃ front last n', ds = front ++ [last] ∧ Last u ev n a b front last n' := by
  induction g with
  | @stop n a b h =>
    intro h0 h1 h2 h3
    refine ⟨[], _, n, rfl, fun d hd => by simp at hd, ?_, h0, ?_, ?_, fun q => absurd rfl q, ?_, ?_⟩
    · simp [valD]
    · simpa using h1
    · simpa using h2
    · simpa using h
    · simp
  | @step n a b ds h1 h2 g ih =>
    intro h0 hn hne ha
    obtain ⟨c1, c2⟩ := gLo_false h1
    obtain ⟨e1, e2⟩ := gHi_false h2
    obtain ⟨a1, a2, a3, a4, a5⟩ := gen_arith (n := n) hu h0 (by omega)
    obtain ⟨front, last, n', rfl, L⟩ := ih a3 e1 e2 (by omega)
    refine ⟨gD n u :: front, last, n', rfl, ?_, ?_, L.n0, ?_, ?_, ?_, ?_, ?_⟩
    · intro d hd
      rcases List.mem_cons.mp hd with rfl | q
      · exact ⟨a1, a2⟩
      · exact L.dg d q
    · have e := L.eq
      rw [List.length_cons, ← p10s, valD_cons, ← a5, Int.add_mul, Int.add_mul]
      unfold gR at e
      rw [e]
      unfold gD
      have : n * 10 / u * u * 10 ^ front.length = n * 10 / u * 10 ^ front.length * u := by rw [Int.mul_assoc, Int.mul_comm u, ← Int.mul_assoc]
      omega
    · rw [List.length_cons, ← p10s]; exact L.na
    · rw [List.length_cons, ← p10s]; exact L.ne
    · intro _
      rw [List.length_cons, ← p10s]
      by_cases hf : front = []
      · subst hf
        have e := L.eq
        simp [valD] at e
        rw [List.length_nil, Int.pow_zero, Int.mul_one, ← e]
        exact ⟨c1, c2⟩
      · exact L.lo hf
    · rw [List.length_cons, ← p10s, ← p10s]; exact L.st
    · rw [List.length_cons, ← p10s, ← p10s]; exact L.la
/-- what is read: δ within the half gaps -/
def RD (δ α β : Int) (ev : Bool) : Prop := (δ < β ∨ (ev = true ∧ δ = β)) ∧ (-δ < α ∨ (ev = true ∧ -δ = α))
theorem gLo_iff {n b u : Int} {ev : Bool} : gLo n b u ev = true ↔ gR n u < b * 10 ∨ (ev = true ∧ gR n u = b * 10) := by
  unfold gLo; rw [Bool.or_eq_true, decide_eq_true_eq, Bool.and_eq_true, decide_eq_true_eq]
theorem gHi_iff {n a u : Int} {ev : Bool} : gHi n a u ev = true ↔ u < gR n u + a * 10 ∨ (ev = true ∧ gR n u + a * 10 = u) := by
  unfold gHi; rw [Bool.or_eq_true, decide_eq_true_eq, Bool.and_eq_true, decide_eq_true_eq]
def absI0 (e : Int) : Int := if e < 0 then -e else e
structure Digits (u : Int) (ev : Bool) (n a b : Int) (ds : List Int) : Prop where
  l1 : 1 ≤ ds.length
  dg : ∀ d ∈ ds, 0 ≤ d ∧ d ≤ 9
  rd : RD (n * 10 ^ ds.length - valD ds * u) (a * 10 ^ ds.length) (b * 10 ^ ds.length) ev
  nr : ∀ o, (o = valD ds - 1 ∨ o = valD ds + 1) → RD (n * 10 ^ ds.length - o * u) (a * 10 ^ ds.length) (b * 10 ^ ds.length) ev →
    absI0 (n * 10 ^ ds.length - valD ds * u) ≤ absI0 (n * 10 ^ ds.length - o * u)
  sh : ds.length ≠ 1 → ¬ RD (n * 10 ^ (ds.length - 1) - valD ds / 10 * u) (a * 10 ^ (ds.length - 1)) (b * 10 ^ (ds.length - 1)) ev ∧ ¬ RD (n * 10 ^ (ds.length - 1) - (valD ds / 10 + 1) * u) (a * 10 ^ (ds.length - 1)) (b * 10 ^ (ds.length - 1)) ev
  ln : a * 10 ^ (ds.length - 1) ≤ u
end Mine
end
section
open PySem PySem.W PyProof.Rows PySem.Calls PySem.Spec
namespace Mine
theorem absI0_le {x y : Int} (h : x.natAbs ≤ y.natAbs) : absI0 x ≤ absI0 y := by unfold absI0; split <;> split <;> omega
structure JF (r u A B j : Int) (ev : Bool) : Prop where
  jj : j = 0 ∨ j = 1
  rd : RD (r - j * u) A B ev
  m : RD (r - (j - 1) * u) A B ev → absI0 (r - j * u) ≤ absI0 (r - (j - 1) * u)
  p : RD (r - (j + 1) * u) A B ev → absI0 (r - j * u) ≤ absI0 (r - (j + 1) * u)
theorem jf_0 {r u A B : Int} {ev : Bool} (h0 : 0 ≤ r) (h1 : r < u) (hA : 0 < A) (lo : r < B ∨ (ev = true ∧ r = B)) (h : 2 * r ≤ u ∨ ¬ (u < r + A ∨ (ev = true ∧ r + A = u))) : JF r u A B 0 ev := by
  refine ⟨.inl rfl, ?_, fun _ => ?_, fun q => ?_⟩
  · rw [Int.zero_mul, Int.sub_zero]
    exact ⟨lo, .inl (by omega)⟩
  · exact absI0_le (by omega)
  · rcases h with h | h
    · exact absI0_le (by omega)
    · exfalso
      have q2 := q.2
      rw [show (0 + 1) * u = u by omega] at q2
      rcases q2 with z | ⟨z1, z2⟩
      · exact h (.inl (by omega))
      · exact h (.inr ⟨z1, by omega⟩)
theorem jf_1 {r u A B : Int} {ev : Bool} (h0 : 0 ≤ r) (h1 : r < u) (hB : 0 < B) (hi : u < r + A ∨ (ev = true ∧ r + A = u)) (h : u ≤ 2 * r ∨ ¬ (r < B ∨ (ev = true ∧ r = B))) : JF r u A B 1 ev := by
  refine ⟨.inr rfl, ?_, fun q => ?_, fun _ => ?_⟩
  · rw [Int.one_mul]
    refine ⟨.inl (by omega), ?_⟩
    rcases hi with z | ⟨z1, z2⟩
    · exact .inl (by omega)
    · exact .inr ⟨z1, by omega⟩
  · rcases h with h | h
    · exact absI0_le (by omega)
    · exfalso
      have q1 := q.1
      rw [show r - (1 - 1) * u = r by omega] at q1
      exact h q1
  · exact absI0_le (by omega)
theorem last_arith {f r u A B : Int} {ev lo hi : Bool} (h0 : 0 ≤ r) (h1 : r < u) (hf : 0 ≤ f) (hA : 0 < A) (hB : 0 < B) (hlo : lo = true ↔ r < B ∨ (ev = true ∧ r = B)) (hhi : hi = true ↔ u < r + A ∨ (ev = true ∧ r + A = u)) (st : lo = true ∨ hi = true) :
    ∃ j, lastf f r u lo hi = f + j ∧ JF r u A B j ev := by
  cases lo with
  | false =>
    have hh : hi = true := by simpa using st
    subst hh
    refine ⟨1, by simp [lastf], jf_1 h0 h1 hB (hhi.mp rfl) (.inr fun q => by simpa using hlo.mpr q)⟩
  | true =>
    cases hi with
    | false => exact ⟨0, by simp [lastf], jf_0 h0 h1 hA (hlo.mp rfl) (.inr fun q => by simpa using hhi.mpr q)⟩
    | true =>
      by_cases e : 2 * r = u
      · rcases (show f % 2 = 0 ∨ f % 2 = 1 by omega) with z | z
        · exact ⟨0, by simp [lastf, e, z], jf_0 h0 h1 hA (hlo.mp rfl) (.inl (by omega))⟩
        · exact ⟨1, by simp [lastf, e, z], jf_1 h0 h1 hB (hhi.mp rfl) (.inl (by omega))⟩
      · by_cases c : u < 2 * r
        · exact ⟨1, by simp [lastf, e, c], jf_1 h0 h1 hB (hhi.mp rfl) (.inl (by omega))⟩
        · exact ⟨0, by simp [lastf, e, c], jf_0 h0 h1 hA (hlo.mp rfl) (.inl (by omega))⟩
theorem p10t (x : Int) (k : Nat) : x * 10 ^ (k + 1) = x * 10 ^ k * 10 := by rw [Int.pow_succ, Int.mul_assoc]
theorem digits_of {u : Int} {ev : Bool} (hu : 0 < u) {ds : List Int} {n a b : Int} (g : Gen u ev n a b ds) (h0 : 0 ≤ n) (hna : n + a ≤ u) (hne : ¬ (ev = true ∧ n + a = u)) (ha : 0 < a) (hb : 0 < b) :
    Digits u ev n a b ds := by
  obtain ⟨front, last, n', rfl, L⟩ := gen_last hu g h0 hna hne ha
  have hA := Int.mul_pos ha (p10_pos front.length)
  have hB := Int.mul_pos hb (p10_pos front.length)
  have hL1 := L.na; have hL2 := L.ne; have hn0 := L.n0; have heq := L.eq; have hlo' := L.lo; have hst := L.st; have hla := L.la; have hdg := L.dg
  clear L
  generalize hAx : a * 10 ^ front.length = A at *
  generalize hBx : b * 10 ^ front.length = B at *
  obtain ⟨a1, a2, a3, a4, a5⟩ := gen_arith (n := n') hu hn0 (by omega)
  have hlo := gLo_iff (n := n') (b := B) (u := u) (ev := ev)
  have hhi := gHi_iff (n := n') (a := A) (u := u) (ev := ev)
  obtain ⟨j, hj, J⟩ := last_arith (f := gD n' u) (r := gR n' u) (A := A * 10) (B := B * 10) a3 a4 a1 (by omega) (by omega) hlo hhi hst
  rw [← hla] at hj
  unfold gD at hj
  unfold gR at J hlo hhi
  have hlen : (front ++ [last]).length = front.length + 1 := by simp
  have key : ∀ o : Int, n * 10 ^ (front.length + 1) - (valD front * 10 + n' * 10 / u + o) * u = n' * 10 % u - o * u := fun o => by
    have e2 := p10t n front.length
    have e3 : (valD front * 10 + n' * 10 / u + o) * u = valD front * u * 10 + n' * 10 / u * u + o * u := by
      rw [Int.add_mul, Int.add_mul, Int.mul_assoc, Int.mul_comm 10, ← Int.mul_assoc]
    rw [e2, heq, e3]; omega
  have hV : valD (front ++ [last]) = valD front * 10 + n' * 10 / u + j := by rw [valD_snoc, hj]; omega
  have hl9 : 0 ≤ last ∧ last ≤ 9 := by
    rcases J.jj with rfl | rfl
    · omega
    · refine ⟨by omega, ?_⟩
      rcases (show n' * 10 / u ≤ 8 ∨ n' * 10 / u = 9 by omega) with q | q
      · omega
      · exfalso
        rw [q] at a5
        have hr := J.rd.2
        rcases hr with z | ⟨z1, z2⟩
        · omega
        · exact hL2 ⟨z1, by omega⟩
  refine ⟨by omega, ?_, ?_, ?_, ?_, ?_⟩
  · intro d hd
    rcases List.mem_append.mp hd with q | q
    · exact hdg d q
    · rw [List.mem_singleton.mp q]; exact hl9
  · rw [hlen, hV, key, p10t, p10t, hAx, hBx]; exact J.rd
  · intro o ho
    rw [hlen, p10t a, p10t b, hAx, hBx]
    rcases ho with rfl | rfl
    · rw [hV, show valD front * 10 + n' * 10 / u + j - 1 = valD front * 10 + n' * 10 / u + (j - 1) by omega, key, key]; exact J.m
    · rw [hV, show valD front * 10 + n' * 10 / u + j + 1 = valD front * 10 + n' * 10 / u + (j + 1) by omega, key, key]; exact J.p
  · intro h1
    have hfr : front ≠ [] := fun e => h1 (by rw [e]; rfl)
    obtain ⟨c1, c2⟩ := hlo' hfr
    have hd : valD (front ++ [last]) / 10 = valD front := by rw [valD_snoc]; omega
    rw [hlen, Nat.add_sub_cancel, hd, hAx, hBx, heq]
    have e1 : valD front * u + n' - valD front * u = n' := by omega
    have e2 : valD front * u + n' - (valD front + 1) * u = n' - u := by rw [Int.add_mul]; omega
    rw [e1, e2]
    refine ⟨fun q => ?_, fun q => ?_⟩
    · rcases q.1 with z | z
      · omega
      · exact c2 z
    · rcases q.2 with z | ⟨z1, z2⟩
      · omega
      · exact hL2 ⟨z1, by omega⟩
  · rw [hlen, Nat.add_sub_cancel, hAx]; omega
/-- it ends: there are figures -/
theorem gen_ex {u : Int} {ev : Bool} (hu : 0 < u) : ∀ (k : Nat) {n a b : Int}, (u - a).toNat ≤ k → 0 ≤ n → n + a ≤ u → 0 < a → ∃ ds, Gen u ev n a b ds := by
  intro k
  induction k with
  | zero =>
    intro n a b hk h0 h1 h2
    obtain ⟨a1, a2, a3, a4, a5⟩ := gen_arith (n := n) hu h0 (by omega)
    refine ⟨_, .stop (.inr ?_)⟩
    rw [gHi_iff]; left; unfold gR; omega
  | succ k ih =>
    intro n a b hk h0 h1 h2
    obtain ⟨a1, a2, a3, a4, a5⟩ := gen_arith (n := n) hu h0 (by omega)
    by_cases hl : gLo n b u ev = true
    · exact ⟨_, .stop (.inl hl)⟩
    · by_cases hh : gHi n a u ev = true
      · exact ⟨_, .stop (.inr hh)⟩
      · have hh' : gHi n a u ev = false := by simpa using hh
        have hl' : gLo n b u ev = false := by simpa using hl
        obtain ⟨e1, e2⟩ := gHi_false hh'
        obtain ⟨ds, g⟩ := ih (n := gR n u) (a := a * 10) (b := b * 10) (by unfold gR at e1; omega) a3 e1 (by omega)
        exact ⟨_, .step hl' hh' g⟩
end Mine
end
section
open PySem PySem.W PyProof.Rows PySem.Calls PySem.Spec
namespace Mine
/-- the double's worth over 2^1074 -/
def EE (b : Int) : Nat := (powr b + 1074).toNat
def WW (b : Int) : Int := mant b * 2 ^ EE b
theorem p2_add (a b : Nat) : (2 : Int) ^ (a + b) = 2 ^ a * 2 ^ b := Int.pow_add ..
theorem ra_W (b : Int) : raN b * 2 ^ 1074 = WW b * raD b := by
  have hp := powr_rng b
  unfold raN raD WW EE
  split
  · rename_i h
    rw [Int.mul_one, Int.mul_assoc, ← p2_add]; congr 2; omega
  · rename_i h
    rw [Int.mul_assoc, ← p2_add]; congr 2; omega
theorem sc_W {b : Int} : scN (mant b) (powr b) * 2 ^ 1074 = WW b * scU (mant b) (powr b) := by
  have hp := powr_rng b
  unfold scN scU WW EE
  have e : (2 : Int) ^ (powr b).toNat * 2 ^ 1074 = 2 ^ (powr b + 1074).toNat * 2 ^ (-powr b).toNat := by
    rw [← p2_add, ← p2_add]; congr 1; omega
  rw [Int.mul_assoc, e, Int.mul_assoc, Int.mul_assoc]
  congr 1
  rw [← Int.mul_assoc, ← Int.mul_assoc, Int.mul_comm (2 ^ _) (fac _ _)]
theorem sc_B {b : Int} : fac (mant b) (powr b) * (scB (mant b) (powr b) * 2 ^ 1074) = 2 ^ EE b * scU (mant b) (powr b) := by
  have hp := powr_rng b
  unfold scB scU EE
  have e : (2 : Int) ^ (powr b).toNat * 2 ^ 1074 = 2 ^ (powr b + 1074).toNat * 2 ^ (-powr b).toNat := by
    rw [← p2_add, ← p2_add]; congr 1; omega
  rw [e, ← Int.mul_assoc, ← Int.mul_assoc, Int.mul_comm (2 ^ _) (fac _ _)]
theorem sc_A {b : Int} : scA (mant b) (powr b) = abv (mant b) (powr b) * scB (mant b) (powr b) := rfl

theorem mp (b : Int) : (expo b = 0 ∧ mant b = frac b ∧ powr b = -1074) ∨ (expo b ≠ 0 ∧ mant b = frac b + 4503599627370496 ∧ powr b = expo b - 1075) := by
  unfold mant powr
  by_cases h : expo b = 0
  · left; rw [if_pos h, if_pos h]; exact ⟨h, rfl, rfl⟩
  · right; rw [if_neg h, if_neg h]; exact ⟨h, rfl, rfl⟩
theorem ef {b : Int} (h0 : 0 ≤ b) (h1 : b < 9223372036854775808) : expo b = b / 4503599627370496 ∧ frac b = b % 4503599627370496 := by
  have : expo b = b / 4503599627370496 % 2048 := rfl
  exact ⟨by omega, rfl⟩
theorem ef_succ {b : Int} (h0 : 0 ≤ b) (h1 : b < 9218868437227405312) : (expo (b + 1) = expo b ∧ frac (b + 1) = frac b + 1) ∨ (expo (b + 1) = expo b + 1 ∧ frac (b + 1) = 0 ∧ frac b = 4503599627370495) := by
  rw [(ef h0 (by omega)).1, (ef h0 (by omega)).2, (ef (b := b + 1) (by omega) (by omega)).1, (ef (b := b + 1) (by omega) (by omega)).2]
  omega
theorem step_mp {b : Int} (h0 : 0 ≤ b) (h1 : b < 9218868437227405312) :
    (powr (b + 1) = powr b ∧ mant (b + 1) = mant b + 1) ∨ (powr (b + 1) = powr b + 1 ∧ mant (b + 1) = 4503599627370496 ∧ mant b = 9007199254740991) := by
  unfold powr mant
  rcases ef_succ h0 h1 with ⟨e1, e2⟩ | ⟨e1, e2, e3⟩
  · left
    rw [e1, e2]
    by_cases h : expo b = 0
    · rw [if_pos h, if_pos h, if_pos h]; exact ⟨rfl, rfl⟩
    · rw [if_neg h, if_neg h, if_neg h]; exact ⟨rfl, by rw [Int.add_right_comm]⟩
  · rw [e1, e2, e3]
    by_cases h : expo b = 0
    · left
      rw [h]; exact ⟨rfl, rfl⟩
    · right
      have hn : ¬ expo b + 1 = 0 := by have := (expo_rng b).1; omega
      rw [if_neg h, if_neg h, if_neg hn, if_neg hn]; exact ⟨by omega, rfl, rfl⟩
theorem mant_low {b : Int} (h : mant b < 4503599627370496) : powr b = -1074 := by
  rcases mp b with ⟨_, _, a3⟩ | ⟨_, a2, _⟩
  · exact a3
  · have := (frac_rng b).1; omega
theorem WW_succ {b : Int} (h0 : 0 ≤ b) (h1 : b < 9218868437227405312) : WW (b + 1) = WW b + 2 ^ EE b := by
  have hp := powr_rng b
  unfold WW EE
  rcases step_mp h0 h1 with ⟨a, c⟩ | ⟨a, c, d⟩
  · rw [a, c, Int.add_mul, Int.one_mul]
  · rw [a, c, d, show (powr b + 1 + 1074).toNat = (powr b + 1074).toNat + 1 by omega, Int.pow_succ]
    omega
theorem pred_mp {b : Int} (h0 : 0 < b) (h1 : b < 9218868437227405312) : (isEdge (mant b) (powr b) ∧ powr (b - 1) = powr b - 1) ∨ (¬ isEdge (mant b) (powr b) ∧ powr (b - 1) = powr b) := by
  have hs := step_mp (b := b - 1) (by omega) (by omega)
  have hp := (powr_rng (b - 1)).1
  rw [show b - 1 + 1 = b by omega] at hs
  unfold isEdge
  rcases hs with ⟨e1, e2⟩ | ⟨e1, e2, _⟩
  · right
    refine ⟨fun q => ?_, e1.symm⟩
    have := mant_low (b := b - 1) (by omega)
    omega
  · left
    exact ⟨⟨e2, by omega⟩, by omega⟩
/-- the half gap below: 2 * scB * 2^1074 = (W b - W (b-1)) * scU -/
theorem gap_lo {b : Int} (h0 : 0 < b) (h1 : b < 9218868437227405312) : 2 * (scB (mant b) (powr b) * 2 ^ 1074) = (WW b - WW (b - 1)) * scU (mant b) (powr b) := by
  have hw := WW_succ (b := b - 1) (by omega) (by omega)
  rw [show b - 1 + 1 = b by omega] at hw
  rw [show WW b - WW (b - 1) = 2 ^ EE (b - 1) by omega]
  have hB := sc_B (b := b)
  have hp := powr_rng b
  have hp1 := powr_rng (b - 1)
  rcases pred_mp h0 h1 with ⟨e, q⟩ | ⟨e, q⟩
  · have hf : fac (mant b) (powr b) = 4 := by unfold fac; rw [if_pos e]
    rw [hf] at hB
    have e2 : (2 : Int) ^ EE b = 2 * 2 ^ EE (b - 1) := by
      rw [show EE b = EE (b - 1) + 1 by unfold EE; omega, Int.pow_succ, Int.mul_comm]
    rw [e2, Int.mul_assoc] at hB
    omega
  · have hf : fac (mant b) (powr b) = 2 := by unfold fac; rw [if_neg e]
    rw [hf] at hB
    rw [show EE (b - 1) = EE b by unfold EE; rw [q]]
    exact hB
theorem gap_hi {b : Int} (h0 : 0 ≤ b) (h1 : b < 9218868437227405312) : 2 * (scA (mant b) (powr b) * 2 ^ 1074) = (WW (b + 1) - WW b) * scU (mant b) (powr b) := by
  have hw := WW_succ h0 h1
  rw [show WW (b + 1) - WW b = 2 ^ EE b by omega, ← sc_B, sc_A]
  have : 2 * abv (mant b) (powr b) = fac (mant b) (powr b) := by unfold abv fac; split <;> rfl
  rw [← this, Int.mul_assoc, Int.mul_assoc]
theorem mul_left_cancel' {a x y : Int} (h : 0 < a) (e : a * x = a * y) : x = y := Int.eq_of_mul_eq_mul_left (by omega) e
/-- the middle below, in scaled terms -/
theorem be_lo {b : Int} (h0 : 0 < b) (h1 : b < 9218868437227405312) : beN (b - 1) b * scU (mant b) (powr b) = (scN (mant b) (powr b) - scB (mant b) (powr b)) * beD (b - 1) b := by
  have hP : (0 : Int) < 2 ^ 1074 := pow_pos' 1074
  have g := gap_lo h0 h1
  have s := sc_W (b := b)
  have r1 := ra_W b
  have r2 := ra_W (b - 1)
  refine mul_left_cancel' hP ?_
  unfold beN beD
  generalize scU (mant b) (powr b) = U at *
  generalize scN (mant b) (powr b) = N at *
  generalize scB (mant b) (powr b) = B at *
  generalize (2 : Int) ^ 1074 = P at *
  generalize raN b = n1 at *
  generalize raD b = d1 at *
  generalize raN (b - 1) = n2 at *
  generalize raD (b - 1) = d2 at *
  generalize WW b = w1 at *
  generalize WW (b - 1) = w2 at *
  -- P*((n2 d1 + n1 d2) U) = (w2 d2 d1 + w1 d1 d2) U ; P*((N - B)*(2 d2 d1)) = (w1 U - B P) * 2 d2 d1
  have l1 : P * ((n2 * d1 + n1 * d2) * U) = (w2 + w1) * U * (d2 * d1) := by
    have : P * ((n2 * d1 + n1 * d2) * U) = (n2 * P) * d1 * U + (n1 * P) * d2 * U := by
      rw [Int.add_mul, Int.mul_add]; congr 1 <;> ac_rfl
    rw [this, r1, r2, Int.add_mul, Int.add_mul]; congr 1 <;> ac_rfl
  have l2 : P * ((N - B) * (2 * d2 * d1)) = (2 * (N * P) - 2 * (B * P)) * (d2 * d1) := by
    have : P * ((N - B) * (2 * d2 * d1)) = (2 * (P * (N - B))) * (d2 * d1) := by ac_rfl
    rw [this, Int.mul_sub, Int.mul_sub]; congr 2 <;> ac_rfl
  have e : (w2 + w1) * U = 2 * (w1 * U) - (w1 - w2) * U := by rw [Int.sub_mul, Int.add_mul]; omega
  rw [l1, l2, s, g, e]
theorem be_hi {b : Int} (h0 : 0 ≤ b) (h1 : b < 9218868437227405312) : beN b (b + 1) * scU (mant b) (powr b) = (scN (mant b) (powr b) + scA (mant b) (powr b)) * beD b (b + 1) := by
  have hP : (0 : Int) < 2 ^ 1074 := pow_pos' 1074
  have g := gap_hi h0 h1
  have s := sc_W (b := b)
  have r1 := ra_W b
  have r2 := ra_W (b + 1)
  refine mul_left_cancel' hP ?_
  unfold beN beD
  generalize scU (mant b) (powr b) = U at *
  generalize scN (mant b) (powr b) = N at *
  generalize scA (mant b) (powr b) = B at *
  generalize (2 : Int) ^ 1074 = P at *
  generalize raN b = n1 at *
  generalize raD b = d1 at *
  generalize raN (b + 1) = n2 at *
  generalize raD (b + 1) = d2 at *
  generalize WW b = w1 at *
  generalize WW (b + 1) = w2 at *
  have l1 : P * ((n1 * d2 + n2 * d1) * U) = (w2 + w1) * U * (d2 * d1) := by
    have : P * ((n1 * d2 + n2 * d1) * U) = (n2 * P) * d1 * U + (n1 * P) * d2 * U := by
      rw [Int.add_mul, Int.mul_add, Int.add_comm]; congr 1 <;> ac_rfl
    rw [this, r1, r2, Int.add_mul, Int.add_mul]; congr 1 <;> ac_rfl
  have l2 : P * ((N + B) * (2 * d1 * d2)) = (2 * (N * P) + 2 * (B * P)) * (d2 * d1) := by
    have : P * ((N + B) * (2 * d1 * d2)) = (2 * (P * (N + B))) * (d2 * d1) := by ac_rfl
    rw [this, Int.mul_add, Int.mul_add]; congr 2 <;> ac_rfl
  have e : (w2 + w1) * U = 2 * (w1 * U) + (w2 - w1) * U := by rw [Int.sub_mul, Int.add_mul]; omega
  rw [l1, l2, s, g, e]
end Mine
end
section
open PySem PySem.W PyProof.Rows PySem.Calls PySem.Spec
namespace Mine
theorem sign_of_eq {x a c y : Int} (ha : 0 < a) (hc : 0 < c) (e : x * a = c * y) : (0 < x ↔ 0 < y) ∧ (x = 0 ↔ y = 0) := by
  have h1 : 0 < x ↔ 0 < x * a := ⟨fun h => Int.mul_pos h ha, fun h => Int.pos_of_mul_pos_left h ha⟩
  have h2 : 0 < y ↔ 0 < c * y := ⟨fun h => Int.mul_pos hc h, fun h => Int.pos_of_mul_pos_right h hc⟩
  have h3 : x = 0 ↔ x * a = 0 := ⟨fun h => by rw [h, Int.zero_mul], fun h => (Int.mul_eq_zero.mp h).resolve_right (by omega)⟩
  have h4 : y = 0 ↔ c * y = 0 := ⟨fun h => by rw [h, Int.mul_zero], fun h => (Int.mul_eq_zero.mp h).resolve_left (by omega)⟩
  rw [h1, h2, h3, h4, e]
  exact ⟨Iff.rfl, Iff.rfl⟩
theorem ev_iff {b : Int} (h0 : 0 ≤ b) : evB b = true ↔ b % 2 = 0 := by
  unfold evB
  rw [beq_iff_eq]
  have hf : frac b = b % 4503599627370496 := rfl
  rcases mp b with ⟨a1, a2, a3⟩ | ⟨a1, a2, a3⟩ <;> omega
def lowS (N D b : Int) : Int := N * scU (mant b) (powr b) - (scN (mant b) (powr b) - scB (mant b) (powr b)) * D
def hiS (N D b : Int) : Int := (scN (mant b) (powr b) + scA (mant b) (powr b)) * D - N * scU (mant b) (powr b)
theorem beD_pos (x y : Int) : 0 < beD x y := Int.mul_pos (Int.mul_pos (by decide) (raD_pos x)) (raD_pos y)
theorem scU_pos (b : Int) : 0 < scU (mant b) (powr b) := by
  unfold scU
  refine Int.mul_pos ?_ (pow_pos' _)
  unfold fac; split <;> decide
theorem lo_eq {N D b : Int} (h0 : 0 < b) (h1 : b < 9218868437227405312) : loV N D b * scU (mant b) (powr b) = beD (b - 1) b * lowS N D b := by
  have e := be_lo h0 h1
  unfold loV lowS
  rw [Int.sub_mul, Int.mul_sub]
  congr 1
  · ac_rfl
  · calc beN (b - 1) b * D * scU (mant b) (powr b) = beN (b - 1) b * scU (mant b) (powr b) * D := by ac_rfl
      _ = _ := by rw [e]; ac_rfl
theorem hi_eq {N D b : Int} (h0 : 0 ≤ b) (h1 : b < 9218868437227405312) : hiV N D b * scU (mant b) (powr b) = beD b (b + 1) * hiS N D b := by
  have e := be_hi h0 h1
  unfold hiV hiS
  rw [Int.sub_mul, Int.mul_sub]
  congr 1
  · calc beN b (b + 1) * D * scU (mant b) (powr b) = beN b (b + 1) * scU (mant b) (powr b) * D := by ac_rfl
      _ = _ := by rw [e]; ac_rfl
  · ac_rfl
theorem nn_iff (x : Int) : 0 ≤ x ↔ 0 < x ∨ x = 0 := by omega
theorem reads_sc {N D b : Int} (h0 : 0 < b) (h1 : b < 9218868437227405312) : reads N D b = true ↔ (0 < lowS N D b ∨ (evB b = true ∧ lowS N D b = 0)) ∧ (0 < hiS N D b ∨ (evB b = true ∧ hiS N D b = 0)) := by
  obtain ⟨a1, a2⟩ := sign_of_eq (scU_pos b) (beD_pos _ _) (lo_eq (N := N) (D := D) h0 h1)
  obtain ⟨c1, c2⟩ := sign_of_eq (scU_pos b) (beD_pos _ _) (hi_eq (N := N) (D := D) (by omega) h1)
  rw [ev_iff (by omega)]
  unfold reads
  by_cases h : b % 2 = 0
  · rw [if_pos h, Bool.and_eq_true, decide_eq_true_eq, decide_eq_true_eq, nn_iff, nn_iff, a1, a2, c1, c2]
    constructor
    · rintro ⟨q1, q2⟩; exact ⟨q1.imp id fun z => ⟨h, z⟩, q2.imp id fun z => ⟨h, z⟩⟩
    · rintro ⟨q1, q2⟩; exact ⟨q1.imp id fun z => z.2, q2.imp id fun z => z.2⟩
  · rw [if_neg h, Bool.and_eq_true, decide_eq_true_eq, decide_eq_true_eq, a1, c1]
    constructor
    · rintro ⟨q1, q2⟩; exact ⟨.inl q1, .inl q2⟩
    · rintro ⟨q1, q2⟩; exact ⟨q1.resolve_right fun z => h z.1, q2.resolve_right fun z => h z.1⟩
/-- the power's bookkeeping -/
theorem te_key (V p : Int) (k : Nat) : teN V (p - k) * 10 ^ k * 10 ^ (0 - p).toNat = V * 10 ^ p.toNat * teD (p - k) := by
  unfold teN teD
  split
  · rename_i h
    rw [Int.mul_one, Int.mul_assoc, Int.mul_assoc, ← p10_add, ← p10_add]; congr 2; omega
  · rename_i h
    rw [Int.mul_assoc, Int.mul_assoc, ← p10_add, ← p10_add]; congr 2; omega
def dl (b : Int) (k : Nat) (V : Int) : Int := nuB b * 10 ^ k - V * unB b
theorem low_eq (b V : Int) (k : Nat) : lowS (teN V (plB b - k)) (teD (plB b - k)) b * (10 ^ k * 10 ^ (0 - plB b).toNat) = teD (plB b - k) * (beB b * 10 ^ k - dl b k V) := by
  have key := te_key V (plB b) k
  unfold lowS dl beB nuB unB
  generalize scU (mant b) (powr b) = U at *
  generalize scN (mant b) (powr b) = N at *
  generalize scB (mant b) (powr b) = B at *
  generalize teN V (plB b - k) = T at *
  generalize teD (plB b - k) = D at *
  generalize (10 : Int) ^ k = K at *
  generalize (10 : Int) ^ (0 - plB b).toNat = M at *
  generalize (10 : Int) ^ (plB b).toNat = P at *
  have e1 : T * U * (K * M) = V * P * D * U := by rw [← key]; ac_rfl
  have e2 : (N - B) * D * (K * M) = D * (N * M * K) - D * (B * M * K) := by
    rw [Int.sub_mul, Int.sub_mul]; congr 1 <;> ac_rfl
  have e3 : V * P * D * U = D * (V * (U * P)) := by ac_rfl
  rw [Int.sub_mul, e1, e2, e3, Int.mul_sub, Int.mul_sub]
  omega
theorem hi_eq2 (b V : Int) (k : Nat) : hiS (teN V (plB b - k)) (teD (plB b - k)) b * (10 ^ k * 10 ^ (0 - plB b).toNat) = teD (plB b - k) * (abB b * 10 ^ k + dl b k V) := by
  have key := te_key V (plB b) k
  unfold hiS dl abB nuB unB
  generalize scU (mant b) (powr b) = U at *
  generalize scN (mant b) (powr b) = N at *
  generalize scA (mant b) (powr b) = B at *
  generalize teN V (plB b - k) = T at *
  generalize teD (plB b - k) = D at *
  generalize (10 : Int) ^ k = K at *
  generalize (10 : Int) ^ (0 - plB b).toNat = M at *
  generalize (10 : Int) ^ (plB b).toNat = P at *
  have e1 : T * U * (K * M) = V * P * D * U := by rw [← key]; ac_rfl
  have e2 : (N + B) * D * (K * M) = D * (N * M * K) + D * (B * M * K) := by
    rw [Int.add_mul, Int.add_mul]; congr 1 <;> ac_rfl
  have e3 : V * P * D * U = D * (V * (U * P)) := by ac_rfl
  rw [Int.sub_mul, e1, e2, e3, Int.mul_add, Int.mul_sub]
  omega
theorem reads_rd {b : Int} (h0 : 0 < b) (h1 : b < 9218868437227405312) (V : Int) (k : Nat) : reads (teN V (plB b - k)) (teD (plB b - k)) b = true ↔ RD (dl b k V) (abB b * 10 ^ k) (beB b * 10 ^ k) (evB b) := by
  have hK : (0 : Int) < 10 ^ k * 10 ^ (0 - plB b).toNat := Int.mul_pos (p10_pos _) (p10_pos _)
  obtain ⟨a1, a2⟩ := sign_of_eq hK (teD_pos _) (low_eq b V k)
  obtain ⟨c1, c2⟩ := sign_of_eq hK (teD_pos _) (hi_eq2 b V k)
  rw [reads_sc h0 h1, a1, a2, c1, c2]
  unfold RD
  constructor
  · rintro ⟨q1, q2⟩
    exact ⟨q1.elim (fun z => .inl (by omega)) fun z => .inr ⟨z.1, by omega⟩, q2.elim (fun z => .inl (by omega)) fun z => .inr ⟨z.1, by omega⟩⟩
  · rintro ⟨q1, q2⟩
    exact ⟨q1.elim (fun z => .inl (by omega)) fun z => .inr ⟨z.1, by omega⟩, q2.elim (fun z => .inl (by omega)) fun z => .inr ⟨z.1, by omega⟩⟩
theorem ra_sc (b : Int) : raN b * scU (mant b) (powr b) = scN (mant b) (powr b) * raD b := by
  refine mul_left_cancel' (pow_pos' 1074) ?_
  have s := sc_W (b := b)
  have r := ra_W b
  calc 2 ^ 1074 * (raN b * scU (mant b) (powr b)) = raN b * 2 ^ 1074 * scU (mant b) (powr b) := by ac_rfl
    _ = WW b * raD b * scU (mant b) (powr b) := by rw [r]
    _ = WW b * scU (mant b) (powr b) * raD b := by ac_rfl
    _ = scN (mant b) (powr b) * 2 ^ 1074 * raD b := by rw [s]
    _ = _ := by ac_rfl
theorem dist_eq (b V : Int) (k : Nat) : (teN V (plB b - k) * raD b - raN b * teD (plB b - k)) * (scU (mant b) (powr b) * (10 ^ k * 10 ^ (0 - plB b).toNat)) = -(raD b * teD (plB b - k) * dl b k V) := by
  have key := te_key V (plB b) k
  have r := ra_sc b
  unfold dl nuB unB
  generalize scU (mant b) (powr b) = U at *
  generalize scN (mant b) (powr b) = N at *
  generalize teN V (plB b - k) = T at *
  generalize teD (plB b - k) = D at *
  generalize (10 : Int) ^ k = K at *
  generalize (10 : Int) ^ (0 - plB b).toNat = M at *
  generalize (10 : Int) ^ (plB b).toNat = P at *
  generalize raN b = n at *
  generalize raD b = d at *
  have e1 : T * d * (U * (K * M)) = d * D * (V * (U * P)) := by
    calc T * d * (U * (K * M)) = (T * K * M) * (d * U) := by ac_rfl
      _ = V * P * D * (d * U) := by rw [key]
      _ = _ := by ac_rfl
  have e2 : n * D * (U * (K * M)) = d * D * (N * M * K) := by
    calc n * D * (U * (K * M)) = (n * U) * (D * K * M) := by ac_rfl
      _ = N * d * (D * K * M) := by rw [r]
      _ = _ := by ac_rfl
  rw [Int.sub_mul, e1, e2, Int.mul_sub]
  omega
theorem absI_na (x : Int) : absI x = (x.natAbs : Int) := by unfold absI; split <;> omega
theorem absI0_na (x : Int) : absI0 x = (x.natAbs : Int) := by unfold absI0; split <;> omega
theorem dOrd_nn {b V o : Int} {k : Nat} (h : absI0 (dl b k V) ≤ absI0 (dl b k o)) : ¬ dOrd V o (plB b - k) b < 0 := by
  have a1 := congrArg Int.natAbs (dist_eq b V k)
  have a2 := congrArg Int.natAbs (dist_eq b o k)
  rw [Int.natAbs_neg, Int.natAbs_mul, Int.natAbs_mul (raD b * teD (plB b - k)) _] at a1 a2
  rw [absI0_na, absI0_na] at h
  have hC : 0 < (scU (mant b) (powr b) * (10 ^ k * 10 ^ (0 - plB b).toNat)).natAbs := by
    have := Int.mul_pos (scU_pos b) (Int.mul_pos (p10_pos k) (p10_pos (0 - plB b).toNat))
    omega
  generalize hCx : (scU (mant b) (powr b) * (10 ^ k * 10 ^ (0 - plB b).toNat)).natAbs = C at *
  generalize (raD b * teD (plB b - k)).natAbs = R at *
  have h2 : (dl b k V).natAbs ≤ (dl b k o).natAbs := by omega
  have h3 := Nat.mul_le_mul_left R h2
  rw [← a1, ← a2] at h3
  have h4 := Nat.le_of_mul_le_mul_right h3 hC
  have hT : (0 : Int) ≤ teD (plB b - k) * raD b := Int.le_of_lt (Int.mul_pos (teD_pos _) (raD_pos b))
  have h5 : absI (teN V (plB b - k) * raD b - raN b * teD (plB b - k)) ≤ absI (teN o (plB b - k) * raD b - raN b * teD (plB b - k)) := by
    rw [absI_na, absI_na]; omega
  have h6 := Int.mul_le_mul_of_nonneg_right h5 hT
  unfold dOrd
  omega
end Mine
end
section
open PySem PySem.W PyProof.Rows PySem.Calls PySem.Spec
namespace Mine
open PySem.Builtin.Int (intBits)
theorem wv_sgn : ∀ {ds : List Int}, (∀ d ∈ ds, 0 ≤ d ∧ d ≤ 9) → wv (sgn ds) = valD ds := by
  have fold : ∀ (ds : List Int) (a : Int), (∀ d ∈ ds, 0 ≤ d ∧ d ≤ 9) → (sgn ds).foldl (fun a c => a * 10 + figF c) a = ds.foldl (fun a d => a * 10 + d) a := by
    intro ds
    induction ds with
    | nil => intro a _; rfl
    | cons d r ih =>
      intro a h
      have hd := h d (List.mem_cons_self ..)
      have e : figF (d.toNat + 48) = d := by unfold figF; rw [if_pos (by omega)]; omega
      show (sgn r).foldl _ (a * 10 + figF (d.toNat + 48)) = _
      rw [e, ih _ fun x hx => h x (List.mem_cons_of_mem _ hx)]; rfl
  intro ds h
  exact fold ds 0 h
theorem sgn_digits {ds : List Int} (h : ∀ d ∈ ds, 0 ≤ d ∧ d ≤ 9) : PySem.NumText.AllDigits (sgn ds) := by
  intro c hc
  unfold sgn at hc
  obtain ⟨d, hd, rfl⟩ := List.mem_map.mp hc
  have := h d hd
  omega
theorem scN_A (b : Int) : scN (mant b) (powr b) = 2 * mant b * scA (mant b) (powr b) := by
  unfold scN scA
  have : fac (mant b) (powr b) = 2 * abv (mant b) (powr b) := by unfold fac abv; split <;> rfl
  rw [this]; ac_rfl
theorem nuB_A (b : Int) : nuB b = 2 * mant b * abB b := by unfold nuB abB; rw [scN_A]; ac_rfl
structure PB (b : Int) : Prop where
  u0 : 0 < unB b
  n0 : 0 ≤ nuB b
  na : nuB b + abB b ≤ unB b
  ne : ¬ (evB b = true ∧ nuB b + abB b = unB b)
  a0 : 0 < abB b
  b0 : 0 < beB b
  ba : beB b ≤ abB b
  gt : unB b < 10 * (nuB b + abB b) ∨ (evB b = true ∧ unB b = 10 * (nuB b + abB b))
theorem pb_of {b : Int} (fb : FinB b) : PB b := by
  have hm := (mant_rng b).2
  have hp := (powr_rng b).1
  have I := linv_0 fb.m0 hm hp fb.p1
  have F := sc_facts fb.m0 hm hp fb.p1
  have R := sc_rel (p := powr b) fb.m0
  have P := fplace_facts (ev := evB b) F.n0 F.u0 F.a0 R.1
  exact ⟨I.u0, I.n0, I.na, I.ne, I.a0, I.b0, I.ba, P.gt⟩
theorem genB_ex {b : Int} (fb : FinB b) : ∃ ds, GenB b ds := gen_ex (pb_of fb).u0 _ (Nat.le_refl _) (pb_of fb).n0 (pb_of fb).na (pb_of fb).a0
theorem digB {b : Int} (fb : FinB b) {ds : List Int} (g : GenB b ds) : Digits (unB b) (evB b) (nuB b) (abB b) (beB b) ds :=
  digits_of (pb_of fb).u0 g (pb_of fb).n0 (pb_of fb).na (pb_of fb).ne (pb_of fb).a0 (pb_of fb).b0
theorem lenB {b : Int} (fb : FinB b) {ds : List Int} (g : GenB b ds) : ds.length ≤ 18 := by
  have P := pb_of fb
  have D := digB fb g
  have hm := (mant_rng b).2
  have h1 := D.ln
  have h2 := P.gt
  rw [nuB_A] at h2
  have h3 : abB b * 10 ^ (ds.length - 1) ≤ abB b * (10 * (2 * mant b + 1)) := by
    have : abB b * (10 * (2 * mant b + 1)) = 10 * (2 * mant b * abB b + abB b) := by
      rw [Int.mul_comm (abB b), Int.mul_assoc, Int.add_mul, Int.one_mul]
    rw [this]
    rcases h2 with q | q <;> omega
  have h4 := Int.le_of_mul_le_mul_left h3 P.a0
  rcases Nat.lt_or_ge 18 ds.length with q | q
  · exfalso
    have h5 : (10 : Int) ^ 18 ≤ 10 ^ (ds.length - 1) := by
      have : (10 : Nat) ^ 18 ≤ 10 ^ (ds.length - 1) := Nat.pow_le_pow_right (by decide) (by omega)
      have e1 : ((10 ^ (ds.length - 1) : Nat) : Int) = (10 : Int) ^ (ds.length - 1) := by simp
      have e2 : ((10 ^ 18 : Nat) : Int) = (10 : Int) ^ 18 := by simp
      omega
    have e : (10 : Int) ^ 18 = 1000000000000000000 := by decide
    rw [e] at h5
    omega
  · exact q
theorem firstB {b : Int} (fb : FinB b) {ds : List Int} (g : GenB b ds) : ds.getD 0 0 ≠ 0 := by
  have P := pb_of fb
  have hm := fb.m0
  obtain ⟨a1, a2, a3, a4, a5⟩ := gen_arith (n := nuB b) P.u0 P.n0 (by have := P.na; have := P.a0; omega)
  have hn : 2 * abB b ≤ nuB b := by
    rw [nuB_A]; have := Int.mul_le_mul_of_nonneg_right (show 2 ≤ 2 * mant b by omega) (Int.le_of_lt P.a0); exact this
  have hgt := P.gt; have hba := P.ba; have ha0 := P.a0; have hb0 := P.b0
  have hz : nuB b * 10 / unB b = 0 → gHi (nuB b) (abB b) (unB b) (evB b) = true ∧ gLo (nuB b) (beB b) (unB b) (evB b) = false := by
    intro z
    rw [z] at a5
    have hr : gR (nuB b) (unB b) = nuB b * 10 := by unfold gR; omega
    constructor
    · rw [gHi_iff, hr]
      rcases hgt with q | q
      · left; omega
      · right; exact ⟨q.1, by omega⟩
    · have : ¬ gLo (nuB b) (beB b) (unB b) (evB b) = true := by
        rw [gLo_iff, hr]; intro q; rcases q with q | q <;> omega
      simpa using this
  unfold GenB at g
  generalize nuB b = N at *
  generalize abB b = A at *
  generalize beB b = B at *
  cases g with
  | stop h =>
    intro e
    have e' : lastf (gD N (unB b)) (gR N (unB b)) (unB b) (gLo N B (unB b) (evB b)) (gHi N A (unB b) (evB b)) = 0 := e
    have hl := lastf_rng (gD N (unB b)) (gR N (unB b)) (unB b) (gLo N B (unB b) (evB b)) (gHi N A (unB b) (evB b)) a1
    have hD : gD N (unB b) = 0 := by
      have : gD N (unB b) ≤ lastf (gD N (unB b)) (gR N (unB b)) (unB b) (gLo N B (unB b) (evB b)) (gHi N A (unB b) (evB b)) := by
        have : 0 ≤ gD N (unB b) := a1
        unfold lastf; (repeat' split) <;> omega
      have : 0 ≤ gD N (unB b) := a1
      omega
    obtain ⟨q1, q2⟩ := hz hD
    rw [q1, q2, hD] at e'
    exact absurd e' (by simp [lastf])
  | step h1 h2 g =>
    intro e
    have e' : gD N (unB b) = 0 := e
    obtain ⟨q1, _⟩ := hz e'
    rw [q1] at h2; cases h2
end Mine
end
section
open PySem PySem.W PyProof.Rows PySem.Calls PySem.Spec
namespace Mine
open PySem.Builtin.Int (intBits)
theorem p10_ge_p2 (k : Nat) : (2 : Int) ^ (3 * k) ≤ 10 ^ k := by
  have h : 2 ^ (3 * k) ≤ 10 ^ k := by rw [Nat.pow_mul]; exact Nat.pow_le_pow_left (by decide) k
  have e1 : ((10 ^ k : Nat) : Int) = (10 : Int) ^ k := by simp
  have e2 : ((2 ^ (3 * k) : Nat) : Int) = (2 : Int) ^ (3 * k) := by simp
  omega
theorem p2_lt_of {a c : Nat} (h : (2 : Int) ^ a < 2 ^ c) : a < c := by
  rcases Nat.lt_or_ge a c with q | q
  · exact q
  · exfalso
    have := Nat.pow_le_pow_right (n := 2) (by decide) q
    have e1 : ((2 ^ a : Nat) : Int) = (2 : Int) ^ a := by simp
    have e2 : ((2 ^ c : Nat) : Int) = (2 : Int) ^ c := by simp
    omega
theorem p2_mono {a c : Nat} (h : a ≤ c) : (2 : Int) ^ a ≤ 2 ^ c := by
  have := Nat.pow_le_pow_right (n := 2) (by decide) h
  have e1 : ((2 ^ a : Nat) : Int) = (2 : Int) ^ a := by simp
  have e2 : ((2 ^ c : Nat) : Int) = (2 : Int) ^ c := by simp
  omega
theorem plB_400 {b : Int} (fb : FinB b) : -360 ≤ plB b ∧ plB b ≤ 390 := by
  have P := pb_of fb
  have hm := (mant_rng b).2
  have hm0 := fb.m0
  have hp1 := fb.p1
  have hp := (powr_rng b).1
  have hfa : (fac (mant b) (powr b) = 4 ∧ abv (mant b) (powr b) = 2) ∨ (fac (mant b) (powr b) = 2 ∧ abv (mant b) (powr b) = 1) := by unfold fac abv; split <;> simp
  have q1 := pow_pos' (powr b).toNat
  have q2 := pow_pos' (-powr b).toNat
  constructor
  · -- 10^(-p) ≤ scU
    rcases Int.lt_or_le (plB b) (-360) with q | q
    · exfalso
      have hna := P.na
      have h1 : 10 ^ (0 - plB b).toNat ≤ abB b := by
        unfold abB scA
        have : (1 : Int) * 10 ^ (0 - plB b).toNat ≤ abv (mant b) (powr b) * 2 ^ (powr b).toNat * 10 ^ (0 - plB b).toNat := by
          refine Int.mul_le_mul_of_nonneg_right ?_ (Int.le_of_lt (p10_pos _))
          rcases hfa with z | z <;> rw [z.2] <;> omega
        omega
      have h2 : unB b ≤ 4 * 2 ^ (-powr b).toNat := by
        unfold unB scU
        rw [show (plB b).toNat = 0 by omega, Int.pow_zero, Int.mul_one]
        rcases hfa with z | z <;> rw [z.1] <;> omega
      have h3 := p10_ge_p2 (0 - plB b).toNat
      have h4 : (2 : Int) ^ (-powr b).toNat ≤ 2 ^ 1074 := p2_mono (by omega)
      have h5 : (2 : Int) ^ 1077 = 8 * 2 ^ 1074 := by rw [show 1077 = 3 + 1074 from rfl, p2_add]; rfl
      have h0 := P.n0
      have h6 := pow_pos' 1074
      have := p2_lt_of (a := 3 * (0 - plB b).toNat) (c := 1077) (by rw [h5]; omega)
      omega
    · exact q
  · rcases Int.lt_or_le 390 (plB b) with q | q
    · exfalso
      have hgt := P.gt
      rw [nuB_A] at hgt
      have h1 : 10 ^ (plB b).toNat ≤ unB b := by
        unfold unB scU
        have : (1 : Int) * 10 ^ (plB b).toNat ≤ fac (mant b) (powr b) * 2 ^ (-powr b).toNat * 10 ^ (plB b).toNat := by
          refine Int.mul_le_mul_of_nonneg_right ?_ (Int.le_of_lt (p10_pos _))
          rcases hfa with z | z <;> rw [z.1] <;> omega
        omega
      have h2 : abB b ≤ 2 * 2 ^ (powr b).toNat := by
        unfold abB scA
        rw [show (0 - plB b).toNat = 0 by omega, Int.pow_zero, Int.mul_one]
        rcases hfa with z | z <;> rw [z.2] <;> omega
      have h3 := p10_ge_p2 (plB b).toNat
      have h4 : (2 : Int) ^ (powr b).toNat ≤ 2 ^ 971 := p2_mono (by omega)
      have h6 : 2 * mant b * abB b + abB b ≤ 2 ^ 54 * abB b := by
        have : (2 * mant b + 1) * abB b ≤ 2 ^ 54 * abB b := Int.mul_le_mul_of_nonneg_right (by omega) (Int.le_of_lt P.a0)
        rwa [Int.add_mul, Int.one_mul] at this
      have h7 : 2 ^ 54 * abB b ≤ 2 ^ 54 * (2 * 2 ^ 971) := Int.mul_le_mul_of_nonneg_left (by omega) (by decide)
      have h8 : (2 : Int) ^ 54 * (2 * 2 ^ 971) = 2 ^ 1026 := by rw [show (2 : Int) * 2 ^ 971 = 2 ^ 972 by rw [show 972 = 1 + 971 from rfl, p2_add]; rfl, ← p2_add]
      have h9 : (2 : Int) ^ 1030 = 16 * 2 ^ 1026 := by rw [show 1030 = 4 + 1026 from rfl, p2_add]; rfl
      have h10 := pow_pos' 1026
      have := p2_lt_of (a := 3 * (plB b).toNat) (c := 1030) (by rw [h9]; rcases hgt with z | z <;> omega)
      omega
    · exact q
end Mine
end
section
open PySem PySem.W PyProof.Rows PySem.Calls PySem.Spec
namespace Mine
open PySem.Builtin.Int (intBits)
theorem rdB {b : Int} (fb : FinB b) (h0 : 0 < b) (h1 : b < 9218868437227405312) {ds : List Int} (g : GenB b ds) :
    reads (teN (wv (sgn ds)) (plB b - ((sgn ds).length : Int))) (teD (plB b - ((sgn ds).length : Int))) b = true := by
  have D := digB fb g
  rw [sgn_len, wv_sgn D.dg, reads_rd h0 h1]
  exact D.rd
theorem shB {b : Int} (fb : FinB b) (h0 : 0 < b) (h1 : b < 9218868437227405312) {ds : List Int} (g : GenB b ds) : ShOk (sgn ds) (plB b) b := by
  have D := digB fb g
  have hl := lenB fb g
  have hp := plB_400 fb
  have hne : sgn ds ≠ [] := fun e => by
    have h3 : ds.length = 0 := by rw [← sgn_len, e]; rfl
    have := D.l1
    omega
  refine ⟨sgn_digits D.dg, hne, by rw [sgn_len]; omega, h0, h1, by omega, by omega, ?_, ?_⟩
  · intro o ho hr hd
    rw [sgn_len] at hr hd
    rw [wv_sgn D.dg] at ho hd
    exact dOrd_nn (D.nr o ho ((reads_rd h0 h1 o ds.length).mp hr)) hd
  · intro hn
    rw [sgn_len] at hn
    have hs := D.sh (by omega)
    have l1 := D.l1
    rw [sgn_len, wv_sgn D.dg, show plB b - (ds.length : Int) + 1 = plB b - ((ds.length - 1 : Nat) : Int) by omega]
    constructor
    · have := fun q => hs.1 ((reads_rd h0 h1 (valD ds / 10) (ds.length - 1)).mp q)
      simpa using this
    · have := fun q => hs.2 ((reads_rd h0 h1 (valD ds / 10 + 1) (ds.length - 1)).mp q)
      simpa using this
theorem finB_of {b : Int} (h : LawB b) : FinB b := by
  have h1 := h.p; have h2 := h.q
  obtain ⟨e1, e2⟩ := ef (b := b) (by omega) (by omega)
  rcases mp b with ⟨a1, a2, a3⟩ | ⟨a1, a2, a3⟩ <;> exact ⟨by omega, by omega, by omega, by omega⟩
theorem neg_mp {b : Int} (h0 : 0 ≤ b) (h1 : b < 9223372036854775808) : mant (b + 9223372036854775808) = mant b ∧ powr (b + 9223372036854775808) = powr b := by
  have he : expo (b + 9223372036854775808) = expo b := by
    have i1 : expo (b + 9223372036854775808) = (b + 9223372036854775808) / 4503599627370496 % 2048 := rfl
    have i2 : expo b = b / 4503599627370496 % 2048 := rfl
    omega
  have hf : frac (b + 9223372036854775808) = frac b := by
    have i1 : frac (b + 9223372036854775808) = (b + 9223372036854775808) % 4503599627370496 := rfl
    have i2 : frac b = b % 4503599627370496 := rfl
    omega
  unfold mant powr
  rw [he, hf]; exact ⟨rfl, rfl⟩
theorem neg_same {b : Int} (h0 : 0 ≤ b) (h1 : b < 9223372036854775808) : plB (b + 9223372036854775808) = plB b ∧ ∀ ds, GenB b ds → GenB (b + 9223372036854775808) ds := by
  obtain ⟨e1, e2⟩ := neg_mp h0 h1
  have hev : evB (b + 9223372036854775808) = evB b := by unfold evB; rw [e1]
  have hpl : plB (b + 9223372036854775808) = plB b := by unfold plB; rw [e1, e2, hev]
  refine ⟨hpl, fun ds g => ?_⟩
  unfold GenB unB nuB abB beB at *
  rw [e1, e2, hev, hpl]; exact g
theorem finB_neg {b : Int} (h : LawB b) : FinB (b + 9223372036854775808) := by
  have fb := finB_of h
  have h1 := h.p; have h2 := h.q
  obtain ⟨e1, e2⟩ := neg_mp (b := b) (by omega) (by omega)
  exact ⟨by omega, by omega, by rw [e1]; exact fb.m0, by rw [e2]; exact fb.p1⟩
theorem shw_neg {b : Int} (h : LawB b) (ds : List Int) : shw (b + 9223372036854775808) ds = 45 :: shw b ds := by
  have h1 := h.p; have h2 := h.q
  unfold shw
  rw [if_pos (by omega), if_neg (by omega), (neg_same (b := b) (by omega) (by omega)).1]
end Mine
end
section
open PySem PySem.W PyProof.Rows PySem.Calls PySem.Spec
namespace Mine
open PySem.Builtin.Int (intBits)
/-- 2 X between the middles -/
structure Mid (N D b : Int) : Prop where
  lo : (WW b + WW (b - 1)) * D < 2 * (N * 2 ^ 1074) ∨ (evB b = true ∧ (WW b + WW (b - 1)) * D = 2 * (N * 2 ^ 1074))
  hi : 2 * (N * 2 ^ 1074) < (WW b + WW (b + 1)) * D ∨ (evB b = true ∧ 2 * (N * 2 ^ 1074) = (WW b + WW (b + 1)) * D)
theorem mid_lo {N D b : Int} (h0 : 0 < b) (h1 : b < 9218868437227405312) : lowS N D b * (2 * 2 ^ 1074) = scU (mant b) (powr b) * (2 * (N * 2 ^ 1074) - (WW b + WW (b - 1)) * D) := by
  have g := gap_lo h0 h1
  have s := sc_W (b := b)
  unfold lowS
  generalize scU (mant b) (powr b) = U at *
  generalize scN (mant b) (powr b) = n at *
  generalize scB (mant b) (powr b) = B at *
  generalize (2 : Int) ^ 1074 = P at *
  generalize WW b = w1 at *
  generalize WW (b - 1) = w2 at *
  have e1 : (n - B) * D * (2 * P) = (2 * (n * P) - 2 * (B * P)) * D := by
    have : (n - B) * D * (2 * P) = (2 * (P * (n - B))) * D := by ac_rfl
    rw [this, Int.mul_sub, Int.mul_sub]; congr 2 <;> ac_rfl
  have e2 : (2 * (w1 * U) - (w1 - w2) * U) = (w1 + w2) * U := by rw [Int.sub_mul, Int.add_mul]; omega
  rw [Int.sub_mul, e1, s, g, e2, Int.mul_sub]
  congr 1 <;> ac_rfl
theorem mid_hi {N D b : Int} (h0 : 0 ≤ b) (h1 : b < 9218868437227405312) : hiS N D b * (2 * 2 ^ 1074) = scU (mant b) (powr b) * ((WW b + WW (b + 1)) * D - 2 * (N * 2 ^ 1074)) := by
  have g := gap_hi h0 h1
  have s := sc_W (b := b)
  unfold hiS
  generalize scU (mant b) (powr b) = U at *
  generalize scN (mant b) (powr b) = n at *
  generalize scA (mant b) (powr b) = B at *
  generalize (2 : Int) ^ 1074 = P at *
  generalize WW b = w1 at *
  generalize WW (b + 1) = w2 at *
  have e1 : (n + B) * D * (2 * P) = (2 * (n * P) + 2 * (B * P)) * D := by
    have : (n + B) * D * (2 * P) = (2 * (P * (n + B))) * D := by ac_rfl
    rw [this, Int.mul_add, Int.mul_add]; congr 2 <;> ac_rfl
  have e2 : (2 * (w1 * U) + (w2 - w1) * U) = (w1 + w2) * U := by rw [Int.sub_mul, Int.add_mul]; omega
  rw [Int.sub_mul, e1, s, g, e2, Int.mul_sub]
  congr 1 <;> ac_rfl
theorem mid_of {N D b : Int} (h0 : 0 < b) (h1 : b < 9218868437227405312) (r : reads N D b = true) : Mid N D b := by
  have hP : (0 : Int) < 2 * 2 ^ 1074 := Int.mul_pos (by decide) (pow_pos' 1074)
  obtain ⟨a1, a2⟩ := sign_of_eq hP (scU_pos b) (mid_lo (N := N) (D := D) h0 h1)
  obtain ⟨c1, c2⟩ := sign_of_eq hP (scU_pos b) (mid_hi (N := N) (D := D) (by omega) h1)
  obtain ⟨q1, q2⟩ := (reads_sc h0 h1).mp r
  rw [a1, a2] at q1; rw [c1, c2] at q2
  exact ⟨q1.elim (fun z => .inl (by omega)) fun z => .inr ⟨z.1, by omega⟩, q2.elim (fun z => .inl (by omega)) fun z => .inr ⟨z.1, by omega⟩⟩
end Mine
end
section
open PySem PySem.W PyProof.Rows PySem.Calls PySem.Spec
namespace Mine
open PySem.Builtin.Int (intBits)
def YY (D p : Int) : Int := D * 2 ^ (p + 1074).toNat
theorem q_cmp (N D : Int) {p : Int} (hp : -1074 ≤ p) : qT N p * YY D p = qB D p * (N * 2 ^ 1074) := by
  unfold qT qB YY
  split
  · rename_i h
    have e : (2 : Int) ^ (p + 1074).toNat = 2 ^ p.toNat * 2 ^ 1074 := by rw [← p2_add]; congr 1; omega
    rw [e]; ac_rfl
  · rename_i h
    have e : (2 : Int) ^ 1074 = 2 ^ (-p).toNat * 2 ^ (p + 1074).toNat := by rw [← p2_add]; congr 1; omega
    rw [e]; ac_rfl
theorem YY_pos {D : Int} (hD : 0 < D) (p : Int) : 0 < YY D p := Int.mul_pos hD (pow_pos' _)
theorem YY_succ (D : Int) {p : Int} (hp : -1074 ≤ p) : YY D (p + 1) = 2 * YY D p := by
  unfold YY
  rw [show (p + 1 + 1074).toNat = (p + 1074).toNat + 1 by omega, Int.pow_succ]; ac_rfl
/-- compare the quotient with c -/
theorem q_le {N D p c : Int} (hD : 0 < D) (hp : -1074 ≤ p) : c * qB D p ≤ qT N p ↔ c * YY D p ≤ N * 2 ^ 1074 := by
  have k := q_cmp N D hp
  have hY := YY_pos hD p
  have hB := qB_pos (p := p) hD
  generalize qT N p = T at *
  generalize qB D p = B at *
  generalize YY D p = Y at *
  generalize N * 2 ^ 1074 = X at *
  constructor
  · intro h
    have := Int.mul_le_mul_of_nonneg_right h (Int.le_of_lt hY)
    rw [k, show c * B * Y = B * (c * Y) by ac_rfl] at this
    exact Int.le_of_mul_le_mul_left this hB
  · intro h
    have := Int.mul_le_mul_of_nonneg_left h (Int.le_of_lt hB)
    rw [← k, show B * (c * Y) = c * B * Y by ac_rfl] at this
    exact Int.le_of_mul_le_mul_right this hY
theorem bits_rng {x : Int} (h : 0 < x) : x < 2 ^ intBits x ∧ 2 ^ intBits x ≤ 2 * x := by
  have h1 := intBits_le_iff.mp (Nat.le_refl (intBits x))
  have e1 : ((2 ^ intBits x : Nat) : Int) = (2 : Int) ^ intBits x := by simp
  refine ⟨by omega, ?_⟩
  rcases Nat.eq_zero_or_pos (intBits x) with q | q
  · rw [q]; omega
  · have h2 : ¬ intBits x ≤ intBits x - 1 := by omega
    rw [intBits_le_iff] at h2
    have h3 : (2 : Nat) ^ intBits x = 2 ^ (intBits x - 1) * 2 := by rw [← Nat.pow_succ]; congr 1; omega
    omega
theorem P_hi {N D : Int} (hN : 0 < N) (hD : 0 < D) : N * 2 ^ 1074 < 2 ^ 54 * YY D (rrP N D) := by
  obtain ⟨n1, n2⟩ := bits_rng hN
  obtain ⟨d1, d2⟩ := bits_rng hD
  have hr : -1074 ≤ rrP N D ∧ (intBits N : Int) - intBits D - 53 ≤ rrP N D := by unfold rrP; split <;> omega
  unfold YY
  have a1 : N * 2 ^ 1074 < 2 ^ intBits N * 2 ^ 1074 := Int.mul_lt_mul_of_pos_right n1 (pow_pos' _)
  have a2 : (2 : Int) ^ intBits N * 2 ^ 1074 ≤ 2 ^ (53 + intBits D) * 2 ^ (rrP N D + 1074).toNat := by
    rw [← p2_add, ← p2_add]; exact p2_mono (by omega)
  have a3 : (2 : Int) ^ (53 + intBits D) * 2 ^ (rrP N D + 1074).toNat ≤ 2 ^ 53 * (2 * D) * 2 ^ (rrP N D + 1074).toNat := by
    refine Int.mul_le_mul_of_nonneg_right ?_ (Int.le_of_lt (pow_pos' _))
    rw [p2_add]
    exact Int.mul_le_mul_of_nonneg_left d2 (by decide)
  have a4 : (2 : Int) ^ 53 * (2 * D) * 2 ^ (rrP N D + 1074).toNat = 2 ^ 54 * (D * 2 ^ (rrP N D + 1074).toNat) := by
    rw [show (2 : Int) ^ 54 = 2 ^ 53 * 2 by decide]; ac_rfl
  omega
theorem P_lo {N D : Int} (hN : 0 < N) (hD : 0 < D) (h : rrP N D ≠ -1074) : 2 ^ 52 * YY D (rrP N D) ≤ N * 2 ^ 1074 := by
  obtain ⟨n1, n2⟩ := bits_rng hN
  obtain ⟨d1, d2⟩ := bits_rng hD
  have hr : rrP N D = (intBits N : Int) - intBits D - 53 ∧ -1074 ≤ rrP N D := by unfold rrP at h ⊢; split at h <;> split <;> omega
  unfold YY
  have a1 : 2 * (2 ^ 52 * (D * 2 ^ (rrP N D + 1074).toNat)) ≤ 2 * (2 ^ 52 * (2 ^ intBits D * 2 ^ (rrP N D + 1074).toNat)) := by
    refine Int.mul_le_mul_of_nonneg_left (Int.mul_le_mul_of_nonneg_left (Int.mul_le_mul_of_nonneg_right (Int.le_of_lt d1) (Int.le_of_lt (pow_pos' _))) (by decide)) (by decide)
  have a2 : 2 * ((2 : Int) ^ 52 * (2 ^ intBits D * 2 ^ (rrP N D + 1074).toNat)) = 2 ^ intBits N * 2 ^ 1074 := by
    rw [show ∀ x : Int, 2 * (2 ^ 52 * x) = 2 ^ 53 * x from fun x => by rw [← Int.mul_assoc]; rfl, ← p2_add, ← p2_add, ← p2_add]; congr 1; omega
  have a3 : 2 ^ intBits N * 2 ^ 1074 ≤ 2 * N * 2 ^ 1074 := Int.mul_le_mul_of_nonneg_right n2 (Int.le_of_lt (pow_pos' _))
  rw [Int.mul_assoc] at a3
  omega
end Mine
end
section
open PySem PySem.W PyProof.Rows PySem.Calls PySem.Spec
namespace Mine
open PySem.Builtin.Int (intBits)
structure QF (N D Q : Int) : Prop where
  q0 : -1074 ≤ Q
  hi : N * 2 ^ 1074 < 9007199254740992 * YY D Q
  lo : Q ≠ -1074 → 4503599627370496 * YY D Q ≤ N * 2 ^ 1074
theorem q_facts {N D : Int} (hN : 0 < N) (hD : 0 < D) : QF N D (rrQ N D) := by
  have hr : -1074 ≤ rrP N D := by unfold rrP; split <;> omega
  have h1 := P_hi hN hD
  have h2 := P_lo hN hD
  have hB := qB_pos (p := rrP N D) hD
  have hc := q_le (N := N) (c := 9007199254740992) hD hr
  have hs := YY_succ D hr
  rw [show (2 : Int) ^ 54 = 18014398509481984 by decide] at h1
  rw [show (2 : Int) ^ 52 = 4503599627370496 by decide] at h2
  unfold rrQ
  split
  · rename_i h
    rw [Int.le_ediv_iff_mul_le hB, hc] at h
    exact ⟨by omega, by rw [hs]; omega, fun _ => by rw [hs]; omega⟩
  · rename_i h
    rw [Int.le_ediv_iff_mul_le hB, hc] at h
    exact ⟨hr, by omega, h2⟩
theorem round_m {T B m : Int} (hB : 0 < B) (hlo : (2 * m - 1) * B < 2 * T ∨ (m % 2 = 0 ∧ (2 * m - 1) * B = 2 * T)) (hhi : 2 * T < (2 * m + 1) * B ∨ (m % 2 = 0 ∧ 2 * T = (2 * m + 1) * B)) :
    T / B + (if B < 2 * (T % B) ∨ (2 * (T % B) = B ∧ T / B % 2 = 1) then 1 else 0) = m := by
  have a1 := Int.emod_nonneg T (show B ≠ 0 by omega)
  have a2 := Int.emod_lt_of_pos T hB
  have a3 := Int.mul_ediv_add_emod T B
  generalize T % B = r at *
  obtain ⟨k, hk⟩ : ∃ k, T / B = m + k := ⟨T / B - m, by omega⟩
  rw [hk] at a3 ⊢
  rw [Int.mul_add] at a3
  have e1 : (2 * m - 1) * B = 2 * (B * m) - B := by rw [Int.sub_mul, Int.one_mul, Int.mul_assoc, Int.mul_comm m]
  have e2 : (2 * m + 1) * B = 2 * (B * m) + B := by rw [Int.add_mul, Int.one_mul, Int.mul_assoc, Int.mul_comm m]
  rw [e1] at hlo; rw [e2] at hhi
  have hk1 : -1 ≤ k := by
    rcases Int.lt_or_le k (-1) with q | q
    · exfalso
      have := Int.mul_le_mul_of_nonneg_left (show k ≤ -2 by omega) (Int.le_of_lt hB)
      rcases hlo with z | z <;> omega
    · exact q
  have hk2 : k ≤ 0 := by
    rcases Int.lt_or_le 0 k with q | q
    · exfalso
      have := Int.mul_le_mul_of_nonneg_left (show 1 ≤ k by omega) (Int.le_of_lt hB)
      rcases hhi with z | z <;> omega
    · exact q
  rcases (show k = 0 ∨ k = -1 by omega) with rfl | rfl
  · have : ¬ (B < 2 * r ∨ (2 * r = B ∧ (m + 0) % 2 = 1)) := by
      rintro (q | q) <;> rcases hhi with z | z <;> omega
    rw [if_neg this]; omega
  · have : B < 2 * r ∨ (2 * r = B ∧ (m + -1) % 2 = 1) := by
      rcases hlo with z | z
      · left; omega
      · right; omega
    rw [if_pos this]; omega
theorem two_cmp {N D p c : Int} (hD : 0 < D) (hp : -1074 ≤ p) : (c * qB D p < 2 * qT N p ↔ c * YY D p < 2 * (N * 2 ^ 1074)) ∧ (c * qB D p = 2 * qT N p ↔ c * YY D p = 2 * (N * 2 ^ 1074)) ∧ (2 * qT N p < c * qB D p ↔ 2 * (N * 2 ^ 1074) < c * YY D p) := by
  have k := q_cmp N D hp
  have hY := YY_pos hD p
  have hB := qB_pos (p := p) hD
  generalize qT N p = T at *
  generalize qB D p = B at *
  generalize YY D p = Y at *
  generalize N * 2 ^ 1074 = X at *
  have e : (2 * T - c * B) * Y = B * (2 * X - c * Y) := by
    rw [Int.sub_mul, Int.mul_sub, show 2 * T * Y = 2 * (T * Y) by ac_rfl, k]; congr 1 <;> ac_rfl
  have e' : (c * B - 2 * T) * Y = B * (c * Y - 2 * X) := by
    rw [Int.sub_mul, Int.mul_sub, show 2 * T * Y = 2 * (T * Y) by ac_rfl, k]; congr 1 <;> ac_rfl
  obtain ⟨a1, a2⟩ := sign_of_eq hY hB e
  obtain ⟨c1, _⟩ := sign_of_eq hY hB e'
  exact ⟨by omega, by omega, by omega⟩
end Mine
end
section
open PySem PySem.W PyProof.Rows PySem.Calls PySem.Spec
namespace Mine
open PySem.Builtin.Int (intBits)
theorem b_mp {b : Int} (h0 : 0 ≤ b) (h1 : b < 9223372036854775808) : b = (powr b + 1074) * 4503599627370496 + mant b := by
  obtain ⟨e1, e2⟩ := ef h0 h1
  rcases mp b with ⟨a1, a2, a3⟩ | ⟨a1, a2, a3⟩ <;> omega
theorem ev_m {b : Int} : evB b = true ↔ mant b % 2 = 0 := by unfold evB; rw [beq_iff_eq]
theorem YY_E {D b : Int} : YY D (powr b) = D * 2 ^ EE b := rfl
theorem mul_arith {X A B C : Int} (h1 : X < A) (a1 : 2 * A ≤ B) (a2 : B < C) (h : C < 2 * X ∨ C = 2 * X) : False := by
  rcases h with h | h <;> omega
theorem lt_arith {X Y Z : Int} (h1 : X < 9007199254740992 * Y) (h2 : Y * 2 ≤ Z) (h3 : 0 < Z) (h : 18014398509481983 * Z < 2 * X ∨ 18014398509481983 * Z = 2 * X) : False := by
  have a1 := Int.mul_le_mul_of_nonneg_left h2 (show (0 : Int) ≤ 9007199254740992 by decide)
  have a2 := Int.mul_lt_mul_of_pos_right (show (9007199254740992 : Int) < 18014398509481983 by decide) h3
  have a3 : 2 * (9007199254740992 * Y) ≤ 9007199254740992 * Z := by
    rw [Int.mul_left_comm, Int.mul_comm 2 Y]; exact a1
  exact mul_arith h1 a3 a2 h
theorem round_edge {T B : Int} (hB : 0 < B) (hlo : 18014398509481983 * B < 2 * T ∨ 18014398509481983 * B = 2 * T) (hhi : 2 * T < 18014398509481985 * B) :
    T / B + (if B < 2 * (T % B) ∨ (2 * (T % B) = B ∧ T / B % 2 = 1) then 1 else 0) = 9007199254740992 := by
  refine round_m hB ?_ ?_
  · rw [show (2 * 9007199254740992 - 1 : Int) = 18014398509481983 by decide]
    exact hlo.imp id fun z => ⟨by decide, z⟩
  · rw [show (2 * 9007199254740992 + 1 : Int) = 18014398509481985 by decide]
    exact .inl hhi
theorem edge_hi {X Z : Int} (h : X < 9007199254740992 * Z) (hZ : 0 < Z) : 2 * X < 18014398509481985 * Z := by
  have a2 := Int.mul_lt_mul_of_pos_right (show (18014398509481984 : Int) < 18014398509481985 by decide) hZ
  have a3 : 2 * (9007199254740992 * Z) = 18014398509481984 * Z := by
    rw [← Int.mul_assoc, show (2 * 9007199254740992 : Int) = 18014398509481984 by decide]
  rw [← a3] at a2
  exact Int.lt_trans (Int.mul_lt_mul_of_pos_left h (by decide)) a2
/-- the power of the quotient, or one less at a power's edge -/
theorem rr_at {N D b : Int} (hN : 0 < N) (hD : 0 < D) (h0 : 0 < b) (h1 : b < 9218868437227405312) (r : reads N D b = true) :
    (rrQ N D = powr b ∧ rrW N D (rrQ N D) = mant b) ∨ (rrQ N D = powr b - 1 ∧ mant b = 4503599627370496 ∧ rrW N D (rrQ N D) = 9007199254740992) := by
  have M := mid_of h0 h1 r
  have Q := q_facts hN hD
  have hQ0 := Q.q0
  have hm := mant_rng b
  have hp := powr_rng b
  have hev := ev_m (b := b)
  have hB := qB_pos (p := rrQ N D) hD
  have w1 := WW_succ (b := b) (by omega) h1
  have w2 := WW_succ (b := b - 1) (by omega) (by omega)
  rw [show b - 1 + 1 = b by omega] at w2
  have hW : WW b = mant b * 2 ^ EE b := rfl
  have hE := pow_pos' (EE b)
  have hmid := M.lo; have hmid2 := M.hi
  have hq1 := Q.hi; have hq2 := Q.lo
  -- everything over Z = D * 2^E
  have z2 : (WW b + WW (b + 1)) * D = (2 * mant b + 1) * (D * 2 ^ EE b) := by
    rw [w1, hW]
    have : mant b * 2 ^ EE b + (mant b * 2 ^ EE b + 2 ^ EE b) = (2 * mant b + 1) * 2 ^ EE b := by rw [Int.add_mul, Int.one_mul, Int.mul_assoc]; omega
    rw [this]; ac_rfl
  rw [z2] at hmid2
  have hZ : 0 < D * 2 ^ EE b := Int.mul_pos hD hE
  have hE1 : (2 : Int) ^ EE (b - 1) ≤ 2 ^ EE b := p2_mono (by unfold EE; rcases pred_mp h0 h1 with ⟨_, q⟩ | ⟨_, q⟩ <;> omega)
  have z1 : (2 * mant b - 1) * (D * 2 ^ EE b) ≤ (WW b + WW (b - 1)) * D := by
    have e1 : (2 * mant b - 1) * (D * 2 ^ EE b) = (2 * (mant b * 2 ^ EE b) - 2 ^ EE b) * D := by
      rw [Int.sub_mul, Int.sub_mul, Int.one_mul]; congr 1
      · ac_rfl
      · exact Int.mul_comm ..
    rw [e1]
    exact Int.mul_le_mul_of_nonneg_right (by omega) (Int.le_of_lt hD)
  rcases Int.lt_trichotomy (rrQ N D) (powr b) with hlt | heq | hgt
  · right
    -- a lower power: the edge
    have hp2 : YY D (rrQ N D) * 2 ≤ D * 2 ^ EE b := by
      unfold YY
      have : (2 : Int) ^ (rrQ N D + 1074).toNat * 2 ≤ 2 ^ EE b := by
        rw [← Int.pow_succ]; exact p2_mono (by unfold EE; omega)
      have := Int.mul_le_mul_of_nonneg_left this (Int.le_of_lt hD)
      rw [← Int.mul_assoc] at this; exact this
    have hgap := pred_mp h0 h1
    have hhi : 2 * (N * 2 ^ 1074) < 9007199254740992 * (D * 2 ^ EE b) := by omega
    have hmE : mant b = 4503599627370496 := by
      have hge : 4503599627370496 ≤ mant b := by rcases mp b with ⟨a1, a2, a3⟩ | ⟨a1, a2, a3⟩ <;> have := frac_rng b <;> omega
      rcases Int.lt_or_le 4503599627370496 (mant b) with q | q
      · exfalso
        have hm2 : 9007199254740993 * (D * 2 ^ EE b) ≤ (2 * mant b - 1) * (D * 2 ^ EE b) := Int.mul_le_mul_of_nonneg_right (by omega) (Int.le_of_lt hZ)
        rcases hmid with z | z <;> omega
      · omega
    have hed : powr (b - 1) = powr b - 1 := by
      rcases hgap with ⟨_, q⟩ | ⟨q, _⟩
      · exact q
      · exact absurd ⟨hmE, by omega⟩ q
    have hE2 : D * 2 ^ EE b = 2 * (D * 2 ^ EE (b - 1)) := by
      rw [show EE b = EE (b - 1) + 1 by unfold EE; omega, Int.pow_succ]; ac_rfl
    have z3 : (WW b + WW (b - 1)) * D = 18014398509481983 * (D * 2 ^ EE (b - 1)) := by
      have e2 : (2 : Int) ^ EE b = 2 * 2 ^ EE (b - 1) := by rw [show EE b = EE (b - 1) + 1 by unfold EE; omega, Int.pow_succ, Int.mul_comm]
      rw [hmE, e2] at hW
      have : WW b + WW (b - 1) = 18014398509481983 * 2 ^ EE (b - 1) := by omega
      rw [this]; ac_rfl
    rw [z3] at hmid
    have hZ1 : 0 < D * 2 ^ EE (b - 1) := by omega
    have hQ1 : rrQ N D = powr b - 1 := by
      rcases Int.lt_or_le (rrQ N D) (powr b - 1) with q | q
      · exfalso
        have hp3 : YY D (rrQ N D) * 2 ≤ D * 2 ^ EE (b - 1) := by
          unfold YY
          have : (2 : Int) ^ (rrQ N D + 1074).toNat * 2 ≤ 2 ^ EE (b - 1) := by
            rw [← Int.pow_succ]; exact p2_mono (by unfold EE; omega)
          have := Int.mul_le_mul_of_nonneg_left this (Int.le_of_lt hD)
          rw [← Int.mul_assoc] at this; exact this
        exact lt_arith hq1 hp3 hZ1 (hmid.imp id And.right)
      · omega
    refine ⟨hQ1, hmE, ?_⟩
    have hYQ : YY D (rrQ N D) = D * 2 ^ EE (b - 1) := by rw [hQ1, ← hed]; rfl
    obtain ⟨c1, c2, _⟩ := two_cmp (N := N) (c := 18014398509481983) hD hQ0
    obtain ⟨_, _, d3⟩ := two_cmp (N := N) (c := 18014398509481985) hD hQ0
    rw [hYQ] at c1 c2 d3
    rw [hYQ] at hq1
    exact round_edge hB (hmid.imp c1.mpr fun z => c2.mpr z.2) (d3.mpr (edge_hi hq1 hZ1))
  · left
    rw [heq] at hB ⊢
    refine ⟨rfl, ?_⟩
    obtain ⟨c1, c2, _⟩ := two_cmp (N := N) (c := 2 * mant b - 1) hD hp.1
    obtain ⟨_, d2, d3⟩ := two_cmp (N := N) (c := 2 * mant b + 1) hD hp.1
    rw [YY_E] at c1 c2 d2 d3
    refine round_m hB ?_ ?_
    · rw [c1, c2, ← hev]
      rcases hmid with q | ⟨q1, q2⟩
      · left; omega
      · rcases Int.lt_or_eq_of_le z1 with z | z
        · left; omega
        · right; exact ⟨q1, by omega⟩
    · rw [d3, ← hev]
      rcases hmid2 with q | ⟨q1, q2⟩
      · left; exact q
      · right; exact ⟨q1, (d2.mpr q2.symm).symm⟩
  · exfalso
    have hp2 : D * 2 ^ EE b * 2 ≤ YY D (rrQ N D) := by
      unfold YY
      have : (2 : Int) ^ EE b * 2 ≤ 2 ^ (rrQ N D + 1074).toNat := by
        rw [← Int.pow_succ]; exact p2_mono (by unfold EE; omega)
      have := Int.mul_le_mul_of_nonneg_left this (Int.le_of_lt hD)
      rw [← Int.mul_assoc] at this; exact this
    have hl := hq2 (by omega)
    have hm2 : (2 * mant b + 1) * (D * 2 ^ EE b) ≤ 18014398509481983 * (D * 2 ^ EE b) := Int.mul_le_mul_of_nonneg_right (by omega) (Int.le_of_lt hZ)
    rcases hmid2 with q | q <;> omega
end Mine
end
section
open PySem PySem.W PyProof.Rows PySem.Calls PySem.Spec
namespace Mine
open PySem.Builtin.Int (intBits)
def Dgs (l : List Nat) : Prop := ∀ c ∈ l, dgt c = true
theorem dgt_rng {c : Nat} : dgt c = true ↔ 48 ≤ c ∧ c ≤ 57 := by unfold dgt; rw [decide_eq_true_eq]
theorem runE_split {A B C : List Nat} {a : Nat} (ha : A.length = a) (hB : Dgs B) (hC : dgt (C.getD 0 0) = false) : runE (A ++ (B ++ C)) a = a + B.length := by
  subst ha
  unfold runE
  rw [List.drop_left, List.takeWhile_append_of_pos hB]
  have : C.takeWhile dgt = [] := by
    cases C with
    | nil => rfl
    | cons c r =>
      have h : ¬ dgt c = true := by have h2 : dgt c = false := hC; rw [h2]; decide
      rw [List.takeWhile_cons, if_neg h]
  rw [this, List.append_nil]
theorem getD_split {A B : List Nat} {a : Nat} (ha : A.length = a) : (A ++ B).getD a 0 = B.getD 0 0 := by
  subst ha
  rw [List.getD_eq_getElem?_getD, List.getElem?_append_right (Nat.le_refl _), Nat.sub_self, List.getD_eq_getElem?_getD]
/-- what stands behind the figures -/
structure ExT (T : List Nat) (x : Int) : Prop where
  d : dgt (T.getD 0 0) = false
  n : T.getD 0 0 ≠ 46
  v : ∀ P : List Nat, exV (P ++ T) P.length = x ∧ exE (P ++ T) P.length = ((P ++ T).length : Int)
theorem ext_nil : ExT [] 0 := by
  refine ⟨rfl, by decide, fun P => ?_⟩
  have h : ¬ isE (P ++ []) P.length := by
    unfold isE; rw [Int.toNat_natCast, getD_split rfl]; decide
  unfold exV exE
  rw [if_neg fun q => h q.1, if_neg fun q => h q.1, List.append_nil]
  exact ⟨rfl, rfl⟩
theorem digitChar_rng : ∀ d : Nat, d < 10 → dgt (Nat.digitChar d).toNat = true := by decide
theorem dg_dgs (m : Nat) : Dgs (dg m) := by
  unfold dg
  induction m using Nat.strongRecOn with
  | _ m ih =>
    by_cases h : m < 10
    · rw [Nat.toDigits_of_lt_base h]
      intro c hc
      rw [List.map_singleton, List.mem_singleton] at hc
      rw [hc]; exact digitChar_rng m h
    · have hm : m % 10 < 10 := Nat.mod_lt m (by decide)
      have t : Nat.toDigits 10 (m / 10) ++ Nat.toDigits 10 (m % 10) = Nat.toDigits 10 (10 * (m / 10) + m % 10) := Nat.toDigits_append_toDigits (by decide) (by omega) hm
      rw [Nat.div_add_mod] at t
      rw [← t, List.map_append, Nat.toDigits_of_lt_base hm]
      intro c hc
      rcases List.mem_append.mp hc with q | q
      · exact ih (m / 10) (by omega) c q
      · rw [List.map_singleton, List.mem_singleton] at q
        rw [q]; exact digitChar_rng _ hm
theorem dg_wv (m : Nat) : wv (dg m) = m := by
  rw [← wv_digits (dg m) fun c hc => dgt_rng.mp (dg_dgs m c hc)]
  exact congrArg _ (PySem.W.KIN.val_back m)
theorem dg_pos (m : Nat) : 0 < (dg m).length := by
  unfold dg; rw [List.length_map]; exact Nat.length_toDigits_pos
theorem ext_sgE {e : Int} (h1 : -10000 ≤ e) (h2 : e ≤ 10000) : ExT (sgE e) e := by
  have habs : 0 ≤ absI e ∧ absI e ≤ 10000 := by unfold absI; split <;> omega
  refine ⟨rfl, (show (101 : Nat) ≠ 46 by decide), fun P => ?_⟩
  obtain ⟨sg, hsg, hsg2⟩ : ∃ sg, (if e < 0 then 45 else 43) = sg ∧ (sg = 43 ∨ sg = 45) := ⟨_, rfl, by split <;> simp⟩
  have hl : P ++ sgE e = (P ++ [101, sg]) ++ (dg (absI e).toNat ++ []) := by unfold sgE; rw [hsg]; simp
  have hE : isE (P ++ sgE e) P.length := by unfold isE; rw [Int.toNat_natCast, getD_split rfl]; left; rfl
  have g1 : (P ++ sgE e).getD ((P.length : Int) + 1).toNat 0 = sg := by
    rw [show P ++ sgE e = (P ++ [101]) ++ (sg :: dg (absI e).toNat) by unfold sgE; rw [hsg]; simp, show ((P.length : Int) + 1).toNat = P.length + 1 by omega, getD_split (by simp)]; rfl
  have hB : exB (P ++ sgE e) P.length = P.length + 2 := by
    unfold exB sgN
    rw [g1, if_pos hsg2]; omega
  have hN : exN (P ++ sgE e) P.length = P.length + 2 + (dg (absI e).toNat).length := by
    unfold exN
    rw [hB, hl, runE_split (a := ((P.length : Int) + 2).toNat) (by simp; omega) (dg_dgs _) rfl]; omega
  have hp := dg_pos (absI e).toNat
  have hlen : ((P ++ sgE e).length : Int) = P.length + 2 + (dg (absI e).toNat).length := by rw [hl]; simp; omega
  have hF : exF (P ++ sgE e) P.length = absI e := by
    unfold exF
    rw [hB, hN, hl, show ((P.length : Int) + 2).toNat = (P ++ [101, sg]).length by simp; omega, List.drop_left, List.append_nil, List.take_of_length_le (by omega), dg_wv]; omega
  have hS : sgB (P ++ sgE e) ((P.length : Int) + 1) = decide (e < 0) := by
    unfold sgB; rw [g1, ← hsg]
    by_cases h : e < 0
    · rw [if_pos h, decide_eq_true h]; rfl
    · rw [if_neg h, decide_eq_false h]; rfl
  constructor
  · unfold exV
    have hm : min9 (absI e) = absI e := by unfold min9; rw [if_neg (by omega)]
    rw [if_pos ⟨hE, by omega⟩, hS, hF, hm]
    unfold absI
    by_cases h : e < 0
    · rw [decide_eq_true h, if_pos rfl, if_pos h]; omega
    · rw [decide_eq_false h, if_neg (by decide), if_neg h]
  · unfold exE
    rw [if_pos ⟨hE, by omega⟩, hN, hlen]
structure RdAt (P l F : List Nat) (e : Int) : Prop where
  fig : dFig (P ++ l) P.length = F
  ex : dExp (P ++ l) P.length = e
  fin : dFin (P ++ l) P.length = ((P ++ l).length : Int)
theorem rd_nodot (P : List Nat) {I T : List Nat} {x : Int} (hI : Dgs I) (hT : ExT T x) : RdAt P (I ++ T) I x := by
  have hp : dPt (P ++ (I ++ T)) P.length = P.length + I.length := by
    unfold dPt; rw [runE_split (a := ((P.length : Nat) : Int).toNat) (by simp) hI hT.d]; simp
  have hd : ¬ isDot (P ++ (I ++ T)) P.length := by
    unfold isDot
    rw [hp, ← List.append_assoc, getD_split (by simp; omega)]
    exact hT.n
  have hend : dEnd (P ++ (I ++ T)) P.length = ((P ++ I).length : Int) := by
    unfold dEnd; rw [if_neg hd, hp, List.length_append]; omega
  have hv := hT.v (P ++ I)
  rw [List.append_assoc] at hv
  refine ⟨?_, ?_, ?_⟩
  · unfold dFig
    rw [if_neg hd, hp, Int.toNat_natCast, List.drop_left, List.take_left' (by omega)]
  · unfold dExp dBeh
    rw [if_neg hd, hend, hv.1]; omega
  · unfold dFin
    rw [hend, hv.2]
theorem rd_dot (P : List Nat) {I F T : List Nat} {x : Int} (hI : Dgs I) (hF : Dgs F) (hT : ExT T x) : RdAt P (I ++ 46 :: (F ++ T)) (I ++ F) (x - F.length) := by
  have hp : dPt (P ++ (I ++ 46 :: (F ++ T))) P.length = P.length + I.length := by
    unfold dPt; rw [runE_split (a := ((P.length : Nat) : Int).toNat) (by simp) hI rfl]; simp
  have hd : isDot (P ++ (I ++ 46 :: (F ++ T))) P.length := by
    unfold isDot
    rw [hp, ← List.append_assoc, getD_split (by simp; omega)]; rfl
  have hr : dRun (P ++ (I ++ 46 :: (F ++ T))) P.length = P.length + I.length + 1 + F.length := by
    unfold dRun
    rw [hp, show P ++ (I ++ 46 :: (F ++ T)) = (P ++ I ++ [46]) ++ (F ++ T) by simp, runE_split (a := ((P.length : Int) + I.length + 1).toNat) (by simp; omega) hF hT.d]; omega
  have hend : dEnd (P ++ (I ++ 46 :: (F ++ T))) P.length = ((P ++ I ++ [46] ++ F).length : Int) := by
    unfold dEnd; rw [if_pos hd, hr]; simp; omega
  have hv := hT.v (P ++ I ++ [46] ++ F)
  rw [show P ++ I ++ [46] ++ F ++ T = P ++ (I ++ 46 :: (F ++ T)) by simp] at hv
  refine ⟨?_, ?_, ?_⟩
  · unfold dFig
    rw [if_pos hd, hr, hp]
    congr 1
    · rw [Int.toNat_natCast, List.drop_left, List.take_left' (by omega)]
    · rw [show P ++ (I ++ 46 :: (F ++ T)) = (P ++ I ++ [46]) ++ (F ++ T) by simp, show ((P.length : Int) + I.length + 1).toNat = (P ++ I ++ [46]).length by simp; omega, List.drop_left, List.take_left' (by simp; omega)]
  · unfold dExp dBeh
    rw [if_pos hd, hend, hv.1, hr, hp]; omega
  · unfold dFin
    rw [hend, hv.2]
theorem told_id {s : List Nat} (h : s.getD 0 0 ≠ 48) : told s = s := by
  unfold told
  cases s with
  | nil => rfl
  | cons c r =>
    have h2 : c ≠ 48 := h
    rw [List.dropWhile_cons, if_neg (by simpa using h2)]
theorem told_zeros {s : List Nat} (h : s.getD 0 0 ≠ 48) : ∀ k : Nat, told (List.replicate k 48 ++ s) = s := by
  intro k
  induction k with
  | zero => exact told_id h
  | succ k ih => rw [List.replicate_succ, List.cons_append]; exact ih
theorem wv_zeros (s : List Nat) : ∀ k : Nat, wv (s ++ List.replicate k 48) = wv s * 10 ^ k := by
  intro k
  induction k with
  | zero => simp
  | succ k ih => rw [List.replicate_succ', ← List.append_assoc, wv_snoc, ih, Int.pow_succ]; show _ + 0 = _; rw [Int.mul_assoc]; omega
theorem dgs_zeros (k : Nat) : Dgs (List.replicate k 48) := fun c hc => by rw [(List.mem_replicate.mp hc).2]; rfl
theorem dgs_app {a b : List Nat} (ha : Dgs a) (hb : Dgs b) : Dgs (a ++ b) := fun c hc => (List.mem_append.mp hc).elim (ha c) (hb c)
structure LR (s : List Nat) (p : Int) (l F : List Nat) (e : Int) : Prop where
  rd : ∀ P, RdAt P l F e
  ne : told F ≠ []
  n : fdN (told F) e = teN (wv s) (p - s.length)
  d : fdD e = teD (p - s.length)
  pl : ((told F).length : Int) + e = p
  ln : F.length ≤ 900
  e0 : -1500 ≤ e
  e1 : e ≤ 1500
theorem lr_same {s l F : List Nat} {p e : Int} (hs : 1 ≤ s.length) (rd : ∀ P, RdAt P l F e) (ht : told F = s) (he : e = p - s.length) (h : -1500 ≤ e ∧ e ≤ 1500) (hl : F.length ≤ 900) : LR s p l F e := by
  refine ⟨rd, ?_, ?_, ?_, ?_, hl, h.1, h.2⟩
  · rw [ht]; intro e; rw [e] at hs; exact absurd hs (by decide)
  · rw [ht, he]; rfl
  · rw [he]; rfl
  · rw [ht, he]; omega
theorem laid_rd {s : List Nat} {p : Int} (hd : Dgs s) (h0 : s.getD 0 0 ≠ 48) (hs : 1 ≤ s.length) (hs2 : s.length ≤ 100) (hp1 : -500 ≤ p) (hp2 : p ≤ 500) : ∃ F e, LR s p (laid s p) F e := by
  unfold laid
  split
  · rename_i h
    have ht : told (s ++ List.replicate (p - s.length).toNat 48) = s ++ List.replicate (p - s.length).toNat 48 := told_id (by
      cases s with
      | nil => exact absurd hs (by decide)
      | cons c r => exact h0)
    refine ⟨s ++ List.replicate (p - s.length).toNat 48, 0, ⟨fun P => ?_, ?_, ?_, ?_, ?_, ?_, by decide, by decide⟩⟩
    · have := rd_nodot P (dgs_app hd (dgs_zeros (p - s.length).toNat)) ext_nil
      rwa [List.append_nil] at this
    · rw [ht]; intro e; have := congrArg List.length e; rw [List.length_append] at this; simp at this; rw [this.1] at hs; exact absurd hs (by decide)
    · rw [ht]; unfold fdN teN; rw [if_pos (by decide), if_pos (by omega), wv_zeros]; simp
    · unfold fdD teD; rw [if_pos (by decide), if_pos (by omega)]
    · rw [ht, List.length_append, List.length_replicate]; omega
    · rw [List.length_append, List.length_replicate]; omega
  · rename_i hn1
    split
    · rename_i h
      refine ⟨_, _, lr_same hs (fun P => ?_) (told_id h0) (e := 0 - ((s.drop p.toNat).length : Int)) (by rw [List.length_drop]; omega) (by rw [List.length_drop]; omega) (by omega)⟩
      have := rd_dot P (I := s.take p.toNat) (F := s.drop p.toNat) (fun c hc => hd c (List.mem_of_mem_take hc)) (fun c hc => hd c (List.mem_of_mem_drop hc)) ext_nil
      rwa [List.append_nil, List.take_append_drop] at this
    · rename_i hn2
      split
      · rename_i h
        refine ⟨48 :: (List.replicate (0 - p).toNat 48 ++ s), _, lr_same hs (fun P => ?_) ?_ (e := 0 - ((List.replicate (0 - p).toNat 48 ++ s).length : Int)) (by rw [List.length_append, List.length_replicate]; omega) (by rw [List.length_append, List.length_replicate]; omega) (by rw [List.length_cons, List.length_append, List.length_replicate]; omega)⟩
        · have := rd_dot P (I := [48]) (F := List.replicate (0 - p).toNat 48 ++ s) (dgs_zeros 1) (dgs_app (dgs_zeros _) hd) ext_nil
          rwa [List.append_nil] at this
        · exact told_zeros h0 ((0 - p).toNat + 1)
      · rename_i hn3
        have hT := ext_sgE (e := p - 1) (by omega) (by omega)
        unfold wE
        split
        · rename_i h
          refine ⟨_, _, lr_same hs (fun P => ?_) (told_id h0) (e := p - 1 - ((s.drop 1).length : Int)) (by rw [List.length_drop]; omega) (by rw [List.length_drop]; omega) (by omega)⟩
          have := rd_dot P (I := s.take 1) (F := s.drop 1) (fun c hc => hd c (List.mem_of_mem_take hc)) (fun c hc => hd c (List.mem_of_mem_drop hc)) hT
          rw [List.take_append_drop] at this
          rw [List.append_assoc]; exact this
        · rename_i h
          refine ⟨_, _, lr_same hs (fun P => ?_) (told_id h0) (e := p - 1) (by omega) (by omega) (by omega)⟩
          have := rd_nodot P (I := s) hd hT
          rwa [List.append_nil, List.take_of_length_le (by omega)]
end Mine
end
section
open PySem PySem.W PyProof.Rows PySem.Calls PySem.Spec
namespace Mine
open PySem.Builtin.Int (intBits)
theorem rr_ok {N D b : Int} (hN : 0 < N) (hD : 0 < D) (h : LawB b) (r : reads N D b = true) : RROk N D ∧ rr N D = b := by
  have h0 := h.p; have h1 := h.q
  have hb := b_mp (b := b) (by omega) (by omega)
  have hm := mant_rng b
  have e : rr N D = (rrQ N D + 1074) * 4503599627370496 + rrW N D (rrQ N D) := rfl
  rcases rr_at hN hD h0 h1 r with ⟨q, w⟩ | ⟨q, m, w⟩
  · have hr : rr N D = b := by rw [e, w, q]; omega
    refine ⟨⟨?_, ?_, ?_⟩, hr⟩
    · rw [w]; omega
    · rw [w, q]; intro hlt
      rcases mp b with ⟨a1, a2, a3⟩ | ⟨a1, a2, a3⟩
      · exact a3
      · have := frac_rng b; omega
    · rw [hr]; exact h1
  · have hr : rr N D = b := by rw [e, w, q]; omega
    refine ⟨⟨?_, ?_, ?_⟩, hr⟩
    · rw [w]; omega
    · rw [w]; intro hlt; omega
    · rw [hr]; exact h1
def Oks (l : List Nat) : Prop := ∀ c ∈ l, okc c
theorem okc_dgt {c : Nat} (h : dgt c = true) : okc c := by
  have q : ∀ c < 58, 48 ≤ c → c ∈ [43, 45, 46, 48, 49, 50, 51, 52, 53, 54, 55, 56, 57, 101] := by decide
  rw [dgt_rng] at h
  exact q c (by omega) h.1
theorem oks_dgs {l : List Nat} (h : Dgs l) : Oks l := fun c hc => okc_dgt (h c hc)
theorem oks_app {a b : List Nat} (ha : Oks a) (hb : Oks b) : Oks (a ++ b) := fun c hc => (List.mem_append.mp hc).elim (ha c) (hb c)
theorem oks_cons {a : Nat} {b : List Nat} (ha : okc a) (hb : Oks b) : Oks (a :: b) := fun c hc => (List.mem_cons.mp hc).elim (fun e => e ▸ ha) (hb c)
theorem oks_nil : Oks [] := fun _ hc => nomatch hc
theorem oks_sgE (e : Int) : Oks (sgE e) := by
  unfold sgE
  refine oks_cons (by unfold okc; decide) (oks_cons ?_ (oks_dgs (dg_dgs _)))
  split <;> (unfold okc; decide)
theorem dgs_take {s : List Nat} (h : Dgs s) (k : Nat) : Dgs (s.take k) := fun c hc => h c (List.mem_of_mem_take hc)
theorem dgs_drop {s : List Nat} (h : Dgs s) (k : Nat) : Dgs (s.drop k) := fun c hc => h c (List.mem_of_mem_drop hc)
theorem laid_oks {s : List Nat} (p : Int) (hd : Dgs s) : Oks (laid s p) := by
  have h46 : okc 46 := by unfold okc; decide
  have h48 : okc 48 := by unfold okc; decide
  unfold laid wE
  split
  · exact oks_dgs (dgs_app hd (dgs_zeros _))
  · split
    · exact oks_app (oks_dgs (dgs_take hd _)) (oks_cons h46 (oks_dgs (dgs_drop hd _)))
    · split
      · exact oks_cons h48 (oks_cons h46 (oks_dgs (dgs_app (dgs_zeros _) hd)))
      · refine oks_app (oks_app (oks_dgs (dgs_take hd _)) ?_) (oks_sgE _)
        split
        · exact oks_cons h46 (oks_dgs (dgs_drop hd _))
        · exact oks_nil
theorem laid_hd {s : List Nat} (p : Int) (hd : Dgs s) (hs : 1 ≤ s.length) : dgt ((laid s p).getD 0 0) = true := by
  cases s with
  | nil => exact absurd hs (by decide)
  | cons c r =>
    have hc : dgt c = true := hd c (List.mem_cons_self ..)
    unfold laid wE
    split
    · exact hc
    · split
      · rename_i h
        obtain ⟨k, hk⟩ : ∃ k, p.toNat = k + 1 := ⟨p.toNat - 1, by omega⟩
        rw [hk]; exact hc
      · split
        · rfl
        · exact hc
theorem laid_len2 {s : List Nat} {p : Int} (hs2 : s.length ≤ 100) (hp1 : -500 ≤ p) (hp2 : p ≤ 500) : (laid s p).length ≤ 400 := by
  have := sgE_len (e := p - 1) (by omega) (by omega)
  unfold laid wE; (repeat' split) <;> simp only [List.length_append, List.length_cons, List.length_take, List.length_drop, List.length_replicate, List.length_nil] <;> omega
theorem len_hd {l : List Nat} (h : dgt (l.getD 0 0) = true) : 0 < l.length := by
  cases l with
  | nil => exact absurd h (by decide)
  | cons c r => exact Nat.succ_pos _
theorem getD_mem {l : List Nat} {i : Nat} (h : i < l.length) : l.getD i 0 ∈ l := by
  rw [List.getD_eq_getElem?_getD, List.getElem?_eq_getElem h]; exact List.getElem_mem h
theorem not_0x {l : List Nat} (h : Oks l) (c : Nat) (hc : ¬ okc c) : (l.take 2 == [48, c]) = false := by
  rw [beq_eq_false_iff_ne]; intro e
  refine hc (h c (List.mem_of_mem_take (i := 2) ?_))
  rw [e]; simp
theorem tok_of {P l F : List Nat} {e b : Int} (hP : P = [] ∨ P = [45]) (ho : Oks l) (hh : dgt (l.getD 0 0) = true) (hl : l.length ≤ 400) (rd : RdAt P l F e) (ok : FDOk F e) (hv : rr (fdN (told F) e) (fdD e) = b) (b0 : 0 ≤ b) (b1 : b < 9223372036854775808) :
    TOk (P ++ l) ∧ t2n (P ++ l) = turnI b (decide (P = [45])) := by
  have hr := dgt_rng.mp hh
  have hll := len_hd hh
  have hPl : P.length ≤ 1 := by rcases hP with rfl | rfl <;> decide
  have hPo : Oks P := by
    rcases hP with rfl | rfl
    · exact oks_nil
    · exact oks_cons (by unfold okc; decide) oks_nil
  have hO := oks_app hPo ho
  have hlen : (P ++ l).length = P.length + l.length := List.length_append
  have hs : sgN (P ++ l) 0 = P.length ∧ sgB (P ++ l) 0 = decide (P = [45]) := by
    unfold sgN sgB
    rcases hP with rfl | rfl
    · rw [List.nil_append, show Int.toNat 0 = 0 from rfl, if_neg (by omega), decide_eq_false (by omega)]; exact ⟨rfl, rfl⟩
    · exact ⟨rfl, rfl⟩
  have hdv : dVal (P ++ l) P.length = b := by
    unfold dVal; rw [rd.fig, rd.ex]; exact hv
  refine ⟨⟨by omega, by omega, hO _ (getD_mem (by omega)), hO _ (getD_mem (by omega)), not_0x hO _ (by unfold okc; decide), not_0x hO _ (by unfold okc; decide), ?_, ?_, ?_, ?_⟩, ?_⟩
  · rw [hs.1]
    refine ⟨by omega, by omega, by omega, ?_, ?_, ?_⟩
    · rw [Int.toNat_natCast, getD_split rfl]; omega
    · rw [rd.fig]; intro e; apply ok.ne; rw [e]; rfl
    · rw [rd.fig, rd.ex]; exact ok
  · rw [hs.1]; exact rd.fin
  · rw [hs.1, hdv]; exact b0
  · rw [hs.1, hdv]; exact b1
  · unfold t2n; rw [hs.1, hs.2, hdv]
theorem valD_nonneg : ∀ {ds : List Int}, (∀ d ∈ ds, 0 ≤ d ∧ d ≤ 9) → 0 ≤ valD ds := by
  intro ds
  induction ds with
  | nil => intro _; decide
  | cons d r ih =>
    intro h
    rw [valD_cons]
    have h1 := Int.mul_nonneg (h d (List.mem_cons_self ..)).1 (Int.le_of_lt (p10_pos r.length))
    have h2 := ih fun x hx => h x (List.mem_cons_of_mem _ hx)
    omega
theorem valD_pos {ds : List Int} (h : ∀ d ∈ ds, 0 ≤ d ∧ d ≤ 9) (h0 : ds.getD 0 0 ≠ 0) : 0 < valD ds := by
  cases ds with
  | nil => exact absurd rfl h0
  | cons d r =>
    rw [valD_cons]
    have hd : 1 ≤ d := by have := h d (List.mem_cons_self ..); have h3 : d ≠ 0 := h0; omega
    have h1 := Int.mul_pos hd (p10_pos r.length)
    have h2 := valD_nonneg fun x hx => h x (List.mem_cons_of_mem d hx)
    omega
theorem p10_small {k : Nat} (h : k ≤ 400) : intBits ((10 : Int) ^ k) ≤ 1400 := by
  refine intBits_le_iff.mpr ?_
  have e : ((10 : Int) ^ k).natAbs = 10 ^ k := by rw [Int.natAbs_pow]; rfl
  rw [e]
  exact Nat.lt_of_le_of_lt (Nat.pow_le_pow_right (by decide) h) (by decide +kernel)
theorem good_of {b : Int} (h : LawB b) : ∃ ds, Good b ds := by
  have h0 := h.p; have h1 := h.q
  have fb := finB_of h
  have fb2 := finB_neg h
  obtain ⟨ds, g⟩ := genB_ex fb
  have D := digB fb g
  have l1 := D.l1
  have l18 := lenB fb g
  have hp := plB_400 fb
  have hsl := sgn_len ds
  have hdg := sgn_digits D.dg
  have hDg : Dgs (sgn ds) := fun c hc => dgt_rng.mpr (hdg c hc)
  have hf := firstB fb g
  have hne : sgn ds ≠ [] := fun e => by
    have h3 : ds.length = 0 := by rw [← hsl, e]; rfl
    omega
  have hhd : (sgn ds).getD 0 0 ≠ 48 := by
    have hx := D.dg
    cases ds with
    | nil => exact absurd rfl hne
    | cons d r =>
      have h3 : d ≠ 0 := hf
      have h4 := hx d (List.mem_cons_self ..)
      show d.toNat + 48 ≠ 48
      omega
  have hwz : intBits (wv (sgn ds)) ≤ 110 := Nat.le_trans (wv_bits _) (by omega)
  have hrd := rdB fb h0 h1 g
  have hsh := shB fb h0 h1 g
  have hp0 : -600 ≤ plB b - ((sgn ds).length : Int) := by omega
  have hp1 : plB b - ((sgn ds).length : Int) ≤ 600 := by omega
  have hwp : 0 < wv (sgn ds) := by rw [wv_sgn D.dg]; exact valD_pos D.dg hf
  have hN : 0 < teN (wv (sgn ds)) (plB b - ((sgn ds).length : Int)) := by
    unfold teN; split
    · exact Int.mul_pos hwp (p10_pos _)
    · exact hwp
  have hRR := rr_ok hN (teD_pos _) h hrd
  have hNz : intBits (teN (wv (sgn ds)) (plB b - ((sgn ds).length : Int))) ≤ 2500 := by
    unfold teN; split
    · exact Nat.le_trans (intBits_mul_le hwz (p10_small (by omega))) (by decide)
    · omega
  have hDz : intBits (teD (plB b - ((sgn ds).length : Int))) ≤ 1500 := by
    unfold teD; split
    · decide
    · exact Nat.le_trans (p10_small (by omega)) (by decide)
  obtain ⟨F, e, L⟩ := laid_rd (p := plB b) hDg hhd (by omega) (by omega) (by omega) (by omega)
  have ok : FDOk F e := by
    have hpl := L.pl
    refine ⟨L.ln, L.ne, by omega, by omega, L.e0, L.e1, ?_, ?_, ?_, ?_⟩
    · rw [L.n]; exact hN
    · rw [L.n]; exact hNz
    · rw [L.d]; exact hDz
    · rw [L.n, L.d]; exact hRR.1
  have hv : rr (fdN (told F) e) (fdD e) = b := by rw [L.n, L.d]; exact hRR.2
  have hll := laid_len2 (s := sgn ds) (p := plB b) (by omega) (by omega) (by omega)
  have hsw : shw b ds = laid (sgn ds) (plB b) := by unfold shw; rw [if_neg (by omega)]
  have T1 := tok_of (.inl rfl) (laid_oks _ hDg) (laid_hd _ hDg (by omega)) hll (L.rd []) ok hv (by omega) (by omega)
  have T2 := tok_of (.inr rfl) (laid_oks _ hDg) (laid_hd _ hDg (by omega)) hll (L.rd [45]) ok hv (by omega) (by omega)
  exact ⟨ds, { fb := fb, fb2 := fb2, g := g, g2 := (neg_same (by omega) (by omega)).2 ds g, l1 := by omega, l2 := by omega, e1 := l1, e2 := by omega, dg := hdg, ne := hne, hd := hhd, wz := by omega, p0 := hp0, p1 := hp1, nb := by omega, db := by omega, rd := hrd, sh := hsh, t := by rw [hsw]; exact T1.1, tv := by rw [hsw]; exact T1.2, s2 := shw_neg h ds, sl := by rw [hsw]; omega, t2 := by rw [hsw]; exact T2.1, tv2 := by rw [hsw]; exact T2.2 }⟩
end Mine
end
section
open PySem PySem.W PyProof.Rows PySem.Calls PySem.Spec
namespace Mine
open PySem.Builtin.Int (intBits)

theorem ca_nil {ys : List Value} {l : List PyData} (h : CarriedAll ys l) (e : l = []) : ys = [] := by
  subst e; cases h; rfl
theorem sg_filter {l : List Nat} (h : PySem.NumText.AllDigits l) : (List.filter (fun a => !!(PySem.Builtin.Str.occurrences (sOf [48, 49, 50, 51, 52, 53, 54, 55, 56, 57]) a 0 (sOf [48, 49, 50, 51, 52, 53, 54, 55, 56, 57]).length 1).isEmpty) (signs (sOf l))) = [] := by
  rw [List.filter_eq_nil_iff]
  intro a ha
  unfold signs at ha
  rw [sOf_list] at ha
  obtain ⟨c, hc, rfl⟩ := List.mem_map.mp ha
  have hd : 48 ≤ c ∧ c ≤ 57 := h c hc
  rw [StrLaws.found_one, sOf_list, decide_eq_true]
  · decide
  · have q : ∀ c < 58, 48 ≤ c → c ∈ [48, 49, 50, 51, 52, 53, 54, 55, 56, 57] := by decide
    exact q c (by omega) hd.1
theorem ne_nilL {prog : Program} {w : World} {A : Around} {E : Value → Shared → Prop} {s : Shared} {h₀ : Heap} {L a b : Addr} {ys : List Value} {k k2 : Nat} {news : List (Addr × Obj)} {l : List PyData} {Q : Value → Shared → Prop} (N : News h₀ L s.heap news) (m1 : (a, W.listOf ys.toArray k) ∈ news) (m2 : (b, W.listOf #[] k2) ∈ news)
    (c : CarriedAll ys l) (e : l = []) (hu : A.units + 64 < cLine) (h : Q (.bool false) s) : wpAny (model prog w) A (compareOp .NotEq (.ref a) (.ref b)) Q E s := by
  cases ca_nil c e
  exact ne_intsK (vs := []) (us := []) (News.isList N m1) .nil (News.isList N m2) .nil hu h
theorem end_1 {b : Int} {l : List Nat} (h : t2n l = b) (q : (Str.ofString (toString (t2n l)) != Str.ofString (toString b)) = true) : False := by
  rw [h] at q; simp at q
theorem e63 : (2 : Int) ^ Int.toNat 63 = 9223372036854775808 := by decide
theorem end_2 {b : Int} {ds : List Int} (h : shw (b + 9223372036854775808) ds = 45 :: shw b ds) (q : (shw (b + 2 ^ Int.toNat 63) ds != [45] ++ shw b ds) = true) : False := by
  rw [e63, h] at q; simp at q
theorem end_3 {b : Int} {l : List Nat} (h : t2n l = b + 9223372036854775808) (q : t2n l ≠ b + 2 ^ Int.toNat 63) : False := q (by rw [e63]; exact h)
theorem cs_size {l : List Nat} (h : l.length ≤ 30) : (sOf l).length ≤ sizeLine := by rw [sOf_len, sizeLine_eq]; omega
theorem l_ne2 {l : List Nat} (h : l ≠ []) : (l == []) = false := by rw [beq_eq_false_iff_ne]; exact h
theorem hd_ne {l : List Nat} (h : l.getD 0 0 ≠ 48) : ([l.getD (Int.toNat 0) 0] == [48]) = false := by
  rw [beq_eq_false_iff_ne]; intro e; exact h (List.cons.inj e).1
noncomputable abbrev lawSc0 {n : Str} {a : Arguments} {b : List Stmt} {dl : List PySem.Expr} {r : Option PySem.Expr} {tp : List TypeParam} {sc : Scope} {ts : Option Scope} {bd : Str} {ps : Pos} {x : Option Stmt}
    (_ : x = some (Stmt.FunctionDef n a b dl r tp sc ts bd ps)) : Scope := sc
noncomputable abbrev lawBo0 {n : Str} {a : Arguments} {b b2 o : List Stmt} {tg it : PySem.Expr} {q : Pos} {dl : List PySem.Expr} {r : Option PySem.Expr} {tp : List TypeParam} {sc : Scope} {ts : Option Scope} {bd : Str} {ps : Pos} {x : Option Stmt}
    (_ : x = some (Stmt.FunctionDef n a (Stmt.For tg it b o q :: b2) dl r tp sc ts bd ps)) : List Stmt := b
noncomputable abbrev lawSc : Scope := lawSc0 (x := pw.main.body[63]?) rfl
noncomputable abbrev lawBo : List Stmt := lawBo0 (x := pw.main.body[63]?) rfl
theorem turn_law {b : Int} {ds : List Int} (G9 : Good b ds) (hb0 : 0 < b) (hb1 : b < 9218868437227405312) {w : World} {p : Program} {loose : List Str} {mean : ExcName → Option Value} {mg mb : Str → Option Value}
    {dp un : Nat} {gd : Option (List Code)} {a : Addr} {ccd : Value} {outer : List Env} {A₀ : Around} {base h₀ : Heap} {L : Addr} {mm : Str → Option Value} {news : List (Addr × Obj)} {s : Shared} {Q : Flow → Shared → Prop} {E : Value → Shared → Prop} {t : Tok}
    (B : Below A₀ base outer h₀) (F : Fr h₀ L s.heap (fun y => if y = Str.ofString "bits" then some (.int b t) else mm y)) (X : (KK w.params).In h₀) (N : News h₀ L s.heap news) (T : Top p loose mean mg mb h₀)
    (hd : dp + 20 < recursionLimit) (hu : un + 160 < cLine)
    (hret : ∀ (h' : Heap) (tk' : Nat) (m' : Str → Option Value), Fr h₀ L h' m' → (∀ z, z ≠ Str.ofString "bits" → z ≠ Str.ofString "figures" → z ≠ Str.ofString "place" → m' z = mm z) → News h₀ L h' news → Q .next { s with heap := h', toks := tk' }) :
    wpAny (model PySem.Challenge.rw_nt0408_01.row.prog w) (ktrTop dp un gd (Str.ofString "law") lawSc L a ccd [] outer) (execs lawBo (envOf (Str.ofString "law") lawSc L a ccd)) Q E s := by
  revert X
  k_fill
  intro X
  dsimp only [lawSc, lawSc0, lawBo, lawBo0]
  obtain ⟨hfb, hfb2, hg, hg2, hl1, hl2, he1, he2, hdg, hne, hhd, hwz, hp0, hp1, hnb, hdb, hrd, hsh, ht, htv, hs2, hsl, ht2, htv2⟩ := G9
  have hCS := cs_size hl2
  have hne2 := l_ne2 hne
  have hhd2 := hd_ne hhd
  k_dflt k_steps
  all_goals first
    | (exfalso; exact end_1 htv (by assumption))
    | (exfalso; exact end_2 hs2 (by assumption))
    | (exfalso; exact end_3 htv2 (by assumption))
    | skip
  rename Fr _ _ _ _ => fE9
  rename News _ _ _ _ => nE9
  refine hret _ _ _ fE9 (fun z z1 z2 z3 => ?_) (fun p9 hp9 => nE9 p9 ?_)
  · show (if z = _ then _ else if z = _ then _ else if z = _ then _ else mm z) = mm z
    rw [if_neg z3, if_neg z2, if_neg z1]
  · repeat (first | exact hp9 | refine List.Mem.tail _ ?_)
end Mine
end
section
open PySem PySem.W PyProof.Rows PySem.Calls PySem.Spec
namespace Mine
open PySem.Builtin.Int (intBits)

theorem fm_sz {x m : Int} (h : 0 < m) (h2 : m ≤ 2000) : intBits (x % m) ≤ 1000 ∧ intBits (1000 + x % m) ≤ 1000 := by
  have a := Int.emod_nonneg x (show m ≠ 0 by omega)
  have b := Int.emod_lt_of_pos x h
  exact ⟨bits_le_of a (y := 3000) (by omega) (by decide), bits_le_of (by omega) (y := 3000) (by omega) (by decide)⟩

theorem st2 {z a b : Str} (h : [a, b].contains z = false) : z ≠ a ∧ z ≠ b := by
  simp only [List.contains_cons, List.contains_nil, Bool.or_false, Bool.or_eq_false_iff, beq_eq_false_iff_ne] at h
  exact h
noncomputable abbrev lawAl0 {n : Str} {a : Arguments} {b : List Stmt} {dl : List PySem.Expr} {r : Option PySem.Expr} {tp : List TypeParam} {sc : Scope} {ts : Option Scope} {bd : Str} {ps : Pos} {x : Option Stmt}
    (_ : x = some (Stmt.FunctionDef n a b dl r tp sc ts bd ps)) : List Stmt := b
noncomputable abbrev lawAl : List Stmt := lawAl0 (x := pw.main.body[63]?) rfl
theorem law_all {w : World} {p : Program} {loose : List Str} {mean : ExcName → Option Value} {mg mb : Str → Option Value}
    {dp un : Nat} {gd : Option (List Code)} {a : Addr} {ccd : Value} {outer : List Env} {A₀ : Around} {h₀ : Heap} {L S : Addr} {s : Shared} {Q : Flow → Shared → Prop} {E : Value → Shared → Prop} {vs : List Value} {ns : List Int}
    (B : Below A₀ h₀ outer h₀) (F : Fr h₀ L s.heap (fun y => List.lookup y [(Str.ofString "script", Value.ref S)].reverse)) (X : (KK w.params).In h₀) (N : News h₀ L s.heap []) (T : Top p loose mean mg mb h₀)
    (hL : h₀.IsList S vs.toArray) (hI : IntsAre vs ns) (hn : ns.length ≤ 63)
    (hd : dp + 40 < recursionLimit) (hu : un + 400 < cLine)
    (hE : PassesOwn (model PySem.Challenge.rw_nt0408_01.row.prog w) (ktrTop dp un gd (Str.ofString "law") lawSc L a ccd [] outer) (envOf (Str.ofString "law") lawSc L a ccd) E)
    (hret : ∀ (h' : Heap) (tk' : Nat) (m' : Str → Option Value), Fr h₀ L h' m' → News h₀ L h' [] → Q (.ret (.bool true)) { s with heap := h', toks := tk' }) :
    wpAny (model PySem.Challenge.rw_nt0408_01.row.prog w) (ktrTop dp un gd (Str.ofString "law") lawSc L a ccd [] outer) (execs lawAl (envOf (Str.ofString "law") lawSc L a ccd)) Q E s := by
  revert X hE
  k_fill
  intro X hE
  dsimp only [lawSc, lawSc0, lawAl, lawAl0] at hE ⊢
  have hkF : ScopeKind.function = ScopeKind.function := rfl
  (k_with "M call ref" => (k_here; (with_reducible show wpAny _ _ (call (Value.ref 294) _) _ _ _); refine wpAny_call ?_; k_dflt cell_enter))
  (k_with "exec For Name Call cons nil" => (k_here; (rename Fr _ _ _ _ => lF'); with_unfolding_all refine For_invVF lF' (by exact rfl) (by exact rfl) ?_ (hE := hE)))
  (k_with "pyIter ref" => (k_of "number" => k_state (fun pre found => found.length = pre.length + 1 ∧ DInv pre found) "found"))
  (k_with "pyIter ref" => (k_of "bits" => (refine hold_of ?_)))
  (k_with "state" => first | exact dinv_w (dinv_0 _) | (refine dinv_w (dinv_st (by assumption) ?_); with_reducible (first | exact tt_at _ | exact law_b _ | exact law_c _ _)))
  k_dflt k_steps
  unfold Hold
  rename (IntsAre _ _) => kFx
  rename (DInv _ _) => kDx
  rename Fr _ _ _ _ => lF'
  rename News _ _ _ _ => lN'
  refine kst_listL (σ := Unit) (fun _ => _) (fun _ => []) (fun _ => True) ["figures", "place"] (fun _ _ => True) () (by rfl) (fun _ => by k_mem) kFx lF' lN' True.intro (fun _ h => nomatch h) True.intro ?_ ?_
  · intro c pre post n t u h tk own hns hn hoff _ _ F1 N1
    have hLB := kDx.a n hn
    obtain ⟨ds, G9⟩ := good_of hLB
    k_dflt (refine' turn_law (outer := outer) G9 hLB.p hLB.q ?kB F1 ?kX N1 ?kT ?kd ?ku ?kR)
    case kB => assumption
    case kX => k_asm
    case kT => k_asm
    case kd => ktr_room
    case ku => ktr_units
    case kR =>
      intro h2 tk2 m2 F2 hm2 N2
      refine ⟨h2, tk2, m2, _, _, rfl, F2, N2, fun p9 hp9 => List.mem_append_left _ hp9, fun p9 hp9 => List.mem_append_right _ hp9, rfl, c, rfl, True.intro, (fun _ h9 => nomatch h9), ?_, True.intro⟩
      intro z z1 _ z3
      rw [hm2 z z1 (st2 z3).1 (st2 z3).2]
      show (if _ then _ else _) = _
      rw [if_neg (by rw [z3]; decide)]
  · intro c u h tk _ _ F1 N1
    (try k_fold)
    k_dflt k_steps
    exact hret _ _ _ F1 (fun _ h9 => nomatch h9)
end Mine
end
section
open PySem PySem.W PyProof.Rows PySem.Calls PySem.Spec
namespace Mine
theorem fin0 : PySem.Challenge.rw_nt0408_01.Holds := by
  w_on
  o_law
  refine holds_open (q := qq) (loose := lo) (Xt := fun s => xlAt qq lv s && recOk (RowW.records PySem.Challenge.rw_nt0408_01.row.toRowW) s) (XP := XL qq lv) (Yf := Hook.obs (kHook KK ads (fun _ => by kernel_rfl))) (Ya := Hook.val (kHook KK ads (fun _ => by kernel_rfl))) (YP := Hook.says (kHook KK ads (fun _ => by kernel_rfl))) (N := 3330) head_left (Hook.of (kHook KK ads (fun _ => by kernel_rfl))) (Hook.keeps (kHook KK ads (fun _ => by kernel_rfl))) (fun s e => xl_of s (Bool.and_eq_true_iff.mp e).1) XL.keeps (by rfl) (by rfl) (by rfl) (fun s e => recFacts_of (Bool.and_eq_true_iff.mp e).2) (by rfl) (by first | assumption | decide +kernel) (by decide +kernel) ⟨rfl, rfl, rfl, rfl, rfl, by decide +kernel⟩ ?hw ?hc
  · exact ⟨[.list [.int 3, .int 1]], by decide +kernel, by decide +kernel⟩
  w_strict (
    intro w s₀ s₁ mg mb G Y fa o pm cd doc dV kV ho hd hcd hD hmg hg args vals as hpre hlay hrd hwl hlo
    have KX := kIn_of Y
    refine Ground.open G ?_
    intro T B D TE TW
    obtain ⟨_, _, M⟩ := bmod_of_top T
    have TA := at_of_top T
    clear hmg
    wrow_args hpre hlay hrd hwl hlo
    first | refine callC_kw (enter_call ?_) | refine enter_call ?_ | refine callC_kw (enter_callW ?_) | refine enter_callW ?_
    w_top on
    try refine codeAny_mono ?_ (fun _ _ g => GoodW.toG g)
    have K0 := below_caller (Top.heap T)
    w_call any ho hd hcd hD T F)
  k_dflt (refine' law_all (outer := []) K0 F KX ?kN T ?kL ?kI ?kn ?kd ?ku ?kE ?kR)
  case kN => assumption
  case kL => assumption
  case kI => assumption
  case kn => omega
  case kd => ktr_room
  case ku => ktr_units
  case kE => first | passes_own | with_unfolding_all passes_own
  case kR =>
    intro h2 tk2 m2 F2 N2
    k_steps
end Mine
end
theorem PySem.Challenge.cw_nt0408_01_holds : PySem.Challenge.rw_nt0408_01.Holds := by
  exact Mine.fin0
