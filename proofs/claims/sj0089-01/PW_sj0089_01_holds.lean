import PyProof.Rows.All
import Wide.All
import OpenK.AllK
import KE.KSuper
import KE.KTryDeep
import PyProof.ExcArgsOwn
import PyProof.RulesAs
import PyProof.RulesDel
import PyProof.CompFree
import PyProof.Rows.CompDC
import PyProof.Cells
import PyProof.NeKinds
import PyProof.EqAt
import PyProof.SeqRoads2
import Wide.FinOn
import Lean
import PySem.Challenge.RW_sj0089_01
set_option Elab.async false
section
open PySem PySem.W PySem.Calls PyProof.Rows
set_option Elab.async false
set_option maxRecDepth 100000
set_option maxHeartbeats 8000000
namespace Mine
noncomputable abbrev pw := PySem.Challenge.pw_sj0089_01
noncomputable def defB (i : Nat) : List Stmt := match pw.main.body[i]? with | some (.FunctionDef _ _ b _ _ _ _ _ _ _) => b | _ => []
noncomputable def defS (i : Nat) : Scope := match pw.main.body[i]? with | some (.FunctionDef _ _ _ _ _ _ s _ _ _) => s | _ => default
noncomputable def defP (i : Nat) : Arguments := match pw.main.body[i]? with | some (.FunctionDef _ a _ _ _ _ _ _ _ _) => a | _ => default
noncomputable def clsB : List Stmt := match pw.main.body[3]? with | some (Stmt.ClassDef _ _ _ b _ _ _ _ _ _ _) => b | _ => []
noncomputable def iniB : List Stmt := match clsB[0]? with | some (Stmt.FunctionDef _ _ b _ _ _ _ _ _ _) => b | _ => []
noncomputable def iniS : Scope := match clsB[0]? with | some (Stmt.FunctionDef _ _ _ _ _ _ s _ _ _) => s | _ => default
noncomputable def iniP : Arguments := match clsB[0]? with | some (Stmt.FunctionDef _ a _ _ _ _ _ _ _ _) => a | _ => default
noncomputable def iniD : FuncData := { name := Str.ofString "__init__", qualname := Str.ofString "BadText.__init__", params := iniP, body := .stmts iniB, scope := iniS, globals := mainGlobals, closure := [(Str.ofString "__class__", 43)], defaults := .none, kwdefaults := .none, doc := .none, pyModule := .str (Str.ofString "gmp.limbs") 187, annotations := none, code := .ref 54, closureTuple := .ref 48, builtins := builtinsNs }
noncomputable def kF (i : Nat) (pm : Str) (t c : Nat) : Obj := match pw.main.body[i]? with
  | some (.FunctionDef nm a b _ _ _ s _ _ _) => { cls := .type "function", data := .func { name := nm, qualname := nm, params := a, body := .stmts b, scope := s, globals := 3, closure := [], defaults := .none, kwdefaults := .none, pyModule := .str pm t, code := .ref c } }
  | _ => default
noncomputable def kC (n q : Str) (t l k a b : Nat) (c d : Value) (e f g u : Nat) : Obj := { cls := .type "code", data := .fields #[.str n t, .str q (t + 1), .str (Str.ofString "/claim/cut.py") (t + 2), .int l 0, .int k 0, .int 0 0, .int 0 0, .int 3 0, .ref a, .bool true, .int 181 0, .ref b, .none, c, d, .ref e, .int f 0, .int g 0, .str (Str.ofString "/claim/cut.py") u] }
noncomputable def kE (P : Params) (x : Str) (t : Nat) (v : Value) : DictEntry := { hash := PyData.keyHash P x, key := .str x t, val := v }
noncomputable def gL : Str := Str.ofString "gmp.limbs"
noncomputable def kFs : Frag := [(79, kF 5 gL 187 78),
  (86, kF 6 gL 187 85),
  (93, kF 7 gL 187 92),
  (100, kF 8 gL 187 99),
  (107, kF 9 gL 187 106),
  (114, kF 10 gL 187 113),
  (121, kF 11 gL 187 120),
  (128, kF 12 gL 187 127),
  (135, kF 13 gL 187 134),
  (142, kF 22 (Str.ofString "gmp.radix") 371 141),
  (149, kF 23 (Str.ofString "gmp.radix") 371 148),
  (156, kF 24 (Str.ofString "gmp.radix") 371 155),
  (163, kF 25 (Str.ofString "gmp.radix") 371 162),
  (170, kF 26 (Str.ofString "gmp.radix") 371 169),
  (177, kF 27 (Str.ofString "gmp.radix") 371 176),
  (184, kF 28 (Str.ofString "gmp.radix") 371 183),
  (191, kF 29 (Str.ofString "gmp.radix") 371 190),
  (198, kF 30 (Str.ofString "gmp.radix") 371 197),
  (205, kF 31 (Str.ofString "gmp.radix") 371 204),
  (212, kF 32 (Str.ofString "gmp.radix") 371 211),
  (219, kF 33 (Str.ofString "gmp.radix") 371 218),
  (226, kF 34 (Str.ofString "gmp.radix") 371 225),
  (231, kF 35 (Str.ofString "gmp.radix") 371 230),
  (238, kF 36 (Str.ofString "gmp.radix") 371 237),
  (245, kF 37 (Str.ofString "gmp.radix") 371 244),
  (252, kF 38 (Str.ofString "gmp.radix") 371 251),
  (259, kF 39 (Str.ofString "gmp.radix") 371 258),
  (266, kF 40 (Str.ofString "gmp.radix") 371 265),
  (273, kF 42 (Str.ofString "gmp.school") 593 272),
  (280, kF 43 (Str.ofString "gmp.school") 593 279),
  (287, kF 44 (Str.ofString "gmp.school") 593 286),
  (294, kF 45 (Str.ofString "gmp.school") 593 293),
  (301, kF 46 (Str.ofString "gmp.school") 593 300),
  (308, kF 47 (Str.ofString "gmp.school") 593 307),
  (315, kF 48 (Str.ofString "gmp.school") 593 314),
  (322, kF 51 (Str.ofString "law_sj0089_01") 692 321),
  (329, kF 52 (Str.ofString "law_sj0089_01") 692 328),
  (336, kF 53 (Str.ofString "law_sj0089_01") 692 335),
  (343, kF 54 (Str.ofString "law_sj0089_01") 692 342),
  (350, kF 55 (Str.ofString "law_sj0089_01") 692 349),
  (357, kF 56 (Str.ofString "law_sj0089_01") 692 356),
  (364, kF 57 (Str.ofString "law_sj0089_01") 692 363),
  (369, kF 58 (Str.ofString "law_sj0089_01") 692 368)]
noncomputable def kCs : Frag := [(54, kC (Str.ofString "__init__") (Str.ofString "BadText.__init__") 237 8 2 49 50 (.ref 51) (.ref 52) 53 243 8 244),
  (78, kC (Str.ofString "normal") (Str.ofString "normal") 268 13 1 73 74 (.ref 75) (.ref 76) 77 273 13 274),
  (85, kC (Str.ofString "nat_of") (Str.ofString "nat_of") 276 18 2 80 81 (.ref 82) (.ref 83) 84 283 18 284),
  (92, kC (Str.ofString "compare") (Str.ofString "compare") 286 26 2 87 88 (.ref 89) (.ref 90) 91 292 26 293),
  (99, kC (Str.ofString "add") (Str.ofString "add") 295 33 3 94 95 (.ref 96) (.ref 97) 98 305 33 306),
  (106, kC (Str.ofString "mul_limb") (Str.ofString "mul_limb") 308 48 3 101 102 (.ref 103) (.ref 104) 105 318 48 319),
  (113, kC (Str.ofString "divrem_limb") (Str.ofString "divrem_limb") 321 59 3 108 109 (.ref 110) (.ref 111) 112 330 59 331),
  (120, kC (Str.ofString "shift_left") (Str.ofString "shift_left") 333 68 3 115 116 (.ref 117) (.ref 118) 119 345 68 346),
  (127, kC (Str.ofString "shift_right") (Str.ofString "shift_right") 348 80 3 122 123 (.ref 124) (.ref 125) 126 360 80 361),
  (134, kC (Str.ofString "bits") (Str.ofString "bits") 363 87 2 129 130 (.ref 131) (.ref 132) 133 368 87 369),
  (141, kC (Str.ofString "plain_of") (Str.ofString "plain_of") 387 97 2 136 137 (.ref 138) (.ref 139) 140 394 97 395),
  (148, kC (Str.ofString "check_base") (Str.ofString "check_base") 397 102 1 143 144 (.ref 145) (.ref 146) 147 401 102 402),
  (155, kC (Str.ofString "digit_off") (Str.ofString "digit_off") 404 105 4 150 151 (.ref 152) (.ref 153) 154 413 105 414),
  (162, kC (Str.ofString "digits_plain") (Str.ofString "digits_plain") 416 110 4 157 158 (.ref 159) (.ref 160) 161 425 110 426),
  (169, kC (Str.ofString "base_powers") (Str.ofString "base_powers") 428 117 4 164 165 (.ref 166) (.ref 167) 168 437 117 438),
  (176, kC (Str.ofString "with_noughts") (Str.ofString "with_noughts") 440 123 2 171 172 (.ref 173) (.ref 174) 175 445 123 446),
  (183, kC (Str.ofString "digits_by_powers") (Str.ofString "digits_by_powers") 448 125 6 178 179 (.ref 180) (.ref 181) 182 463 125 464),
  (190, kC (Str.ofString "to_digits") (Str.ofString "to_digits") 466 134 6 185 186 (.ref 187) (.ref 188) 189 476 134 477),
  (197, kC (Str.ofString "times_base") (Str.ofString "times_base") 479 138 4 192 193 (.ref 194) (.ref 195) 196 486 138 487),
  (204, kC (Str.ofString "number_plain") (Str.ofString "number_plain") 489 140 4 199 200 (.ref 201) (.ref 202) 203 498 140 499),
  (211, kC (Str.ofString "number_by_powers") (Str.ofString "number_by_powers") 501 145 6 206 207 (.ref 208) (.ref 209) 210 514 145 515),
  (218, kC (Str.ofString "from_digits") (Str.ofString "from_digits") 517 155 5 213 214 (.ref 215) (.ref 216) 217 527 155 528),
  (225, kC (Str.ofString "letters_of") (Str.ofString "letters_of") 530 166 1 220 221 (.ref 222) (.ref 223) 224 534 166 535),
  (230, kC (Str.ofString "to_text") (Str.ofString "to_text") 537 174 6 227 228 .none .none 229 540 174 541),
  (237, kC (Str.ofString "digit_worth") (Str.ofString "digit_worth") 543 179 2 232 233 (.ref 234) (.ref 235) 236 548 179 549),
  (244, kC (Str.ofString "blanks_end") (Str.ofString "blanks_end") 551 187 2 239 240 (.ref 241) (.ref 242) 243 556 187 557),
  (251, kC (Str.ofString "prefix_at") (Str.ofString "prefix_at") 559 191 2 246 247 (.ref 248) (.ref 249) 250 564 191 565),
  (258, kC (Str.ofString "text_digits") (Str.ofString "text_digits") 567 199 3 253 254 (.ref 255) (.ref 256) 257 576 199 577),
  (265, kC (Str.ofString "from_text") (Str.ofString "from_text") 579 209 5 260 261 (.ref 262) (.ref 263) 264 590 209 591),
  (272, kC (Str.ofString "mul_school") (Str.ofString "mul_school") 595 223 3 267 268 (.ref 269) (.ref 270) 271 608 223 609),
  (279, kC (Str.ofString "divrem_small") (Str.ofString "divrem_small") 611 233 3 274 275 (.ref 276) (.ref 277) 278 619 233 620),
  (286, kC (Str.ofString "guessed_limb") (Str.ofString "guessed_limb") 622 236 4 281 282 (.ref 283) (.ref 284) 285 633 236 634),
  (293, kC (Str.ofString "take_away") (Str.ofString "take_away") 636 244 5 288 289 (.ref 290) (.ref 291) 292 649 244 650),
  (300, kC (Str.ofString "put_back") (Str.ofString "put_back") 652 253 4 295 296 (.ref 297) (.ref 298) 299 663 253 664),
  (307, kC (Str.ofString "divide_rows") (Str.ofString "divide_rows") 666 260 3 302 303 (.ref 304) (.ref 305) 306 676 260 677),
  (314, kC (Str.ofString "divrem_school") (Str.ofString "divrem_school") 679 270 3 309 310 (.ref 311) (.ref 312) 313 689 270 690),
  (321, kC (Str.ofString "_law_typed") (Str.ofString "_law_typed") 696 285 2 316 317 (.ref 318) (.ref 319) 320 701 285 702),
  (328, kC (Str.ofString "_law_signed") (Str.ofString "_law_signed") 704 290 2 323 324 (.ref 325) (.ref 326) 327 711 290 712),
  (335, kC (Str.ofString "_law_worth") (Str.ofString "_law_worth") 714 296 2 330 331 (.ref 332) (.ref 333) 334 721 296 722),
  (342, kC (Str.ofString "_law_pressed") (Str.ofString "_law_pressed") 724 305 3 337 338 (.ref 339) (.ref 340) 341 736 305 737),
  (349, kC (Str.ofString "_law_shown") (Str.ofString "_law_shown") 739 315 1 344 345 (.ref 346) (.ref 347) 348 748 315 749),
  (356, kC (Str.ofString "_law_read") (Str.ofString "_law_read") 751 320 4 351 352 (.ref 353) (.ref 354) 355 759 320 760),
  (363, kC (Str.ofString "_law_figures") (Str.ofString "_law_figures") 762 325 2 358 359 (.ref 360) (.ref 361) 362 770 325 771),
  (368, kC (Str.ofString "law") (Str.ofString "law") 773 330 1 365 366 .none .none 367 776 330 777)]
noncomputable def kDs (P : Params) : Frag := [(3, { cls := .type "dict", data := .dict #[kE P (Str.ofString "__name__") 165 (.str (Str.ofString "law_sj0089_01") 692), kE P (Str.ofString "__doc__") 166 (.none), kE P (Str.ofString "__package__") 167 (.none), kE P (Str.ofString "__loader__") 168 (.builtin "__main__.__loader__#opaque"), kE P (Str.ofString "__spec__") 169 (.none), kE P (Str.ofString "__annotations__") 170 (.ref 6), kE P (Str.ofString "__builtins__") 171 (.ref 4), kE P (Str.ofString "__file__") 173 (.str (Str.ofString "/claim/cut.py") 172), kE P (Str.ofString "__cached__") 174 (.none), kE P (Str.ofString "GmpError") 208 (.ref 24), kE P (Str.ofString "DivisionByZero") 224 (.ref 37), kE P (Str.ofString "BadText") 251 (.ref 58), kE P (Str.ofString "OutOfRange") 267 (.ref 70), kE P (Str.ofString "normal") 275 (.ref 79), kE P (Str.ofString "nat_of") 285 (.ref 86), kE P (Str.ofString "compare") 294 (.ref 93), kE P (Str.ofString "add") 307 (.ref 100), kE P (Str.ofString "mul_limb") 320 (.ref 107), kE P (Str.ofString "divrem_limb") 332 (.ref 114), kE P (Str.ofString "shift_left") 347 (.ref 121), kE P (Str.ofString "shift_right") 362 (.ref 128), kE P (Str.ofString "bits") 370 (.ref 135), kE P (Str.ofString "SMALL_LETTERS") 374 (.bytes #[48, 49, 50, 51, 52, 53, 54, 55, 56, 57, 97, 98, 99, 100, 101, 102, 103, 104, 105, 106, 107, 108, 109, 110, 111, 112, 113, 114, 115, 116, 117, 118, 119, 120, 121, 122] 373), kE P (Str.ofString "GREAT_LETTERS") 376 (.bytes #[48, 49, 50, 51, 52, 53, 54, 55, 56, 57, 65, 66, 67, 68, 69, 70, 71, 72, 73, 74, 75, 76, 77, 78, 79, 80, 81, 82, 83, 84, 85, 86, 87, 88, 89, 90] 375), kE P (Str.ofString "BOTH_LETTERS") 378 (.bytes #[48, 49, 50, 51, 52, 53, 54, 55, 56, 57, 65, 66, 67, 68, 69, 70, 71, 72, 73, 74, 75, 76, 77, 78, 79, 80, 81, 82, 83, 84, 85, 86, 87, 88, 89, 90, 97, 98, 99, 100, 101, 102, 103, 104, 105, 106, 107, 108, 109, 110, 111, 112, 113, 114, 115, 116, 117, 118, 119, 120, 121, 122] 377), kE P (Str.ofString "TEXT_BLANKS") 380 (.bytes #[32, 9, 10, 11, 12, 13] 379), kE P (Str.ofString "MOST_BASE") 382 (.int 62 381), kE P (Str.ofString "MOST_PLAIN_BASE") 384 (.int 36 383), kE P (Str.ofString "MINUS_SIGN") 386 (.int 45 385), kE P (Str.ofString "plain_of") 396 (.ref 142), kE P (Str.ofString "check_base") 403 (.ref 149), kE P (Str.ofString "digit_off") 415 (.ref 156), kE P (Str.ofString "digits_plain") 427 (.ref 163), kE P (Str.ofString "base_powers") 439 (.ref 170), kE P (Str.ofString "with_noughts") 447 (.ref 177), kE P (Str.ofString "digits_by_powers") 465 (.ref 184), kE P (Str.ofString "to_digits") 478 (.ref 191), kE P (Str.ofString "times_base") 488 (.ref 198), kE P (Str.ofString "number_plain") 500 (.ref 205), kE P (Str.ofString "number_by_powers") 516 (.ref 212), kE P (Str.ofString "from_digits") 529 (.ref 219), kE P (Str.ofString "letters_of") 536 (.ref 226), kE P (Str.ofString "to_text") 542 (.ref 231), kE P (Str.ofString "digit_worth") 550 (.ref 238), kE P (Str.ofString "blanks_end") 558 (.ref 245), kE P (Str.ofString "prefix_at") 566 (.ref 252), kE P (Str.ofString "text_digits") 578 (.ref 259), kE P (Str.ofString "from_text") 592 (.ref 266), kE P (Str.ofString "mul_school") 610 (.ref 273), kE P (Str.ofString "divrem_small") 621 (.ref 280), kE P (Str.ofString "guessed_limb") 635 (.ref 287), kE P (Str.ofString "take_away") 651 (.ref 294), kE P (Str.ofString "put_back") 665 (.ref 301), kE P (Str.ofString "divide_rows") 678 (.ref 308), kE P (Str.ofString "divrem_school") 691 (.ref 315), kE P (Str.ofString "_law_keys") 695 (.bytes #[32, 9, 45, 43, 48, 49, 50, 51, 55, 56, 57, 65, 70, 71, 90, 97, 102, 103, 122] 694), kE P (Str.ofString "_law_typed") 703 (.ref 322), kE P (Str.ofString "_law_signed") 713 (.ref 329), kE P (Str.ofString "_law_worth") 723 (.ref 336), kE P (Str.ofString "_law_pressed") 738 (.ref 343), kE P (Str.ofString "_law_shown") 750 (.ref 350), kE P (Str.ofString "_law_read") 761 (.ref 357), kE P (Str.ofString "_law_figures") 772 (.ref 364), kE P (Str.ofString "law") 778 (.ref 369)] 64 }),
  (23, { cls := .type "dict", data := .dict #[kE P (Str.ofString "__module__") 196 (.str (Str.ofString "gmp.limbs") 187), kE P (Str.ofString "__firstlineno__") 200 (.int 2 199), kE P (Str.ofString "__static_attributes__") 201 (.ref 22), kE P (Str.ofString "__weakref__") 203 (.ref 25), kE P (Str.ofString "__doc__") 204 (.none)] 3 }),
  (57, { cls := .type "dict", data := .dict #[kE P (Str.ofString "__module__") 232 (.str (Str.ofString "gmp.limbs") 187), kE P (Str.ofString "__firstlineno__") 236 (.int 6 235), kE P (Str.ofString "__init__") 245 (.ref 55), kE P (Str.ofString "__static_attributes__") 247 (.ref 56), kE P (Str.ofString "__doc__") 249 (.none)] 3 })]
noncomputable def kRs (P : Params) : Frag := [(24, { cls := Value.type "type", data := Data.cls { name := Str.ofString "GmpError", bases := [Value.type "Exception"], mro := [Value.ref 24, Value.type "Exception", Value.type "BaseException", Value.type "object"], ns := 23, qualname := Str.ofString "GmpError", subclasses := [Value.ref 37, Value.ref 58, Value.ref 70] }, slots := #[Option.some (Value.ref 15), Option.none, Option.some (Value.str (Str.ofString "GmpError") 189), Option.some (Value.str (Str.ofString "GmpError") 197), Option.some (Value.builtin "Exception.__new__"), Option.some (Value.bool Bool.true)] }),
  (43, { cls := Value.type "cell", data := Data.cell (Option.some (Value.ref 58)) }),
  (58, { cls := Value.type "type", data := Data.cls { name := Str.ofString "BadText", bases := [Value.ref 24], mro := [Value.ref 58, Value.ref 24, Value.type "Exception", Value.type "BaseException", Value.type "object"], ns := 57, qualname := Str.ofString "BadText" }, slots := #[Option.some (Value.ref 40), Option.none, Option.some (Value.str (Str.ofString "BadText") 225), Option.some (Value.str (Str.ofString "BadText") 233), Option.some (Value.builtin "Exception.__new__"), Option.some (Value.bool Bool.true)] }),
  (48, { cls := Value.type "tuple", data := Data.seq #[Value.ref 43] }),
  (49, { cls := Value.type "tuple", data := Data.seq #[Value.str (Str.ofString "__class__") 240] }),
  (51, { cls := Value.type "tuple", data := Data.seq #[Value.str (Str.ofString "self") 241, Value.str (Str.ofString "at") 242] }),
  (2, { cls := .none, data := .dict #[kE P (Str.ofString "type.__subclasses__.Exception.0") 205 (.int 24 0), kE P (Str.ofString "type.__subclasses__.Exception.n") 206 (.int 1 0)] 2 }),
  (55, { cls := .type "function", data := .func iniD })]
noncomputable def KF (P : Params) : Frag := kDs P ++ (kRs P ++ (kFs ++ kCs))
noncomputable def kA : List Addr := [3, 23, 57, 24, 43, 58, 48, 49, 51, 2, 55, 79, 86, 93, 100, 107, 114, 121, 128, 135, 142, 149, 156, 163, 170, 177, 184, 191, 198, 205, 212, 219, 226, 231, 238, 245, 252, 259, 266, 273, 280, 287, 294, 301, 308, 315, 322, 329, 336, 343, 350, 357, 364, 369, 54, 78, 85, 92, 99, 106, 113, 120, 127, 134, 141, 148, 155, 162, 169, 176, 183, 190, 197, 204, 211, 218, 225, 230, 237, 244, 251, 258, 265, 272, 279, 286, 293, 300, 307, 314, 321, 328, 335, 342, 349, 356, 363, 368]
theorem kA_eq (P : Params) : kA = (KF P).map (·.1) := by kernel_rfl
noncomputable def qv : Program := view pw [58]
noncomputable def hdLo : List Str := pw.main.body.flatMap fun s => match s with | .FunctionDef nm .. => [nm] | .ClassDef nm .. => [nm] | .Assign [.Name x _] _ _ => [x] | _ => []
noncomputable abbrev HkK : Hook := kHook KF kA kA_eq
noncomputable abbrev Xq (s : Shared) : Bool := xlAt qv [] s && recOk [] s
theorem hdSaid : PySem.Challenge.rw_sj0089_01.wellSaid = true := (congrFun PySem.W.Fast.te9446332074065402090 _).trans (by kernel_rfl)
theorem left_at (w : World) : (fun os => (topFrom treeTable pw w 5000 ⟨boot_heap w.params, #[], boot_drawn, boot_toks, os⟩).map (fun s => (openSeen qv hdLo (importedModules pw.main.body) Xq true s, HkK.obs s))) = fun _ => some (openGood qv hdLo, HkK.val w) := by
  unfold topFrom
  rw [PySem.W.Fast.te14082659384304107361, PySem.W.Fast.te14364793385576792824, PySem.W.Fast.te4187177175401517315, PySem.W.Fast.te5923862056798008813]
  kernel_rfl
theorem hdLeft : LeftO pw qv hdLo Xq HkK.obs HkK.val 5000 true := fun w => by
  obtain ⟨⟨h, gs, d, k, os⟩, e, e'⟩ := Option.map_eq_some_iff.mp (boot_open (p := pw) (N := 5000) (by kernel_rfl) (by kernel_rfl) (fun s => by kernel_rfl) w)
  obtain ⟨rfl, rfl, rfl, rfl⟩ : h = boot_heap w.params ∧ gs = #[] ∧ d = boot_drawn ∧ k = boot_toks := by simpa using e'
  unfold openEnds
  rw [e, Option.bind_some]
  exact congrFun (left_at w) os
noncomputable def defQ (i : Nat) : Pos := match pw.main.body[i]? with | some (.FunctionDef _ _ _ _ _ _ _ _ _ p) => p | _ => default
noncomputable abbrev lawR : DefRec := { name := Str.ofString "law", params := defP 58, body := defB 58, scope := defS 58, pos := defQ 58 }
theorem hdQ (hc : WalkO qv hdLo (XL qv []) HkK.says PySem.Challenge.rw_sj0089_01.row.toRowW lawR [] (fun f vs => PySem.call f vs)) : PySem.Challenge.rw_sj0089_01.Holds := by
  refine holds_law hdSaid fun ok => PySem.W.holds_open (r := PySem.Challenge.rw_sj0089_01.row) (q := qv) (loose := hdLo) (Xt := Xq) (XP := XL qv []) (Yf := HkK.obs) (Ya := HkK.val) (YP := HkK.says) (N := 5000) hdLeft HkK.of HkK.keeps
    (fun s e => xl_of s (Bool.and_eq_true_iff.mp e).1) XL.keeps (by kernel_rfl) (by kernel_rfl) (by kernel_rfl) (fun s e => recFacts_of (Bool.and_eq_true_iff.mp e).2) (by kernel_rfl) ok (by kernel_rfl) ⟨rfl, rfl, rfl, rfl, rfl, by decide +kernel⟩ ?hw hc
  w_witness2
end Mine
end
section
open PySem PySem.W PySem.Calls PyProof.Rows
set_option Elab.async false
set_option maxRecDepth 100000
namespace Mine
def Pl (p : Prop) : Prop := p
theorem Pl.r {α : Sort u} {a : α} : Pl (a = a) := rfl
theorem Pl.f1 {α β : Type _} {f g : α → β} (h : Pl (f = g)) (a : α) : f a = g a := congrFun h a
theorem Pl.f2 {α β γ : Type _} {f g : α → β → γ} (h : Pl (f = g)) (a : α) (b : β) : f a b = g a b := congrFun (congrFun h a) b
inductive V where
  | undef | none
  | bool (b : Bool)
  | int (i : Int)
  | str (s : Str)
  | bytes (b : Array UInt8)
  | list (xs : List V)
  | tuple (xs : List V)
  | own (a : Addr) (xs : List V)
  | brw (a : Addr)
  | fn (v : Value)
abbrev Led := List (Addr × Obj)
abbrev tupOf (its : Array Value) : Obj := { cls := .type "tuple", data := .seq its }
mutual
inductive FR (fz : Led) : Value → V → Prop
  | none : FR fz .none .none
  | bool (b) : FR fz (.bool b) (.bool b)
  | int (i t) : FR fz (.int i t) (.int i)
  | str (x t) : FR fz (.str x t) (.str x)
  | bytes (b t) : FR fz (.bytes b t) (.bytes b)
  | fn (v) : FR fz v (.fn v)
  | list (a arr n xs) : (a, listOf arr n) ∈ fz → FRs fz arr.toList xs → FR fz (.ref a) (.list xs)
  | tuple (a o arr n xs) : (a, o) ∈ fz → o.cls = .type "tuple" → o.data = .seq arr n → FRs fz arr.toList xs → FR fz (.ref a) (.tuple xs)
inductive FRs (fz : Led) : List Value → List V → Prop
  | nil : FRs fz [] []
  | cons {v x vs xs} : FR fz v x → FRs fz vs xs → FRs fz (v :: vs) (x :: xs)
end
def Sub (fz fz' : Led) : Prop := ∀ p ∈ fz, p ∈ fz'
theorem Sub.rfl {fz : Led} : Sub fz fz := fun _ h => h
theorem Sub.trans {a b c : Led} (h : Sub a b) (k : Sub b c) : Sub a c := fun p x => k p (h p x)
theorem Sub.cons {fz : Led} {p : Addr × Obj} : Sub fz (p :: fz) := fun _ h => .tail _ h
theorem FR.mono {fz fz' : Led} (h : Sub fz fz') {v : Value} {x : V} (r : FR fz v x) : FR fz' v x :=
  FR.rec (motive_1 := fun v x _ => FR fz' v x) (motive_2 := fun vs xs _ => FRs fz' vs xs) .none .bool .int .str .bytes .fn (fun a arr n xs hm _ ih => .list a arr n xs (h _ hm) ih) (fun a o arr n xs hm hc hd _ ih => .tuple a o arr n xs (h _ hm) hc hd ih) .nil (fun _ _ a b => .cons a b) r
theorem FRs.mono {fz fz' : Led} (h : Sub fz fz') {vs : List Value} {xs : List V} (r : FRs fz vs xs) : FRs fz' vs xs :=
  FRs.rec (motive_1 := fun v x _ => FR fz' v x) (motive_2 := fun vs xs _ => FRs fz' vs xs) .none .bool .int .str .bytes .fn (fun a arr n xs hm _ ih => .list a arr n xs (h _ hm) ih) (fun a o arr n xs hm hc hd _ ih => .tuple a o arr n xs (h _ hm) hc hd ih) .nil (fun _ _ a b => .cons a b) r
def FR.Inv (fz : Led) (v : Value) : V → Prop
  | .none => v = .none
  | .bool b => v = .bool b
  | .int i => ∃ t, v = .int i t
  | .str x => ∃ t, v = .str x t
  | .bytes x => ∃ t, v = .bytes x t
  | .fn f => v = f
  | .list xs => ∃ a arr n, v = .ref a ∧ (a, listOf arr n) ∈ fz ∧ FRs fz arr.toList xs
  | .tuple xs => ∃ a o arr n, v = .ref a ∧ (a, o) ∈ fz ∧ o.cls = .type "tuple" ∧ o.data = .seq arr n ∧ FRs fz arr.toList xs
  | _ => False
def FRs.Inv (fz : Led) (vs : List Value) : List V → Prop
  | [] => vs = []
  | x :: xs => ∃ v ws, vs = v :: ws ∧ FR fz v x ∧ FRs fz ws xs
section
variable {fz : Led} {v : Value} {vs : List Value} {x : V} {M : Value → Prop} {N : List Value → Prop}
theorem FR.inv (h : FR fz v x) : FR.Inv fz v x := by
  cases h with
  | none | bool | fn => exact rfl
  | int | str | bytes => exact ⟨_, rfl⟩
  | list _ _ _ _ a b => exact ⟨_, _, _, rfl, a, b⟩
  | tuple _ _ _ _ _ a b c d => exact ⟨_, _, _, _, rfl, a, b, c, d⟩
theorem FRs.inv {xs : List V} (h : FRs fz vs xs) : FRs.Inv fz vs xs := by
  cases h with
  | nil => exact rfl
  | cons a b => exact ⟨_, _, rfl, a, b⟩
@[elab_as_elim] theorem FR.none_c (h : FR fz v .none) (k : M .none) : M v := (show v = _ from h.inv) ▸ k
@[elab_as_elim] theorem FR.bool_c {b : Bool} (h : FR fz v (.bool b)) (k : M (.bool b)) : M v := (show v = _ from h.inv) ▸ k
@[elab_as_elim] theorem FR.int_c {i : Int} (h : FR fz v (.int i)) (k : ∀ t, M (.int i t)) : M v := Exists.elim (show ∃ t, v = .int i t from h.inv) fun t e => e ▸ k t
@[elab_as_elim] theorem FR.str_c {x : Str} (h : FR fz v (.str x)) (k : ∀ t, M (.str x t)) : M v := Exists.elim (show ∃ t, v = .str x t from h.inv) fun t e => e ▸ k t
@[elab_as_elim] theorem FR.bytes_c {b : Array UInt8} (h : FR fz v (.bytes b)) (k : ∀ t, M (.bytes b t)) : M v := Exists.elim (show ∃ t, v = .bytes b t from h.inv) fun t e => e ▸ k t
@[elab_as_elim] theorem FR.fn_c {f : Value} (h : FR fz v (.fn f)) (k : M f) : M v := (show v = _ from h.inv) ▸ k
@[elab_as_elim] theorem FR.list_c {xs : List V} (h : FR fz v (.list xs)) (k : ∀ a arr n, (a, listOf arr n) ∈ fz → FRs fz arr.toList xs → M (.ref a)) : M v := by
  obtain ⟨a, arr, n, e, h1, h2⟩ : ∃ a arr n, v = .ref a ∧ (a, listOf arr n) ∈ fz ∧ FRs fz arr.toList xs := h.inv
  exact e ▸ k _ _ _ h1 h2
@[elab_as_elim] theorem FR.tuple_c {xs : List V} (h : FR fz v (.tuple xs)) (k : ∀ a o arr n, (a, o) ∈ fz → o.cls = .type "tuple" → o.data = .seq arr n → FRs fz arr.toList xs → M (.ref a)) : M v := by
  obtain ⟨a, o, arr, n, e, h1, h2, h3, h4⟩ : ∃ a o arr n, v = .ref a ∧ (a, o) ∈ fz ∧ o.cls = .type "tuple" ∧ o.data = .seq arr n ∧ FRs fz arr.toList xs := h.inv
  exact e ▸ k _ _ _ _ h1 h2 h3 h4
theorem FR.own_c {a : Addr} {xs : List V} (h : FR fz v (.own a xs)) : False := h.inv
theorem FR.brw_c {a : Addr} (h : FR fz v (.brw a)) : False := h.inv
theorem FR.undef_c (h : FR fz v .undef) : False := h.inv
@[elab_as_elim] theorem FRs.nil_c (h : FRs fz vs []) (k : N []) : N vs := (show vs = [] from h.inv) ▸ k
@[elab_as_elim] theorem FRs.cons_c {x : V} {xs : List V} (h : FRs fz vs (x :: xs)) (k : ∀ v vs', FR fz v x → FRs fz vs' xs → N (v :: vs')) : N vs := by
  obtain ⟨v, ws, e, a, b⟩ : ∃ v ws, vs = v :: ws ∧ FR fz v x ∧ FRs fz ws xs := h.inv
  exact e ▸ k _ _ a b
end
theorem FRs.length {fz : Led} {vs : List Value} {xs : List V} (r : FRs fz vs xs) : vs.length = xs.length := by
  induction xs generalizing vs with
  | nil => exact r.nil_c rfl
  | cons x xs ih => exact r.cons_c fun v ws _ b => congrArg (· + 1) (ih b)
theorem FRs.get {fz : Led} {vs : List Value} {xs : List V} {i : Nat} {x : V} (r : FRs fz vs xs) (h : xs[i]? = some x) : ∃ v, vs[i]? = some v ∧ FR fz v x := by
  induction xs generalizing vs i with
  | nil => cases h
  | cons y xs ih =>
    refine r.cons_c fun v ws a b => ?_
    cases i with
    | zero => exact ⟨v, rfl, Option.some.inj h ▸ a⟩
    | succ i => exact (show ∃ u, ws[i]? = some u ∧ FR fz u x from ih b h)
theorem FRs.append {fz : Led} {vs ws : List Value} {xs ys : List V} (r : FRs fz vs xs) (q : FRs fz ws ys) : FRs fz (vs ++ ws) (xs ++ ys) := by
  induction xs generalizing vs with
  | nil => exact r.nil_c q
  | cons x xs ih =>
    refine r.cons_c fun v vs' a b => ?_
    exact .cons a (ih b)
theorem FRs.set {fz : Led} {vs : List Value} {xs : List V} {i : Nat} {v : Value} {x : V} (r : FRs fz vs xs) (q : FR fz v x) : FRs fz (vs.set i v) (xs.set i x) := by
  induction xs generalizing vs i with
  | nil => exact r.nil_c .nil
  | cons y xs ih =>
    refine r.cons_c fun v ws a b => ?_
    cases i with
    | zero => exact .cons q b
    | succ i => exact .cons a (ih b)
theorem FRs.take {fz : Led} {vs : List Value} {xs : List V} (n : Nat) (r : FRs fz vs xs) : FRs fz (vs.take n) (xs.take n) := by
  induction n generalizing vs xs with
  | zero => exact .nil
  | succ n ih =>
    cases xs with
    | nil => exact r.nil_c .nil
    | cons x xs => exact r.cons_c fun v ws a b => .cons a (ih b)
theorem FRs.drop {fz : Led} {vs : List Value} {xs : List V} (n : Nat) (r : FRs fz vs xs) : FRs fz (vs.drop n) (xs.drop n) := by
  induction n generalizing vs xs with
  | zero => exact r
  | succ n ih =>
    cases xs with
    | nil => exact r.nil_c .nil
    | cons x xs => exact r.cons_c fun v ws a b => (show FRs fz (ws.drop n) (xs.drop n) from ih b)
theorem FRs.reverse {fz : Led} {vs : List Value} {xs : List V} (r : FRs fz vs xs) : FRs fz vs.reverse xs.reverse := by
  induction xs generalizing vs with
  | nil => exact r.nil_c .nil
  | cons x xs ih => exact r.cons_c fun v ws a b => by rw [List.reverse_cons, List.reverse_cons]; exact (ih b).append (.cons a .nil)
inductive LO (fz : Led) (o : Obj) (xs : List V) : Prop
  | mk (arr : Array Value) (n : Nat) (e : o = listOf arr n) (r : FRs fz arr.toList xs)
theorem LO.mono {fz fz' : Led} {o : Obj} {xs : List V} (h : Sub fz fz') : LO fz o xs → LO fz' o xs := fun ⟨arr, n, e, r⟩ => ⟨arr, n, e, r.mono h⟩
inductive LocR (fz : Led) (m : Str → Option Value) : List Str → List V → Led → Prop
  | nil : LocR fz m [] [] []
  | undef {x xs σ ol} : LocR fz m xs σ ol → LocR fz m (x :: xs) (.undef :: σ) ol
  | brw {x a xs σ ol} : m x = some (.ref a) → LocR fz m xs σ ol → LocR fz m (x :: xs) (.brw a :: σ) ol
  | own {x a o vs xs σ ol} : m x = some (.ref a) → LO fz o vs → LocR fz m xs σ ol → LocR fz m (x :: xs) (.own a vs :: σ) ((a, o) :: ol)
  | val {x v' v xs σ ol} : m x = some v' → FR fz v' v → LocR fz m xs σ ol → LocR fz m (x :: xs) (v :: σ) ol
def V.plain : V → Bool
  | .undef | .brw _ | .own .. => false
  | _ => true
section
variable {fz fz' : Led} {m m' : Str → Option Value} {xs : List Str} {σ : List V} {ol : Led}
theorem LocR.mono (h : Sub fz fz') (L : LocR fz m xs σ ol) : LocR fz' m xs σ ol := by
  induction L with
  | nil => exact .nil
  | undef _ ih => exact .undef ih
  | brw e _ ih => exact .brw e ih
  | own e l _ ih => exact .own e (l.mono h) ih
  | val e l _ ih => exact .val e (l.mono h) ih
theorem LocR.congr (h : ∀ x ∈ xs, m' x = m x) (L : LocR fz m xs σ ol) : LocR fz m' xs σ ol := by
  induction L with
  | nil => exact .nil
  | undef _ ih => exact .undef (ih fun y hy => h y (.tail _ hy))
  | brw e _ ih => exact .brw ((h _ (.head _)).trans e) (ih fun y hy => h y (.tail _ hy))
  | own e l _ ih => exact .own ((h _ (.head _)).trans e) l (ih fun y hy => h y (.tail _ hy))
  | val e l _ ih => exact .val ((h _ (.head _)).trans e) l (ih fun y hy => h y (.tail _ hy))
theorem LocR.val' (L : LocR fz m xs σ ol) {i : Nat} {x : Str} {v : V} (hx : xs[i]? = some x) (hv : σ[i]? = some v) (hp : v.plain = true) : ∃ v', m x = some v' ∧ FR fz v' v := by
  induction L generalizing i with
  | nil => cases hx
  | undef _ ih =>
    cases i with
    | zero => cases hv; cases hp
    | succ i => exact ih hx hv
  | brw e _ ih =>
    cases i with
    | zero => cases hv; cases hp
    | succ i => exact ih hx hv
  | own e l _ ih =>
    cases i with
    | zero => cases hv; cases hp
    | succ i => exact ih hx hv
  | val e l _ ih =>
    cases i with
    | zero => obtain rfl := Option.some.inj hx; obtain rfl := Option.some.inj hv; exact ⟨_, e, l⟩
    | succ i => exact ih hx hv
theorem LocR.addr (L : LocR fz m xs σ ol) {i : Nat} {x : Str} {a : Addr} {vs : List V} (hx : xs[i]? = some x) (hv : σ[i]? = some (.own a vs)) : m x = some (.ref a) := by
  induction L generalizing i with
  | nil => cases hx
  | undef _ ih =>
    cases i with
    | zero => cases hv
    | succ i => exact ih hx hv
  | brw e _ ih =>
    cases i with
    | zero => cases hv
    | succ i => exact ih hx hv
  | own e l _ ih =>
    cases i with
    | zero => obtain rfl := Option.some.inj hx; cases hv; exact e
    | succ i => exact ih hx hv
  | val e l _ ih =>
    cases i with
    | zero => obtain rfl := Option.some.inj hv; exact l.inv.elim
    | succ i => exact ih hx hv
inductive PutR (fz : Led) (m' : Str → Option Value) (xs : List Str) (σ : List V) (ol : Led) (i : Nat) (x : Str) : Prop
  | mk (ol' : Led) (s : ol'.Sublist ol) (h1 : ∀ v' v, m' x = some v' → FR fz v' v → LocR fz m' xs (σ.set i v) ol') (h2 : ∀ a, m' x = some (.ref a) → LocR fz m' xs (σ.set i (.brw a)) ol')
      (h3 : ∀ a o vs, m' x = some (.ref a) → LO fz o vs → ∃ ol'', ol''.Perm ((a, o) :: ol') ∧ LocR fz m' xs (σ.set i (.own a vs)) ol'')
theorem PutR.zero {z : Str} {w : V} {ol0 : Led} (L : LocR fz m' xs σ ol) (s : ol.Sublist ol0) : PutR fz m' (z :: xs) (w :: σ) ol0 0 z :=
  ⟨ol, s, fun v' v e r => .val e r L, fun a e => .brw e L, fun a o vs e l => ⟨_, .refl _, .own e l L⟩⟩
theorem LocR.put (L : LocR fz m xs σ ol) (hn : xs.Nodup) {i : Nat} {x : Str} (hx : xs[i]? = some x) (hm : ∀ y, y ≠ x → m' y = m y) : PutR fz m' xs σ ol i x := by
  have key : ∀ {x : Str} {xs : List Str} {σ : List V} {ol : Led}, (x :: xs).Nodup → (∀ y, y ≠ x → m' y = m y) → LocR fz m xs σ ol → LocR fz m' xs σ ol := fun hn hm L =>
    L.congr fun y hy => hm y fun e => (List.nodup_cons.mp hn).1 (e ▸ hy)
  have nx : ∀ {x z : Str} {xs : List Str} {i : Nat}, (z :: xs).Nodup → xs[i]? = some x → z ≠ x := fun hn h e => (List.nodup_cons.mp hn).1 (e ▸ List.mem_of_getElem? h)
  induction L generalizing i with
  | nil => cases hx
  | undef L ih =>
    cases i with
    | zero => obtain rfl := Option.some.inj hx; exact .zero (key hn hm L) (.refl _)
    | succ i =>
      obtain ⟨ol', s, h1, h2, h3⟩ := ih (List.nodup_cons.mp hn).2 hx
      exact ⟨ol', s, fun v' v e r => .undef (h1 v' v e r), fun a e => .undef (h2 a e), fun a o vs e l => (h3 a o vs e l).elim fun o2 p => ⟨o2, p.1, .undef p.2⟩⟩
  | brw eb L ih =>
    cases i with
    | zero => obtain rfl := Option.some.inj hx; exact .zero (key hn hm L) (.refl _)
    | succ i =>
      have ez := (hm _ (nx hn hx)).trans eb
      obtain ⟨ol', s, h1, h2, h3⟩ := ih (List.nodup_cons.mp hn).2 hx
      exact ⟨ol', s, fun v' v e r => .brw ez (h1 v' v e r), fun a e => .brw ez (h2 a e), fun a o vs e l => (h3 a o vs e l).elim fun o2 p => ⟨o2, p.1, .brw ez p.2⟩⟩
  | own eb lb L ih =>
    cases i with
    | zero => obtain rfl := Option.some.inj hx; exact .zero (key hn hm L) (List.sublist_cons_self _ _)
    | succ i =>
      have ez := (hm _ (nx hn hx)).trans eb
      obtain ⟨ol', s, h1, h2, h3⟩ := ih (List.nodup_cons.mp hn).2 hx
      exact ⟨_, s.cons_cons _, fun v' v e r => .own ez lb (h1 v' v e r), fun a e => .own ez lb (h2 a e), fun a o vs e l => (h3 a o vs e l).elim fun o2 p => ⟨_, (p.1.cons _).trans (.swap _ _ _), .own ez lb p.2⟩⟩
  | val eb lb L ih =>
    cases i with
    | zero => obtain rfl := Option.some.inj hx; exact .zero (key hn hm L) (.refl _)
    | succ i =>
      have ez := (hm _ (nx hn hx)).trans eb
      obtain ⟨ol', s, h1, h2, h3⟩ := ih (List.nodup_cons.mp hn).2 hx
      exact ⟨ol', s, fun v' v e r => .val ez lb (h1 v' v e r), fun a e => .val ez lb (h2 a e), fun a o vs e l => (h3 a o vs e l).elim fun o2 p => ⟨o2, p.1, .val ez lb p.2⟩⟩
inductive TakeR (fz : Led) (m : Str → Option Value) (xs : List Str) (σ : List V) (ol : Led) (i : Nat) (a : Addr) (vs : List V) : Prop
  | mk (o : Obj) (ol' : Led) (h1 : LO fz o vs) (h2 : ol.Perm ((a, o) :: ol')) (h3 : LocR fz m xs (σ.set i (.brw a)) ol') (h4 : ∀ fz', Sub fz fz' → FR fz' (.ref a) (.list vs) → LocR fz' m xs (σ.set i (.list vs)) ol')
theorem LocR.take (L : LocR fz m xs σ ol) {i : Nat} {a : Addr} {vs : List V} (hv : σ[i]? = some (.own a vs)) : TakeR fz m xs σ ol i a vs := by
  induction L generalizing i with
  | nil => cases hv
  | undef L ih =>
    cases i with
    | zero => cases hv
    | succ i =>
      obtain ⟨o, ol', h1, h2, h3, h4⟩ := ih hv
      exact ⟨o, ol', h1, h2, .undef h3, fun f hf r => .undef (h4 f hf r)⟩
  | brw e L ih =>
    cases i with
    | zero => cases hv
    | succ i =>
      obtain ⟨o, ol', h1, h2, h3, h4⟩ := ih hv
      exact ⟨o, ol', h1, h2, .brw e h3, fun f hf r => .brw e (h4 f hf r)⟩
  | own e l L ih =>
    cases i with
    | zero => cases hv; exact ⟨_, _, l, .refl _, .brw e L, fun f hf r => .val e r (L.mono hf)⟩
    | succ i =>
      obtain ⟨o, ol', h1, h2, h3, h4⟩ := ih hv
      exact ⟨o, _, h1, (h2.cons _).trans (.swap _ _ _), .own e l h3, fun f hf r => .own e (l.mono hf) (h4 f hf r)⟩
  | val e l L ih =>
    cases i with
    | zero => obtain rfl := Option.some.inj hv; exact (l.inv).elim
    | succ i =>
      obtain ⟨o, ol', h1, h2, h3, h4⟩ := ih hv
      exact ⟨o, ol', h1, h2, .val e l h3, fun f hf r => .val e (l.mono hf) (h4 f hf r)⟩
theorem LocR.back (L : LocR fz m xs σ ol) : ∀ {i : Nat} {a : Addr} {o : Obj} {vs : List V}, σ[i]? = some (.brw a) → LO fz o vs →
    ∃ ol', ol'.Perm ((a, o) :: ol) ∧ LocR fz m xs (σ.set i (.own a vs)) ol' := by
  induction L with
  | nil => intro i a o vs hv; cases hv
  | undef L ih =>
    intro i a o vs hv hl
    cases i with
    | zero => cases hv
    | succ i => obtain ⟨ol', p, q⟩ := ih (i := i) hv hl; exact ⟨ol', p, .undef q⟩
  | brw e L ih =>
    intro i a o vs hv hl
    cases i with
    | zero => cases hv; exact ⟨_, .refl _, .own e hl L⟩
    | succ i => obtain ⟨ol', p, q⟩ := ih (i := i) hv hl; exact ⟨ol', p, .brw e q⟩
  | own e l L ih =>
    intro i a o vs hv hl
    cases i with
    | zero => cases hv
    | succ i => obtain ⟨ol', p, q⟩ := ih (i := i) hv hl; exact ⟨_, (p.cons _).trans (.swap _ _ _), .own e l q⟩
  | val e l L ih =>
    intro i a o vs hv hl
    cases i with
    | zero => obtain rfl := Option.some.inj hv; exact (l.inv).elim
    | succ i => obtain ⟨ol', p, q⟩ := ih (i := i) hv hl; exact ⟨ol', p, .val e l q⟩
theorem LocR.length (L : LocR fz m xs σ ol) : xs.length = σ.length := by induction L <;> simp_all
end
end Mine
end
section
open PySem PySem.W PySem.Calls PyProof.Rows
set_option Elab.async false
set_option maxRecDepth 100000
namespace Mine
structure Gl where
  prog : Program
  w : World
  K : Frag
  p : Program
  loose : List Str
  mean : ExcName → Option Value
  mg : Str → Option Value
  mb : Str → Option Value
abbrev Gl.M (G : Gl) : Model := model G.prog G.w
structure Fc where
  A : Around
  A₀ : Around
  base : Heap
  h₀ : Heap
  outer : List Env
  cn : Str
  cs : Scope
  L : Addr
  a : Addr
  ccd : Value
  cl : List (Str × Addr)
  r : Shared
  names : List Str
  E : Value → Shared → Prop
abbrev Fc.env (C : Fc) : Env := envX C.cn C.cs C.L C.a C.ccd C.cl
structure Ok (G : Gl) (C : Fc) (n : Nat) : Prop where
  B : Below C.A₀ C.base C.outer C.h₀
  X : G.K.In C.h₀
  T : Top G.p G.loose G.mean G.mg G.mb C.h₀
  hA : C.A.frames = some (C.env :: C.outer)
  hh : C.A.handled = none
  hk : C.cs.kind = .function
  depth : C.A.depth + n < recursionLimit
  units : C.A.units + 8 * n + 16 < cLine
  nodup : C.names.Nodup
  loc : ∀ x ∈ C.names, C.cs.names.lookup x = some .local ∧ (x == ("__debug__" : Str)) = false
def Dis (own fz : Led) : Prop := (own.map (·.1)).Nodup ∧ ∀ p ∈ own, ∀ q ∈ fz, p.1 ≠ q.1
theorem Dis.perm {a b fz : Led} (h : a.Perm b) (d : Dis a fz) : Dis b fz := ⟨(h.map _).nodup_iff.mp d.1, fun p hp => d.2 p (h.mem_iff.mpr hp)⟩
theorem Dis.sub {a b fz : Led} (h : b.Sublist a) (d : Dis a fz) : Dis b fz := ⟨d.1.sublist (h.map _), fun p hp => d.2 p (h.subset hp)⟩
inductive InR (h₀ : Heap) (l : Addr) (names : List Str) (r : Shared) (fz keep : Led) (σ : List V) (s : Shared) : Prop
  | mk (m : Str → Option Value) (ol : Led) (F : Fr h₀ l s.heap m) (L : LocR fz m names σ ol) (N : News h₀ l s.heap (ol ++ keep ++ fz)) (D : Dis (ol ++ keep) fz) (x : ∃ h t, s = { r with heap := h, toks := t })
abbrev In (C : Fc) (fz keep : Led) (σ : List V) (s : Shared) : Prop := InR C.h₀ C.L C.names C.r fz keep σ s
section
variable {C : Fc} {fz keep : Led} {σ : List V} {s : Shared}
theorem In.tok (i : In C fz keep σ s) (t : Nat) : In C fz keep σ { s with toks := t } := by
  obtain ⟨m, ol, F, L, N, D, h, t', e⟩ := i
  exact ⟨m, ol, F, L, N, D, h, t, by rw [e]⟩
theorem In.keeps (i : In C fz keep σ s) {h' : Heap} {t : Nat} (k : ∀ b o, s.heap.get? b = some o → h'.get? b = some o) : In C fz keep σ { s with heap := h', toks := t } := by
  obtain ⟨m, ol, F, L, N, D, h, t', e⟩ := i
  exact ⟨m, ol, F.keeps k, L, fun p hp => ⟨k _ _ (N p hp).1, (N p hp).2⟩, D, h', t, by rw [e]⟩
theorem In.get (i : In C fz keep σ s) {p : Addr × Obj} (h : p ∈ fz) : s.heap.get? p.1 = some p.2 := by
  obtain ⟨m, ol, F, L, N, D, _⟩ := i
  exact (N p (List.mem_append_right _ h)).1
theorem In.getK (i : In C fz keep σ s) {p : Addr × Obj} (h : p ∈ keep) : s.heap.get? p.1 = some p.2 := by
  obtain ⟨m, ol, F, L, N, D, _⟩ := i
  exact (N p (List.mem_append_left _ (List.mem_append_right _ h))).1
theorem In.push (i : In C fz keep σ s) (o : Obj) (hf : o.isFreed = false) : In C ((s.heap.objs.size, o) :: fz) keep σ { s with heap := s.heap.push o } := by
  obtain ⟨m, ol, F, L, N, D, h, t', e⟩ := i
  have N' := N.push F o hf
  refine ⟨m, ol, F.push o, L.mono Sub.cons, fun p hp => ?_, ⟨D.1, fun p hp q hq => ?_⟩, _, t', by rw [e]⟩
  · rcases List.mem_append.mp hp with h | h
    · exact N' p (.tail _ (List.mem_append_left _ h))
    · rcases List.mem_cons.mp h with rfl | h
      · exact N' _ (.head _)
      · exact N' p (.tail _ (List.mem_append_right _ h))
  · rcases List.mem_cons.mp hq with rfl | hq
    · exact Nat.ne_of_lt (Heap.lt_size (N p (List.mem_append_left _ hp)).1)
    · exact D.2 p hp q hq
theorem In.pushK (i : In C fz keep σ s) (o : Obj) (hf : o.isFreed = false) : In C fz ((s.heap.objs.size, o) :: keep) σ { s with heap := s.heap.push o } := by
  obtain ⟨m, ol, F, L, N, D, h, t', e⟩ := i
  have N' := N.push F o hf
  have lt : ∀ p ∈ ol ++ keep ++ fz, p.1 < s.heap.objs.size := fun p hp => Heap.lt_size (N p hp).1
  have P : (ol ++ (s.heap.objs.size, o) :: keep).Perm ((s.heap.objs.size, o) :: (ol ++ keep)) := List.perm_middle
  refine ⟨m, ol, F.push o, L, fun p hp => ?_, Dis.perm P.symm ⟨?_, fun p hp q hq => ?_⟩, _, t', by rw [e]⟩
  · rcases List.mem_append.mp hp with h | h
    · rcases List.mem_cons.mp (P.mem_iff.mp h) with rfl | h
      · exact N' _ (.head _)
      · exact N' p (.tail _ (List.mem_append_left _ h))
    · exact N' p (.tail _ (List.mem_append_right _ h))
  · rw [List.map_cons, List.nodup_cons]
    refine ⟨fun hm => ?_, D.1⟩
    obtain ⟨q, hq, e⟩ := List.mem_map.mp hm
    exact absurd (lt q (List.mem_append_left _ hq)) (by rw [e]; exact Nat.lt_irrefl _)
  · rcases List.mem_cons.mp hp with rfl | hp
    · exact (Nat.ne_of_lt (lt q (List.mem_append_right _ hq))).symm
    · exact D.2 p hp q hq
theorem In.freeze {a : Addr} {o : Obj} (i : In C fz ((a, o) :: keep) σ s) : In C ((a, o) :: fz) keep σ s := by
  obtain ⟨m, ol, F, L, N, D, h⟩ := i
  have P : (ol ++ (a, o) :: keep).Perm ((a, o) :: (ol ++ keep)) := List.perm_middle
  have D' := D.perm P
  refine ⟨m, ol, F, L.mono Sub.cons, fun p hp => N p ?_, ⟨(List.nodup_cons.mp D'.1).2, fun p hp q hq => ?_⟩, h⟩
  · rcases List.mem_append.mp hp with h | h
    · exact List.mem_append_left _ (P.mem_iff.mpr (.tail _ h))
    · rcases List.mem_cons.mp h with rfl | h
      · exact List.mem_append_left _ (P.mem_iff.mpr (.head _))
      · exact List.mem_append_right _ h
  · rcases List.mem_cons.mp hq with rfl | hq
    · exact fun e => (List.nodup_cons.mp D'.1).1 (List.mem_map.mpr ⟨p, hp, e⟩)
    · exact D'.2 p (.tail _ hp) q hq
theorem In.take {i : Nat} {a : Addr} {xs : List V} (I : In C fz keep σ s) (hv : σ[i]? = some (.own a xs)) :
    ∃ o, LO fz o xs ∧ In C fz ((a, o) :: keep) (σ.set i (.brw a)) s ∧ In C ((a, o) :: fz) keep (σ.set i (.list xs)) s := by
  obtain ⟨m, ol, F, L, N, D, h⟩ := I
  obtain ⟨o, ol', h1, h2, h3, h4⟩ := L.take hv
  have P : (ol ++ keep).Perm (ol' ++ (a, o) :: keep) := (h2.append_right keep).trans List.perm_middle.symm
  have I1 : In C fz ((a, o) :: keep) (σ.set i (.brw a)) s := ⟨m, ol', F, h3, fun p hp => N p ((List.mem_append.mp hp).elim (fun h => List.mem_append_left _ (P.mem_iff.mpr h)) fun h => List.mem_append_right _ h), D.perm P, h⟩
  refine ⟨o, h1, I1, ?_⟩
  obtain ⟨arr, n, rfl, r⟩ := h1
  have P' : (ol ++ keep).Perm ((a, listOf arr n) :: (ol' ++ keep)) := h2.append_right keep
  have D' := D.perm P'
  refine ⟨m, ol', F, h4 _ Sub.cons (.list a arr n xs (.head _) (r.mono Sub.cons)), fun p hp => N p ?_, ⟨(List.nodup_cons.mp D'.1).2, fun p hp q hq => ?_⟩, h⟩
  · rcases List.mem_append.mp hp with h | h
    · exact List.mem_append_left _ (P'.mem_iff.mpr (.tail _ h))
    · rcases List.mem_cons.mp h with rfl | h
      · exact List.mem_append_left _ (P'.mem_iff.mpr (.head _))
      · exact List.mem_append_right _ h
  · rcases List.mem_cons.mp hq with rfl | hq
    · exact fun e => (List.nodup_cons.mp D'.1).1 (List.mem_map.mpr ⟨p, hp, e⟩)
    · exact D'.2 p (.tail _ hp) q hq
theorem In.back {i : Nat} {a : Addr} {o : Obj} {xs : List V} (I : In C fz ((a, o) :: keep) σ s) (hv : σ[i]? = some (.brw a)) (hl : LO fz o xs) : In C fz keep (σ.set i (.own a xs)) s := by
  obtain ⟨m, ol, F, L, N, D, h⟩ := I
  obtain ⟨ol', p, q⟩ := L.back hv hl
  have P : (ol ++ (a, o) :: keep).Perm (ol' ++ keep) := List.perm_middle.trans (p.symm.append_right keep)
  exact ⟨m, ol', F, q, fun p hp => N p ((List.mem_append.mp hp).elim (fun h => List.mem_append_left _ (P.mem_iff.mpr h)) fun h => List.mem_append_right _ h), D.perm P, h⟩
theorem In.change {a : Addr} {o o' : Obj} (I : In C fz ((a, o) :: keep) σ s) {h' : Heap} {t : Nat} (hs : Heap.SameBut a s.heap h') (ho : h'.get? a = some o') : In C fz ((a, o') :: keep) σ { s with heap := h', toks := t } := by
  obtain ⟨m, ol, F, L, N, D, hh, tt, e⟩ := I
  have za := N (a, o) (List.mem_append_left _ (List.mem_append_right _ (.head _)))
  have P : (ol ++ (a, o) :: keep).Perm ((a, o) :: (ol ++ keep)) := List.perm_middle
  have P' : (ol ++ (a, o') :: keep).Perm ((a, o') :: (ol ++ keep)) := List.perm_middle
  have D' := D.perm P
  refine ⟨m, ol, F.change hs za.2.1 za.2.2, L, fun p hp => ?_, Dis.perm P'.symm ⟨D'.1, fun p hp q hq => ?_⟩, h', t, by rw [e]⟩
  · have other : ∀ p ∈ ol ++ (a, o) :: keep ++ fz, p.1 ≠ a → h'.get? p.1 = some p.2 ∧ p.1 ≠ C.L ∧ C.h₀.get? p.1 = none := fun p hp hne => ⟨(hs.2 p.1 hne).trans (N p hp).1, (N p hp).2⟩
    rcases List.mem_append.mp hp with h | h
    · rcases List.mem_cons.mp (P'.mem_iff.mp h) with rfl | h
      · exact ⟨ho, za.2⟩
      · exact other p (List.mem_append_left _ (P.mem_iff.mpr (.tail _ h))) fun e => (List.nodup_cons.mp D'.1).1 (List.mem_map.mpr ⟨p, h, e⟩)
    · exact other p (List.mem_append_right _ h) fun e => D'.2 (a, o) (.head _) p h e.symm
  · rcases List.mem_cons.mp hp with rfl | hp
    · exact D'.2 (a, o) (.head _) q hq
    · exact D'.2 p (.tail _ hp) q hq
end
end Mine
end
section
open PySem PySem.W PySem.Calls PyProof.Rows
set_option Elab.async false
set_option maxRecDepth 100000
namespace Mine
inductive PF (C : Fc) (fz keep : Led) (Q : V → List V → Prop) (v : Value) (s : Shared) : Prop
  | mk (x : V) (σ : List V) (fz' : Led) (a : Sub fz fz') (r : FR fz' v x) (i : In C fz' keep σ s) (q : Q x σ)
inductive PO (C : Fc) (fz keep : Led) (Q : Addr → List V → List V → Prop) (v : Value) (s : Shared) : Prop
  | mk (a : Addr) (xs : List V) (o : Obj) (σ : List V) (fz' : Led) (b : Sub fz fz') (e : v = .ref a) (l : LO fz' o xs) (i : In C fz' ((a, o) :: keep) σ s) (q : Q a xs σ)
inductive PT (C : Fc) (fz keep : Led) (Q : Bool → List V → Prop) (b : Bool) (s : Shared) : Prop
  | mk (σ : List V) (fz' : Led) (a : Sub fz fz') (i : In C fz' keep σ s) (q : Q b σ)
inductive PFs (C : Fc) (fz keep : Led) (Q : List V → List V → Prop) (vs : List Value) (s : Shared) : Prop
  | mk (xs : List V) (σ : List V) (fz' : Led) (a : Sub fz fz') (r : FRs fz' vs xs) (i : In C fz' keep σ s) (q : Q xs σ)
inductive Fl where
  | next | brk | cont | ret (x : V)
inductive PSr (fz : Led) (P : V → Prop) (v : Value) : Prop
  | mk (x : V) (r : FR fz v x) (q : P x)
@[reducible] def PSq (fz : Led) (Q : Fl → List V → Prop) (f : Flow) (σ : List V) : Prop := match f with
    | .next => Q .next σ
    | .brk => Q .brk σ
    | .cont => Q .cont σ
    | .ret v => PSr fz (fun x => Q (.ret x) σ) v
inductive PS (C : Fc) (fz keep : Led) (Q : Fl → List V → Prop) (f : Flow) (s : Shared) : Prop
  | mk (σ : List V) (fz' : Led) (a : Sub fz fz') (i : In C fz' keep σ s) (q : PSq fz' Q f σ)
section
variable (G : Gl) (C : Fc) (n : Nat)
def wF (e : Expr) (Q : V → List V → Prop) (σ : List V) : Prop :=
  Ok G C n → ∀ fz keep s, In C fz keep σ s → wpAny G.M C.A (eval e C.env) (PF C fz keep Q) C.E s
def wO (e : Expr) (Q : Addr → List V → List V → Prop) (σ : List V) : Prop :=
  Ok G C n → ∀ fz keep s, In C fz keep σ s → wpAny G.M C.A (eval e C.env) (PO C fz keep Q) C.E s
def wT (e : Expr) (Q : Bool → List V → Prop) (σ : List V) : Prop :=
  Ok G C n → ∀ fz keep s, In C fz keep σ s → wpAny G.M C.A (isTrue e C.env (eval e C.env)) (PT C fz keep Q) C.E s
def wA (es : List Expr) (Q : List V → List V → Prop) (σ : List V) : Prop :=
  Ok G C n → ∀ fz keep s (pos : Pos), In C fz keep σ s → wpAny G.M C.A (spliced (backTo pos (starEach es C.env))) (PFs C fz keep Q) C.E s
def wX (st : Stmt) (Q : Fl → List V → Prop) (σ : List V) : Prop :=
  Ok G C n → ∀ fz keep s, In C fz keep σ s → wpAny G.M C.A (exec st C.env) (PS C fz keep Q) C.E s
def wS (ss : List Stmt) (Q : Fl → List V → Prop) (σ : List V) : Prop :=
  Ok G C n → ∀ fz keep s, In C fz keep σ s → wpAny G.M C.A (execs ss C.env) (PS C fz keep Q) C.E s
end
section
variable {G : Gl} {C : Fc} {n : Nat} {Q : V → List V → Prop} {σ : List V}
theorem PF.intro {fz keep : Led} {v : Value} {x : V} {s : Shared} (r : FR fz v x) (i : In C fz keep σ s) (q : Q x σ) : PF C fz keep Q v s := ⟨x, σ, fz, Sub.rfl, r, i, q⟩
theorem PF.le {fz fz' keep : Led} {v : Value} {s : Shared} (h : Sub fz fz') : PF C fz' keep Q v s → PF C fz keep Q v s := fun ⟨x, σ, f, a, r, i, q⟩ => ⟨x, σ, f, h.trans a, r, i, q⟩
theorem PO.le {fz fz' keep : Led} {v : Value} {s : Shared} {Q : Addr → List V → List V → Prop} (h : Sub fz fz') : PO C fz' keep Q v s → PO C fz keep Q v s := fun ⟨x, y, z, σ, f, a, e, l, i, q⟩ => ⟨x, y, z, σ, f, h.trans a, e, l, i, q⟩
theorem PT.le {fz fz' keep : Led} {v : Bool} {s : Shared} {Q : Bool → List V → Prop} (h : Sub fz fz') : PT C fz' keep Q v s → PT C fz keep Q v s := fun ⟨σ, f, a, i, q⟩ => ⟨σ, f, h.trans a, i, q⟩
theorem PFs.le {fz fz' keep : Led} {v : List Value} {s : Shared} {Q : List V → List V → Prop} (h : Sub fz fz') : PFs C fz' keep Q v s → PFs C fz keep Q v s := fun ⟨x, σ, f, a, r, i, q⟩ => ⟨x, σ, f, h.trans a, r, i, q⟩
theorem PS.le {fz fz' keep : Led} {v : Flow} {s : Shared} {Q : Fl → List V → Prop} (h : Sub fz fz') : PS C fz' keep Q v s → PS C fz keep Q v s := fun ⟨σ, f, a, i, q⟩ => ⟨σ, f, h.trans a, i, q⟩
@[reducible] def kOF (Q : V → List V → Prop) (_ : Addr) (xs σ' : List V) : Prop := Q (.list xs) σ'
theorem wF_of_wO {e : Expr} (h : wO G C n e (kOF Q) σ) : wF G C n e Q σ := fun ok fz keep s i =>
  wpAny_mono (h ok fz keep s i) (fun v s' ⟨a, xs, o, σ', fz', hs, hv, ⟨arr, k, ho, hr⟩, hi, hq⟩ => by
    subst hv; subst ho
    exact ⟨.list xs, σ', (a, listOf arr k) :: fz', hs.trans Sub.cons, .list a arr k xs (.head _) (hr.mono Sub.cons), hi.freeze, hq⟩) fun _ _ x => x
inductive At : List Str → List V → Str → Nat → V → Prop
  | head {x xs v σ} : At (x :: xs) (v :: σ) x 0 v
  | tail {y xs w σ x k v} : At xs σ x k v → At (y :: xs) (w :: σ) x (k + 1) v
theorem At.names {xs : List Str} {σ : List V} {x : Str} {k : Nat} {v : V} (h : At xs σ x k v) : xs[k]? = some x := by induction h <;> simp_all
theorem At.vals {xs : List Str} {σ : List V} {x : Str} {k : Nat} {v : V} (h : At xs σ x k v) : σ[k]? = some v := by induction h <;> simp_all
inductive Put : List Str → List V → Str → Nat → V → List V → Prop
  | head {x xs w σ v} : Put (x :: xs) (w :: σ) x 0 v (v :: σ)
  | tail {y xs w σ x k v σ'} : Put xs σ x k v σ' → Put (y :: xs) (w :: σ) x (k + 1) v (w :: σ')
theorem Put.names {xs : List Str} {σ σ' : List V} {x : Str} {k : Nat} {v : V} (h : Put xs σ x k v σ') : xs[k]? = some x := by induction h <;> simp_all
theorem Put.eq {xs : List Str} {σ σ' : List V} {x : Str} {k : Nat} {v : V} (h : Put xs σ x k v σ') : σ' = σ.set k v := by induction h <;> simp_all
theorem At.i0 {x xs v σ} : At (x :: xs) (v :: σ) x 0 v := .head
theorem At.i1 {a0} {b0} {x xs v σ} : At (a0 :: x :: xs) (b0 :: v :: σ) x 1 v := .tail (.head)
theorem At.i2 {a0 a1} {b0 b1} {x xs v σ} : At (a0 :: a1 :: x :: xs) (b0 :: b1 :: v :: σ) x 2 v := .tail (.tail (.head))
theorem At.i3 {a0 a1 a2} {b0 b1 b2} {x xs v σ} : At (a0 :: a1 :: a2 :: x :: xs) (b0 :: b1 :: b2 :: v :: σ) x 3 v := .tail (.tail (.tail (.head)))
theorem At.i4 {a0 a1 a2 a3} {b0 b1 b2 b3} {x xs v σ} : At (a0 :: a1 :: a2 :: a3 :: x :: xs) (b0 :: b1 :: b2 :: b3 :: v :: σ) x 4 v := .tail (.tail (.tail (.tail (.head))))
theorem At.i5 {a0 a1 a2 a3 a4} {b0 b1 b2 b3 b4} {x xs v σ} : At (a0 :: a1 :: a2 :: a3 :: a4 :: x :: xs) (b0 :: b1 :: b2 :: b3 :: b4 :: v :: σ) x 5 v := .tail (.tail (.tail (.tail (.tail (.head)))))
theorem At.i6 {a0 a1 a2 a3 a4 a5} {b0 b1 b2 b3 b4 b5} {x xs v σ} : At (a0 :: a1 :: a2 :: a3 :: a4 :: a5 :: x :: xs) (b0 :: b1 :: b2 :: b3 :: b4 :: b5 :: v :: σ) x 6 v := .tail (.tail (.tail (.tail (.tail (.tail (.head))))))
theorem At.i7 {a0 a1 a2 a3 a4 a5 a6} {b0 b1 b2 b3 b4 b5 b6} {x xs v σ} : At (a0 :: a1 :: a2 :: a3 :: a4 :: a5 :: a6 :: x :: xs) (b0 :: b1 :: b2 :: b3 :: b4 :: b5 :: b6 :: v :: σ) x 7 v := .tail (.tail (.tail (.tail (.tail (.tail (.tail (.head)))))))
theorem At.i8 {a0 a1 a2 a3 a4 a5 a6 a7} {b0 b1 b2 b3 b4 b5 b6 b7} {x xs v σ} : At (a0 :: a1 :: a2 :: a3 :: a4 :: a5 :: a6 :: a7 :: x :: xs) (b0 :: b1 :: b2 :: b3 :: b4 :: b5 :: b6 :: b7 :: v :: σ) x 8 v := .tail (.tail (.tail (.tail (.tail (.tail (.tail (.tail (.head))))))))
theorem At.i9 {a0 a1 a2 a3 a4 a5 a6 a7 a8} {b0 b1 b2 b3 b4 b5 b6 b7 b8} {x xs v σ} : At (a0 :: a1 :: a2 :: a3 :: a4 :: a5 :: a6 :: a7 :: a8 :: x :: xs) (b0 :: b1 :: b2 :: b3 :: b4 :: b5 :: b6 :: b7 :: b8 :: v :: σ) x 9 v := .tail (.tail (.tail (.tail (.tail (.tail (.tail (.tail (.tail (.head)))))))))
theorem At.i10 {a0 a1 a2 a3 a4 a5 a6 a7 a8 a9} {b0 b1 b2 b3 b4 b5 b6 b7 b8 b9} {x xs v σ} : At (a0 :: a1 :: a2 :: a3 :: a4 :: a5 :: a6 :: a7 :: a8 :: a9 :: x :: xs) (b0 :: b1 :: b2 :: b3 :: b4 :: b5 :: b6 :: b7 :: b8 :: b9 :: v :: σ) x 10 v := .tail (.tail (.tail (.tail (.tail (.tail (.tail (.tail (.tail (.tail (.head))))))))))
theorem At.i11 {a0 a1 a2 a3 a4 a5 a6 a7 a8 a9 a10} {b0 b1 b2 b3 b4 b5 b6 b7 b8 b9 b10} {x xs v σ} : At (a0 :: a1 :: a2 :: a3 :: a4 :: a5 :: a6 :: a7 :: a8 :: a9 :: a10 :: x :: xs) (b0 :: b1 :: b2 :: b3 :: b4 :: b5 :: b6 :: b7 :: b8 :: b9 :: b10 :: v :: σ) x 11 v := .tail (.tail (.tail (.tail (.tail (.tail (.tail (.tail (.tail (.tail (.tail (.head)))))))))))
theorem At.i12 {a0 a1 a2 a3 a4 a5 a6 a7 a8 a9 a10 a11} {b0 b1 b2 b3 b4 b5 b6 b7 b8 b9 b10 b11} {x xs v σ} : At (a0 :: a1 :: a2 :: a3 :: a4 :: a5 :: a6 :: a7 :: a8 :: a9 :: a10 :: a11 :: x :: xs) (b0 :: b1 :: b2 :: b3 :: b4 :: b5 :: b6 :: b7 :: b8 :: b9 :: b10 :: b11 :: v :: σ) x 12 v := .tail (.tail (.tail (.tail (.tail (.tail (.tail (.tail (.tail (.tail (.tail (.tail (.head))))))))))))
theorem At.i13 {a0 a1 a2 a3 a4 a5 a6 a7 a8 a9 a10 a11 a12} {b0 b1 b2 b3 b4 b5 b6 b7 b8 b9 b10 b11 b12} {x xs v σ} : At (a0 :: a1 :: a2 :: a3 :: a4 :: a5 :: a6 :: a7 :: a8 :: a9 :: a10 :: a11 :: a12 :: x :: xs) (b0 :: b1 :: b2 :: b3 :: b4 :: b5 :: b6 :: b7 :: b8 :: b9 :: b10 :: b11 :: b12 :: v :: σ) x 13 v := .tail (.tail (.tail (.tail (.tail (.tail (.tail (.tail (.tail (.tail (.tail (.tail (.tail (.head)))))))))))))
theorem Put.i0 {x xs w σ v} : Put (x :: xs) (w :: σ) x 0 v (v :: σ) := .head
theorem Put.i1 {a0} {b0} {x xs w σ v} : Put (a0 :: x :: xs) (b0 :: w :: σ) x 1 v (b0 :: v :: σ) := .tail (.head)
theorem Put.i2 {a0 a1} {b0 b1} {x xs w σ v} : Put (a0 :: a1 :: x :: xs) (b0 :: b1 :: w :: σ) x 2 v (b0 :: b1 :: v :: σ) := .tail (.tail (.head))
theorem Put.i3 {a0 a1 a2} {b0 b1 b2} {x xs w σ v} : Put (a0 :: a1 :: a2 :: x :: xs) (b0 :: b1 :: b2 :: w :: σ) x 3 v (b0 :: b1 :: b2 :: v :: σ) := .tail (.tail (.tail (.head)))
theorem Put.i4 {a0 a1 a2 a3} {b0 b1 b2 b3} {x xs w σ v} : Put (a0 :: a1 :: a2 :: a3 :: x :: xs) (b0 :: b1 :: b2 :: b3 :: w :: σ) x 4 v (b0 :: b1 :: b2 :: b3 :: v :: σ) := .tail (.tail (.tail (.tail (.head))))
theorem Put.i5 {a0 a1 a2 a3 a4} {b0 b1 b2 b3 b4} {x xs w σ v} : Put (a0 :: a1 :: a2 :: a3 :: a4 :: x :: xs) (b0 :: b1 :: b2 :: b3 :: b4 :: w :: σ) x 5 v (b0 :: b1 :: b2 :: b3 :: b4 :: v :: σ) := .tail (.tail (.tail (.tail (.tail (.head)))))
theorem Put.i6 {a0 a1 a2 a3 a4 a5} {b0 b1 b2 b3 b4 b5} {x xs w σ v} : Put (a0 :: a1 :: a2 :: a3 :: a4 :: a5 :: x :: xs) (b0 :: b1 :: b2 :: b3 :: b4 :: b5 :: w :: σ) x 6 v (b0 :: b1 :: b2 :: b3 :: b4 :: b5 :: v :: σ) := .tail (.tail (.tail (.tail (.tail (.tail (.head))))))
theorem Put.i7 {a0 a1 a2 a3 a4 a5 a6} {b0 b1 b2 b3 b4 b5 b6} {x xs w σ v} : Put (a0 :: a1 :: a2 :: a3 :: a4 :: a5 :: a6 :: x :: xs) (b0 :: b1 :: b2 :: b3 :: b4 :: b5 :: b6 :: w :: σ) x 7 v (b0 :: b1 :: b2 :: b3 :: b4 :: b5 :: b6 :: v :: σ) := .tail (.tail (.tail (.tail (.tail (.tail (.tail (.head)))))))
theorem Put.i8 {a0 a1 a2 a3 a4 a5 a6 a7} {b0 b1 b2 b3 b4 b5 b6 b7} {x xs w σ v} : Put (a0 :: a1 :: a2 :: a3 :: a4 :: a5 :: a6 :: a7 :: x :: xs) (b0 :: b1 :: b2 :: b3 :: b4 :: b5 :: b6 :: b7 :: w :: σ) x 8 v (b0 :: b1 :: b2 :: b3 :: b4 :: b5 :: b6 :: b7 :: v :: σ) := .tail (.tail (.tail (.tail (.tail (.tail (.tail (.tail (.head))))))))
theorem Put.i9 {a0 a1 a2 a3 a4 a5 a6 a7 a8} {b0 b1 b2 b3 b4 b5 b6 b7 b8} {x xs w σ v} : Put (a0 :: a1 :: a2 :: a3 :: a4 :: a5 :: a6 :: a7 :: a8 :: x :: xs) (b0 :: b1 :: b2 :: b3 :: b4 :: b5 :: b6 :: b7 :: b8 :: w :: σ) x 9 v (b0 :: b1 :: b2 :: b3 :: b4 :: b5 :: b6 :: b7 :: b8 :: v :: σ) := .tail (.tail (.tail (.tail (.tail (.tail (.tail (.tail (.tail (.head)))))))))
theorem Put.i10 {a0 a1 a2 a3 a4 a5 a6 a7 a8 a9} {b0 b1 b2 b3 b4 b5 b6 b7 b8 b9} {x xs w σ v} : Put (a0 :: a1 :: a2 :: a3 :: a4 :: a5 :: a6 :: a7 :: a8 :: a9 :: x :: xs) (b0 :: b1 :: b2 :: b3 :: b4 :: b5 :: b6 :: b7 :: b8 :: b9 :: w :: σ) x 10 v (b0 :: b1 :: b2 :: b3 :: b4 :: b5 :: b6 :: b7 :: b8 :: b9 :: v :: σ) := .tail (.tail (.tail (.tail (.tail (.tail (.tail (.tail (.tail (.tail (.head))))))))))
theorem Put.i11 {a0 a1 a2 a3 a4 a5 a6 a7 a8 a9 a10} {b0 b1 b2 b3 b4 b5 b6 b7 b8 b9 b10} {x xs w σ v} : Put (a0 :: a1 :: a2 :: a3 :: a4 :: a5 :: a6 :: a7 :: a8 :: a9 :: a10 :: x :: xs) (b0 :: b1 :: b2 :: b3 :: b4 :: b5 :: b6 :: b7 :: b8 :: b9 :: b10 :: w :: σ) x 11 v (b0 :: b1 :: b2 :: b3 :: b4 :: b5 :: b6 :: b7 :: b8 :: b9 :: b10 :: v :: σ) := .tail (.tail (.tail (.tail (.tail (.tail (.tail (.tail (.tail (.tail (.tail (.head)))))))))))
theorem Put.i12 {a0 a1 a2 a3 a4 a5 a6 a7 a8 a9 a10 a11} {b0 b1 b2 b3 b4 b5 b6 b7 b8 b9 b10 b11} {x xs w σ v} : Put (a0 :: a1 :: a2 :: a3 :: a4 :: a5 :: a6 :: a7 :: a8 :: a9 :: a10 :: a11 :: x :: xs) (b0 :: b1 :: b2 :: b3 :: b4 :: b5 :: b6 :: b7 :: b8 :: b9 :: b10 :: b11 :: w :: σ) x 12 v (b0 :: b1 :: b2 :: b3 :: b4 :: b5 :: b6 :: b7 :: b8 :: b9 :: b10 :: b11 :: v :: σ) := .tail (.tail (.tail (.tail (.tail (.tail (.tail (.tail (.tail (.tail (.tail (.tail (.head))))))))))))
theorem Put.i13 {a0 a1 a2 a3 a4 a5 a6 a7 a8 a9 a10 a11 a12} {b0 b1 b2 b3 b4 b5 b6 b7 b8 b9 b10 b11 b12} {x xs w σ v} : Put (a0 :: a1 :: a2 :: a3 :: a4 :: a5 :: a6 :: a7 :: a8 :: a9 :: a10 :: a11 :: a12 :: x :: xs) (b0 :: b1 :: b2 :: b3 :: b4 :: b5 :: b6 :: b7 :: b8 :: b9 :: b10 :: b11 :: b12 :: w :: σ) x 13 v (b0 :: b1 :: b2 :: b3 :: b4 :: b5 :: b6 :: b7 :: b8 :: b9 :: b10 :: b11 :: b12 :: v :: σ) := .tail (.tail (.tail (.tail (.tail (.tail (.tail (.tail (.tail (.tail (.tail (.tail (.tail (.head)))))))))))))
theorem In.val {fz keep : Led} {s : Shared} {x : Str} {k : Nat} {v : V} (i : In C fz keep σ s) (h : At C.names σ x k v) (hp : v.plain = true) :
    ∃ m v', Fr C.h₀ C.L s.heap m ∧ m x = some v' ∧ FR fz v' v := by
  obtain ⟨m, ol, F, L, _⟩ := i
  obtain ⟨v', e, r⟩ := L.val' h.names h.vals hp
  exact ⟨m, v', F, e, r⟩
theorem In.addr {fz keep : Led} {s : Shared} {x : Str} {k : Nat} {a : Addr} {vs : List V} (i : In C fz keep σ s) (h : At C.names σ x k (.own a vs)) :
    ∃ m, Fr C.h₀ C.L s.heap m ∧ m x = some (.ref a) := by
  obtain ⟨m, ol, F, L, _⟩ := i
  exact ⟨m, F, L.addr h.names h.vals⟩
theorem wF_local {x : Str} {pos : Pos} {k : Nat} {v : V} (h : At C.names σ x k v) (hp : Pl (v.plain = true)) (q : Q v σ) : wF G C n (.Name x pos) Q σ := fun ok fz keep s i => by
  obtain ⟨m, v', F, e, r⟩ := i.val h hp
  have hl := ok.loc x (List.mem_of_getElem? h.names)
  exact nameX_L F e ⟨v, σ, fz, Sub.rfl, r, i, q⟩ ok.hk hl.1 hl.2
theorem wF_own {x : Str} {pos : Pos} {k : Nat} {a : Addr} {vs σ' : List V} (h : At C.names σ x k (.own a vs)) (hp : Put C.names σ x k (.list vs) σ') (q : Q (.list vs) σ') : wF G C n (.Name x pos) Q σ := fun ok fz keep s i => by
  obtain ⟨m, F, e⟩ := i.addr h
  have hl := ok.loc x (List.mem_of_getElem? h.names)
  obtain ⟨o, ⟨arr, k', ho, hr⟩, _, i2⟩ := i.take h.vals
  subst ho
  rw [← hp.eq] at i2
  exact nameX_L F e ⟨.list vs, σ', _, Sub.cons, .list a arr k' vs (.head _) (hr.mono Sub.cons), i2, q⟩ ok.hk hl.1 hl.2
theorem wF_global {x : Str} {pos : Pos} {v : Value} {y : V} (e : nsIn G.K mainGlobals x = some (some v)) (hx : C.cs.names.lookup x = some .globalImplicit) (hd : (x == ("__debug__" : Str)) = false)
    (r : FR [] v y) (q : Q y σ) : wF G C n (.Name x pos) Q σ := fun ok fz keep s i => by
  obtain ⟨m, ol, F, _⟩ := id i
  exact nameX_K F ok.X (topRead_of ok.T) e ⟨y, σ, fz, Sub.rfl, r.mono (fun _ h => absurd h List.not_mem_nil), i, q⟩ ok.hk hx hd
theorem wF_builtin {x : Str} {pos : Pos} {v : Value} (e : nsIn G.K mainGlobals x = some none) (hv : bootBuiltins x = some v) (hn : x ≠ "__name__") (hx : C.cs.names.lookup x = some .globalImplicit) (hd : (x == ("__debug__" : Str)) = false)
    (q : Q (.fn v) σ) : wF G C n (.Name x pos) Q σ := fun ok fz keep s i => by
  obtain ⟨m, ol, F, _⟩ := id i
  exact nameX_B F ok.X (topRead_of ok.T) e hv hn ⟨_, σ, fz, Sub.rfl, .fn v, i, q⟩ ok.hk hx hd
theorem wF_int {i : Int} {k : Nat} {pos : Pos} (q : Q (.int i) σ) : wF G C n (.Constant (.int i) k pos) Q σ := fun _ _ _ _ I => wpAny_Constant_int (PF.intro (.int _ _) (I.tok _) q)
theorem wF_bool {b : Bool} {k : Nat} {pos : Pos} (q : Q (.bool b) σ) : wF G C n (.Constant (.bool b) k pos) Q σ := fun _ _ _ _ I => wpAny_Constant_bool (PF.intro (.bool _) I q)
theorem wF_none {k : Nat} {pos : Pos} (q : Q .none σ) : wF G C n (.Constant .none k pos) Q σ := fun _ _ _ _ I => wpAny_Constant_none (PF.intro .none I q)
theorem wF_str {x : Str} {k : Nat} {pos : Pos} (q : Q (.str x) σ) : wF G C n (.Constant (.str x) k pos) Q σ := fun _ _ _ _ I => wpAny_Constant_str (PF.intro (.str _ _) (I.tok _) q)
theorem wF_bytes {b : List UInt8} {k : Nat} {pos : Pos} (q : Q (.bytes b.toArray) σ) : wF G C n (.Constant (.bytes b) k pos) Q σ := fun _ _ _ _ I => Constant_bytes (PF.intro (.bytes _ _) (I.tok _) q)
inductive BinR (K : V → Prop) : Operator → V → V → Prop
  | add {i j} (h : K (.int (i + j))) : BinR K .Add (.int i) (.int j)
  | sub {i j} (h : K (.int (i - j))) : BinR K .Sub (.int i) (.int j)
  | mul {i j} (b : i.natAbs < 2 ^ 64) (h : K (.int (i * j))) : BinR K .Mult (.int i) (.int j)
  | div {i j} (b : 0 < j) (c : j < 1073741824) (h : K (.int (i / j))) : BinR K .FloorDiv (.int i) (.int j)
  | mod {i j} (b : 0 < j) (c : j < 1073741824) (h : K (.int (i % j))) : BinR K .Mod (.int i) (.int j)
  | shl {i j} (a : 0 ≤ j) (b : j ≤ 1000000) (c : i.natAbs < 2 ^ 64) (h : K (.int (i * 2 ^ j.toNat))) : BinR K .LShift (.int i) (.int j)
  | shr {i j} (a : 0 ≤ j) (h : K (.int (i / 2 ^ j.toNat))) : BinR K .RShift (.int i) (.int j)
  | and {i j} (h : K (.int (Builtin.bitAnd i j))) : BinR K .BitAnd (.int i) (.int j)
  | or {i j} (h : K (.int (Builtin.bitOr i j))) : BinR K .BitOr (.int i) (.int j)
  | pow {i j} (a : 0 ≤ j) (b : j ≤ 1000000) (c : i.natAbs < 2 ^ 64) (h : K (.int (i ^ j.toNat))) : BinR K .Pow (.int i) (.int j)
  | adds {x y} (b : x.length + y.length ≤ 1000000) (h : K (.str (x ++ y))) : BinR K .Add (.str x) (.str y)
  | addb {x y} (b : x.size + y.size ≤ 1000000) (h : K (.bytes (x ++ y))) : BinR K .Add (.bytes x) (.bytes y)
def binV (op : Operator) (a b : V) (K : V → Prop) : Prop := BinR K op a b
theorem bits64 {i : Int} (h : i.natAbs < 2 ^ 64) : Builtin.Int.intBits i ≤ 64 := intBits_le h
theorem two_pow_pos (k : Nat) : (0 : Int) < 2 ^ k := Int.pow_pos (by decide)
theorem bin_ok {op : Operator} {fz keep : Led} {s : Shared} {v w : Value} {a b : V} {K : V → Prop} (I : In C fz keep σ s) (ra : FR fz v a) (rb : FR fz w b) (h0 : binV op a b K) (hK : ∀ x, K x → Q x σ) :
    wpAny G.M C.A (binaryOp op v w) (PF C fz keep Q) C.E s := by
  cases h0 with
  | add h => refine ra.int_c fun _ => rb.int_c fun _ => ?_; exact add_int (PF.intro (.int _ _) (I.tok _) (hK _ h))
  | sub h => refine ra.int_c fun _ => rb.int_c fun _ => ?_; exact sub_int' (PF.intro (.int _ _) (I.tok _) (hK _ h))
  | mul b h => refine ra.int_c fun _ => rb.int_c fun _ => ?_; exact mul_int (PF.intro (.int _ _) (I.tok _) (hK _ h)) (IntMulOk.of_left (bits64 b))
  | div hj hj2 h =>
    refine ra.int_c fun _ => rb.int_c fun _ => ?_
    exact floordiv_int (Int.ne_of_gt hj) (PF.intro (.int _ _) (I.tok _) (by rw [Int.fdiv_eq_ediv_of_nonneg _ (Int.le_of_lt hj)]; exact hK _ h)) (.inl (PyProof.noPylong_small (by omega)))
  | mod hj hj2 h =>
    refine ra.int_c fun _ => rb.int_c fun _ => ?_
    exact mod_int' (Int.ne_of_gt hj) (PF.intro (.int _ _) (I.tok _) (by rw [Int.fmod_eq_emod_of_nonneg _ (Int.le_of_lt hj)]; exact hK _ h))
  | shl h1 h2 h3 h => refine ra.int_c fun _ => rb.int_c fun _ => ?_; exact lshift_int_small h1 h2 h3 (PF.intro (.int _ _) (I.tok _) (hK _ h))
  | shr h1 h =>
    refine ra.int_c fun _ => rb.int_c fun _ => ?_
    exact rshift_int h1 (PF.intro (.int _ _) (I.tok _) (by rw [Int.fdiv_eq_ediv_of_nonneg _ (Int.le_of_lt (two_pow_pos _))]; exact hK _ h))
  | and h => refine ra.int_c fun _ => rb.int_c fun _ => ?_; exact and_int (PF.intro (.int _ _) (I.tok _) (hK _ h))
  | or h => refine ra.int_c fun _ => rb.int_c fun _ => ?_; exact or_int (PF.intro (.int _ _) (I.tok _) (hK _ h))
  | pow h1 h2 h3 h => refine ra.int_c fun _ => rb.int_c fun _ => ?_; exact pow_int_small h1 h2 h3 (PF.intro (.int _ _) (I.tok _) (hK _ h))
  | adds b h =>
    refine ra.str_c fun _ => rb.str_c fun _ => ?_
    exact add_str (fun _ _ => PF.intro (.str _ _) (I.tok _) (hK _ h)) (by rw [sizeLine_eq]; omega)
  | addb b h =>
    refine ra.bytes_c fun _ => rb.bytes_c fun _ => ?_
    exact KBy.add_bytes (by omega) fun t' k => PF.intro (.bytes _ _) (I.tok _) (hK _ h)
end
end Mine
end
section
open PySem PySem.W PySem.Calls PyProof.Rows
set_option Elab.async false
set_option maxRecDepth 100000
set_option linter.unusedVariables false
namespace Mine
open Builtin
theorem gives_bytes_in (b : Array UInt8) (i : Int) (t u : Tok) (h0 : 0 ≤ i) (h1 : i < 256) :
    Gives («bytes.__contains__» ⟨[.bytes b t, .int i u], []⟩) (.val (.bool (b.contains i.toNat.toUInt8))) := by
  refine .of_wp fun M A E s Q hq => ?_
  show wpAny M A (Bytes.containsIn "bytes.__contains__" (.bytes b t) (.int i u) >>= fun r => _) _ E s
  refine wpAny_bind ?_
  unfold Bytes.containsIn
  refine wpAny_bind (wpAny_attempt (show wpAny M A (pure i) _ _ s from wpAny_pure ?_))
  rw [KBy.buffer_eq]
  refine wpAny_bind (wpAny_pure ?_)
  have hc : ¬ (decide (i < 0) || decide (i ≥ 256)) = true := by simp; omega
  show wpAny M A (if (decide (i < 0) || decide (i ≥ 256)) = true then _ else pure (b.contains i.toNat.toUInt8)) _ _ s
  rw [if_neg hc]
  exact wpAny_pure (wpAny_pure ⟨_, rfl, hq⟩)
inductive CmpR (K : Bool → Prop) : CmpOp → V → V → Prop
  | lt {i j} (h : K (decide (i < j))) : CmpR K .Lt (.int i) (.int j)
  | le {i j} (h : K (decide (i ≤ j))) : CmpR K .LtE (.int i) (.int j)
  | gt {i j} (h : K (decide (j < i))) : CmpR K .Gt (.int i) (.int j)
  | ge {i j} (h : K (decide (j ≤ i))) : CmpR K .GtE (.int i) (.int j)
  | eq {i j} (h : K (decide (i = j))) : CmpR K .Eq (.int i) (.int j)
  | ne {i j} (h : K (!decide (i = j))) : CmpR K .NotEq (.int i) (.int j)
  | eqs {x y} (h : K (decide (x = y))) : CmpR K .Eq (.str x) (.str y)
  | nes {x y} (h : K (!decide (x = y))) : CmpR K .NotEq (.str x) (.str y)
  | eqb {x y} (h : K (x.toList == y.toList)) : CmpR K .Eq (.bytes x) (.bytes y)
  | neb {x y} (h : K (x.toList != y.toList)) : CmpR K .NotEq (.bytes x) (.bytes y)
  | isN (h : K true) : CmpR K .Is .none .none
  | notN (h : K false) : CmpR K .IsNot .none .none
  | isI {i} (h : K false) : CmpR K .Is (.int i) .none
  | notI {i} (h : K true) : CmpR K .IsNot (.int i) .none
  | isIn {i b} (h0 : 0 ≤ i) (h1 : i < 256) (h : K (b.contains i.toNat.toUInt8)) : CmpR K .In (.int i) (.bytes b)
def cmpV (op : CmpOp) (a b : V) (K : Bool → Prop) : Prop := CmpR K op a b
section
variable {G : Gl} {C : Fc} {n : Nat} {Q : V → List V → Prop} {σ : List V}
theorem cmp_ok {op : CmpOp} {fz : Led} {s : Shared} {v w : Value} {a b : V} {K : Bool → Prop} {R : Value → Shared → Prop} (ra : FR fz v a) (rb : FR fz w b) (h0 : cmpV op a b K) (hR : ∀ c, K c → R (.bool c) s) :
    wpAny G.M C.A (compareOp op v w) R C.E s := by
  cases h0 with
  | lt h => refine ra.int_c fun _ => rb.int_c fun _ => ?_; exact lt_int (hR _ h)
  | le h => refine ra.int_c fun _ => rb.int_c fun _ => ?_; exact le_int (hR _ h)
  | gt h => refine ra.int_c fun _ => rb.int_c fun _ => ?_; exact gt_int (hR _ h)
  | ge h => refine ra.int_c fun _ => rb.int_c fun _ => ?_; exact ge_int (hR _ h)
  | eq h => refine ra.int_c fun _ => rb.int_c fun _ => ?_; exact eq_int (hR _ h)
  | ne h => refine ra.int_c fun _ => rb.int_c fun _ => ?_; exact ne_int (hR _ h)
  | eqs h => refine ra.str_c fun _ => rb.str_c fun _ => ?_; exact eq_str (hR _ h)
  | nes h => refine ra.str_c fun _ => rb.str_c fun _ => ?_; exact ne_str (hR _ h)
  | eqb h => refine ra.bytes_c fun _ => rb.bytes_c fun _ => ?_; exact eq_bytes (hR _ h)
  | neb h => refine ra.bytes_c fun _ => rb.bytes_c fun _ => ?_; exact ne_bytes (hR _ h)
  | isN h => refine ra.none_c (rb.none_c ?_); exact is_none (hR _ h)
  | notN h => refine ra.none_c (rb.none_c ?_); exact isNot_none (hR _ h)
  | isI h => refine ra.int_c fun _ => rb.none_c ?_; exact is_none (hR _ h)
  | notI h => refine ra.int_c fun _ => rb.none_c ?_; exact isNot_none (hR _ h)
  | isIn h0 h1 h => refine ra.int_c fun _ => rb.bytes_c fun _ => ?_; exact in_gives (typeIs_bytes s _ _) FB.slot_bytes_contains FB.entry_bytes_contains (FB.args_bytes_contains_2 _ _) (gives_bytes_in _ _ _ _ h0 h1) (hR _ h)
@[reducible] def kV (Q : V → List V → Prop) (σ : List V) (x : V) : Prop := Q x σ
@[reducible] def kVb (Q : V → List V → Prop) (σ : List V) (c : Bool) : Prop := Q (.bool c) σ
@[reducible] def kB (Q : Bool → List V → Prop) (σ : List V) (c : Bool) : Prop := Q c σ
@[reducible] def kBin2 (op : Operator) (a : V) (Q : V → List V → Prop) (b : V) (σ : List V) : Prop := binV op a b (kV Q σ)
@[reducible] def kBin (G : Gl) (C : Fc) (n : Nat) (r : Expr) (op : Operator) (Q : V → List V → Prop) (a : V) (σ : List V) : Prop := wF G C n r (kBin2 op a Q) σ
@[reducible] def kCmp2 (op : CmpOp) (a : V) (Q : V → List V → Prop) (b : V) (σ : List V) : Prop := cmpV op a b (kVb Q σ)
@[reducible] def kCmp (G : Gl) (C : Fc) (n : Nat) (r : Expr) (op : CmpOp) (Q : V → List V → Prop) (a : V) (σ : List V) : Prop := wF G C n r (kCmp2 op a Q) σ
@[reducible] def kTst2 (op : CmpOp) (a : V) (Q : Bool → List V → Prop) (b : V) (σ : List V) : Prop := cmpV op a b (kB Q σ)
@[reducible] def kTst (G : Gl) (C : Fc) (n : Nat) (r : Expr) (op : CmpOp) (Q : Bool → List V → Prop) (a : V) (σ : List V) : Prop := wF G C n r (kTst2 op a Q) σ
@[reducible] def kLk3 (G : Gl) (C : Fc) (n : Nat) (b : V) (r2 : Expr) (o2 : CmpOp) (Q : Bool → List V → Prop) (σ : List V) (c : Bool) : Prop := (c = false → Q false σ) ∧ (c = true → wF G C n r2 (kTst2 o2 b Q) σ)
@[reducible] def kLk2 (G : Gl) (C : Fc) (n : Nat) (o1 : CmpOp) (a : V) (r2 : Expr) (o2 : CmpOp) (Q : Bool → List V → Prop) (b : V) (σ : List V) : Prop := cmpV o1 a b (kLk3 G C n b r2 o2 Q σ)
@[reducible] def kLk (G : Gl) (C : Fc) (n : Nat) (r1 : Expr) (o1 : CmpOp) (r2 : Expr) (o2 : CmpOp) (Q : Bool → List V → Prop) (a : V) (σ : List V) : Prop := wF G C n r1 (kLk2 G C n o1 a r2 o2 Q) σ
@[reducible] def kNot (Q : Bool → List V → Prop) (b : Bool) (σ : List V) : Prop := Q (!b) σ
@[reducible] def kIfF (G : Gl) (C : Fc) (n : Nat) (a b : Expr) (Q : V → List V → Prop) (c : Bool) (σ : List V) : Prop := (c = true → wF G C n a Q σ) ∧ (c = false → wF G C n b Q σ)
@[reducible] def kVal (Q : Bool → List V → Prop) (v : V) (σ : List V) : Prop := ∃ b, v = .bool b ∧ Q b σ
theorem wF_bin {op : Operator} {l r : Expr} {pos : Pos} (h : wF G C n l (kBin G C n r op Q) σ) : wF G C n (.BinOp l op r pos) Q σ := fun ok fz keep s i => by
  refine wpAny_BinOp (wpAny_mono (h ok fz keep s i) (fun v s1 ⟨a, σ1, f1, s1', ra, i1, q1⟩ => ?_) fun _ _ x => x)
  refine wpAny_mono (q1 ok f1 keep s1 i1) (fun w s2 ⟨b, σ2, f2, s2', rb, i2, q2⟩ => ?_) fun _ _ x => x
  exact wpAny_mono (bin_ok (Q := Q) i2 (ra.mono s2') rb q2 fun _ h => h) (fun _ _ p => p.le (s1'.trans s2')) fun _ _ x => x
theorem wF_cmp {op : CmpOp} {l r : Expr} {pos : Pos} (h : wF G C n l (kCmp G C n r op Q) σ) (hm : Pl (behindInMarks op r = false)) :
    wF G C n (.Compare l [op] [r] pos) Q σ := fun ok fz keep s i => by
  refine wpAny_Compare1 (wpAny_mono (h ok fz keep s i) (fun v s1 ⟨a, σ1, f1, s1', ra, i1, q1⟩ => ?_) fun _ _ x => x) hm
  refine wpAny_mono (q1 ok f1 keep s1 i1) (fun w s2 ⟨b, σ2, f2, s2', rb, i2, q2⟩ => ?_) fun _ _ x => x
  exact cmp_ok (ra.mono s2') rb q2 fun c q => ⟨.bool c, σ2, f2, s1'.trans s2', .bool c, i2, q⟩
theorem wT_cmp {op : CmpOp} {l r : Expr} {pos : Pos} {Q : Bool → List V → Prop} (h : wF G C n l (kTst G C n r op Q) σ) (hm : Pl (behindInMarks op r = false)) :
    wT G C n (.Compare l [op] [r] pos) Q σ := fun ok fz keep s i => by
  refine wpAny_isTrue_Compare1 (wpAny_mono (h ok fz keep s i) (fun v s1 ⟨a, σ1, f1, s1', ra, i1, q1⟩ => ?_) fun _ _ x => x) hm
  refine wpAny_mono (q1 ok f1 keep s1 i1) (fun w s2 ⟨b, σ2, f2, s2', rb, i2, q2⟩ => ?_) fun _ _ x => x
  exact cmp_ok (ra.mono s2') rb q2 fun c q => wpAny_truthy_bool ⟨σ2, f2, s1'.trans s2', i2, q⟩
theorem wT_cmp2 {o1 o2 : CmpOp} {l r1 r2 : Expr} {pos : Pos} {Q : Bool → List V → Prop}
    (h : wF G C n l (kLk G C n r1 o1 r2 o2 Q) σ) (hm : Pl (lastMarks [o1, o2] [r1, r2] = false)) :
    wT G C n (.Compare l [o1, o2] [r1, r2] pos) Q σ := fun ok fz keep s i => by
  refine isTrue_chain (wpAny_mono (h ok fz keep s i) (fun v s1 ⟨a, σ1, f1, s1', ra, i1, q1⟩ => ?_) fun _ _ x => x) hm
  refine test_link (wpAny_mono (q1 ok f1 keep s1 i1) (fun w s2 ⟨b, σ2, f2, s2', rb, i2, q2⟩ => ?_) fun _ _ x => x)
  refine cmp_ok (ra.mono s2') rb q2 fun c q => wpAny_truthy_bool ?_
  cases c with
  | false => exact ⟨σ2, f2, s1'.trans s2', i2, q.1 rfl⟩
  | true =>
    refine test_last (wpAny_mono (q.2 rfl ok f2 keep s2 i2) (fun z s3 ⟨d, σ3, f3, s3', rd, i3, q3⟩ => ?_) fun _ _ x => x)
    exact cmp_ok (rb.mono s3') rd q3 fun c q => wpAny_truthy_bool ⟨σ3, f3, (s1'.trans s2').trans s3', i3, q⟩
theorem wT_not {e : Expr} {pos : Pos} {Q : Bool → List V → Prop} (h : wT G C n e (kNot Q) σ) : wT G C n (.UnaryOp .Not e pos) Q σ := fun ok fz keep s i =>
  wpAny_isTrue_Not (wpAny_mono (h ok fz keep s i) (fun _ _ ⟨σ1, f1, s1', i1, q1⟩ => ⟨σ1, f1, s1', i1, q1⟩) fun _ _ x => x)
def wAnd (G : Gl) (C : Fc) (n : Nat) (es : List Expr) (Q : Bool → List V → Prop) (σ : List V) : Prop :=
  Ok G C n → ∀ fz keep s, In C fz keep σ s → wpAny G.M C.A (allTrue .And es C.env) (PT C fz keep Q) C.E s
def wOr (G : Gl) (C : Fc) (n : Nat) (es : List Expr) (Q : Bool → List V → Prop) (σ : List V) : Prop :=
  Ok G C n → ∀ fz keep s, In C fz keep σ s → wpAny G.M C.A (allTrue .Or es C.env) (PT C fz keep Q) C.E s
@[reducible] def kAnd (G : Gl) (C : Fc) (n : Nat) (es : List Expr) (Q : Bool → List V → Prop) (b : Bool) (σ : List V) : Prop := (b = false → Q false σ) ∧ (b = true → wAnd G C n es Q σ)
@[reducible] def kOr (G : Gl) (C : Fc) (n : Nat) (es : List Expr) (Q : Bool → List V → Prop) (b : Bool) (σ : List V) : Prop := (b = true → Q true σ) ∧ (b = false → wOr G C n es Q σ)
@[reducible] def kAnd2 (G : Gl) (C : Fc) (n : Nat) (b : Expr) (Q : V → List V → Prop) (v : V) (σ : List V) : Prop := ∃ c, v = .bool c ∧ (c = true → wF G C n b Q σ) ∧ (c = false → Q (.bool false) σ)
theorem kVal_i {Q : Bool → List V → Prop} {b : Bool} (q : Q b σ) : kVal Q (.bool b) σ := ⟨b, rfl, q⟩
theorem kAnd2_i {b : Expr} {c : Bool} (q : (c = true → wF G C n b Q σ) ∧ (c = false → Q (.bool false) σ)) : kAnd2 G C n b Q (.bool c) σ := ⟨c, rfl, q⟩
theorem wT_and {es : List Expr} {pos : Pos} {Q : Bool → List V → Prop} (h : wAnd G C n es Q σ) : wT G C n (.BoolOp .And es pos) Q σ := fun ok fz keep s i => wpAny_isTrue_BoolOp (h ok fz keep s i)
theorem wT_or {es : List Expr} {pos : Pos} {Q : Bool → List V → Prop} (h : wOr G C n es Q σ) : wT G C n (.BoolOp .Or es pos) Q σ := fun ok fz keep s i => wpAny_isTrue_BoolOp (h ok fz keep s i)
theorem wAnd_nil {Q : Bool → List V → Prop} (h : Q true σ) : wAnd G C n [] Q σ := fun _ fz _ _ i => wpAny_allTrue_And_nil ⟨σ, fz, Sub.rfl, i, h⟩
theorem wOr_nil {Q : Bool → List V → Prop} (h : Q false σ) : wOr G C n [] Q σ := fun _ fz _ _ i => wpAny_allTrue_Or_nil ⟨σ, fz, Sub.rfl, i, h⟩
theorem wAnd_cons {e : Expr} {es : List Expr} {Q : Bool → List V → Prop} (h : wT G C n e (kAnd G C n es Q) σ) : wAnd G C n (e :: es) Q σ := fun ok fz keep s i =>
  wpAny_allTrue_And_cons (wpAny_mono (h ok fz keep s i) (fun b s1 ⟨σ1, f1, s1', i1, q1⟩ => by
    cases b with
    | false => exact ⟨σ1, f1, s1', i1, q1.1 rfl⟩
    | true => exact wpAny_mono (q1.2 rfl ok f1 keep s1 i1) (fun _ _ p => p.le s1') fun _ _ x => x) fun _ _ x => x)
theorem wOr_cons {e : Expr} {es : List Expr} {Q : Bool → List V → Prop} (h : wT G C n e (kOr G C n es Q) σ) : wOr G C n (e :: es) Q σ := fun ok fz keep s i =>
  wpAny_allTrue_Or_cons (wpAny_mono (h ok fz keep s i) (fun b s1 ⟨σ1, f1, s1', i1, q1⟩ => by
    cases b with
    | true => exact ⟨σ1, f1, s1', i1, q1.1 rfl⟩
    | false => exact wpAny_mono (q1.2 rfl ok f1 keep s1 i1) (fun _ _ p => p.le s1') fun _ _ x => x) fun _ _ x => x)
theorem truthy_ok {fz keep : Led} {s : Shared} {v : Value} {b : Bool} {σ' : List V} {f1 : Led} (s1' : Sub fz f1) {Q : Bool → List V → Prop} (r : FR f1 v (.bool b)) (i : In C f1 keep σ' s) (q : Q b σ') : wpAny G.M C.A (truthy v) (PT C fz keep Q) C.E s := by
  exact r.bool_c (wpAny_truthy_bool ⟨σ', f1, s1', i, q⟩)
theorem wT_val {e : Expr} {Q : Bool → List V → Prop} (h : wF G C n e (kVal Q) σ) (he : ∀ whole, isTrue e C.env whole = (do let v ← whole; standAt e.pos; holding [v] (truthy v))) : wT G C n e Q σ := fun ok fz keep s i =>
  wpAny_isTrue_value (wpAny_mono (h ok fz keep s i) (fun v s1 ⟨x, σ1, f1, s1', r, i1, b, e, q⟩ => truthy_ok s1' (e ▸ r) i1 q) fun _ _ x => x) (he _)
theorem wT_name {x : Str} {pos : Pos} {Q : Bool → List V → Prop} (h : wF G C n (.Name x pos) (kVal Q) σ) : wT G C n (.Name x pos) Q σ := wT_val h fun _ => rfl
theorem wT_call {f : Expr} {as : List Expr} {ks : List Keyword} {pos : Pos} {Q : Bool → List V → Prop} (h : wF G C n (.Call f as ks pos) (kVal Q) σ) : wT G C n (.Call f as ks pos) Q σ := wT_val h fun _ => rfl
theorem wF_neg {i : Int} {k : Nat} {p pos : Pos} (q : Q (.int (-i)) σ) : wF G C n (.UnaryOp .USub (.Constant (.int i) k p) pos) Q σ := fun _ _ _ _ I =>
  wpAny_UnaryOp (wpAny_Constant_int (neg_int (PF.intro (.int _ _) ((I.tok _).tok _) q)))
theorem wF_if {t a b : Expr} {pos : Pos} (h : wT G C n t (kIfF G C n a b Q) σ) : wF G C n (.IfExp t a b pos) Q σ := fun ok fz keep s i =>
  wpAny_IfExp (wpAny_mono (h ok fz keep s i) (fun c s1 ⟨σ1, f1, s1', i1, q1⟩ => by
    cases c with
    | true => exact wpAny_mono (q1.1 rfl ok f1 keep s1 i1) (fun _ _ p => p.le s1') fun _ _ x => x
    | false => exact wpAny_mono (q1.2 rfl ok f1 keep s1 i1) (fun _ _ p => p.le s1') fun _ _ x => x) fun _ _ x => x)
theorem wF_and2 {a b : Expr} {pos : Pos} (h : wF G C n a (kAnd2 G C n b Q) σ) : wF G C n (.BoolOp .And [a, b] pos) Q σ := fun ok fz keep s i =>
  wpAny_And2 (wpAny_mono (h ok fz keep s i) (fun v s1 ⟨x, σ1, f1, s1', r, i1, c, e, q1⟩ => by
    subst e
    refine r.bool_c (wpAny_truthy_bool ?_)
    cases c with
    | true => exact wpAny_mono (q1.1 rfl ok f1 keep s1 i1) (fun _ _ p => p.le s1') fun _ _ x => x
    | false => exact ⟨_, σ1, f1, s1', .bool false, i1, q1.2 rfl⟩) fun _ _ x => x)
end
end Mine
end
section
open PySem PySem.W PySem.Calls PyProof.Rows
set_option Elab.async false
set_option maxRecDepth 100000
set_option linter.unusedVariables false
namespace Mine
open Builtin
theorem In.perm {C : Fc} {fz keep keep' : Led} {σ : List V} {s : Shared} (i : In C fz keep σ s) (h : keep.Perm keep') : In C fz keep' σ s := by
  obtain ⟨m, ol, F, L, N, D, e⟩ := i
  have P : (ol ++ keep).Perm (ol ++ keep') := h.append_left ol
  exact ⟨m, ol, F, L, fun p hp => N p ((List.mem_append.mp hp).elim (fun h => List.mem_append_left _ (P.mem_iff.mpr h)) fun h => List.mem_append_right _ h), D.perm P, e⟩
section
variable {G : Gl} {C : Fc} {n : Nat} {σ : List V}
theorem store_val {fz keep : Led} {s : Shared} {x : Str} {k : Nat} {v : Value} {y : V} {σ' : List V} {R : Unit → Shared → Prop} (ok : Ok G C n) (i : In C fz keep σ s) (hp : Put C.names σ x k y σ') (r : FR fz v y)
    (h : ∀ s', In C fz keep σ' s' → R () s') : wpAny G.M C.A (storeName C.env x v) R C.E s := by
  obtain ⟨m, ol, F, L, N, D, hh, tt, e⟩ := i
  have hl := ok.loc x (List.mem_of_getElem? hp.names)
  refine storeX_L F N (fun h' F' N' => h _ ?_) ok.hk hl.1
  obtain ⟨ol', sub, h1, _, _⟩ := L.put (m' := fun y => if y = x then some v else m y) ok.nodup hp.names (fun y hy => by simp [hy])
  rw [hp.eq]
  refine ⟨_, ol', F', h1 v y (by simp) r, fun p hp => N' p ?_, D.sub (sub.append_right keep), h', s.toks + 1, by rw [e]⟩
  rcases List.mem_append.mp hp with q | q
  · exact List.mem_append_left _ ((sub.append_right keep).subset q)
  · exact List.mem_append_right _ q
theorem store_own {fz keep : Led} {s : Shared} {x : Str} {k : Nat} {a : Addr} {o : Obj} {ys : List V} {σ' : List V} {R : Unit → Shared → Prop} (ok : Ok G C n) (i : In C fz ((a, o) :: keep) σ s) (hp : Put C.names σ x k (.own a ys) σ') (r : LO fz o ys)
    (h : ∀ s', In C fz keep σ' s' → R () s') : wpAny G.M C.A (storeName C.env x (.ref a)) R C.E s := by
  obtain ⟨m, ol, F, L, N, D, hh, tt, e⟩ := i
  have hl := ok.loc x (List.mem_of_getElem? hp.names)
  refine storeX_L F N (fun h' F' N' => h _ ?_) ok.hk hl.1
  obtain ⟨ol', sub, _, _, h3⟩ := L.put (m' := fun y => if y = x then some (.ref a) else m y) ok.nodup hp.names (fun y hy => by simp [hy])
  obtain ⟨ol'', p1, q1⟩ := h3 a o ys (by simp) r
  rw [hp.eq]
  have P : (ol' ++ (a, o) :: keep).Perm (ol'' ++ keep) := List.perm_middle.trans (p1.symm.append_right keep)
  have D2 := (D.sub (sub.append_right ((a, o) :: keep))).perm P
  refine ⟨_, ol'', F', q1, fun p hp => N' p ?_, D2, h', s.toks + 1, by rw [e]⟩
  rcases List.mem_append.mp hp with q | q
  · exact List.mem_append_left _ ((sub.append_right _).subset (P.mem_iff.mpr q))
  · exact List.mem_append_right _ q
@[reducible] def kAsg (C : Fc) (x : Str) (Q : Fl → List V → Prop) (v : V) (σ1 : List V) : Prop := ∃ k σ2, Put C.names σ1 x k v σ2 ∧ Q .next σ2
@[reducible] def kAsgO (C : Fc) (x : Str) (Q : Fl → List V → Prop) (a : Addr) (ys : List V) (σ1 : List V) : Prop := ∃ k σ2, Put C.names σ1 x k (.own a ys) σ2 ∧ Q .next σ2
@[reducible] def kAug2 (C : Fc) (x : Str) (Q : Fl → List V → Prop) (σ1 : List V) (r : V) : Prop := ∃ k σ2, Put C.names σ1 x k r σ2 ∧ Q .next σ2
@[reducible] def kAug (C : Fc) (x : Str) (op : Operator) (i : Int) (Q : Fl → List V → Prop) (b : V) (σ1 : List V) : Prop := binV op (.int i) b (kAug2 C x Q σ1)
@[reducible] def kIfS (G : Gl) (C : Fc) (n : Nat) (a b : List Stmt) (Q : Fl → List V → Prop) (c : Bool) (σ1 : List V) : Prop := (c = true → wS G C n a Q σ1) ∧ (c = false → wS G C n b Q σ1)
@[reducible] def kRet (Q : Fl → List V → Prop) (v : V) (σ1 : List V) : Prop := Q (.ret v) σ1
@[reducible] def kSeq (G : Gl) (C : Fc) (n : Nat) (ss : List Stmt) (Q : Fl → List V → Prop) (f : Fl) (σ1 : List V) : Prop := match f with
  | .next => wS G C n ss Q σ1
  | f => Q f σ1
@[reducible] def kTurn (I : Nat → List V → Prop) (Q : Fl → List V → Prop) (k : Nat) (f : Fl) (σ2 : List V) : Prop := match f with
  | .next | .cont => ∃ j, j < k ∧ I j σ2
  | .brk => Q .next σ2
  | .ret v => Q (.ret v) σ2
@[reducible] def kWhl (G : Gl) (C : Fc) (n : Nat) (body orelse : List Stmt) (I : Nat → List V → Prop) (Q : Fl → List V → Prop) (k : Nat) (c : Bool) (σ1 : List V) : Prop := (c = true → wS G C n body (kTurn I Q k) σ1) ∧ (c = false → wS G C n orelse Q σ1)
theorem kAsg_i {x : Str} {Q : Fl → List V → Prop} {v : V} {k : Nat} {σ2 : List V} (h : Put C.names σ x k v σ2) (q : Q .next σ2) : kAsg C x Q v σ := ⟨k, σ2, h, q⟩
theorem kAsgO_i {x : Str} {Q : Fl → List V → Prop} {a : Addr} {ys : List V} {k : Nat} {σ2 : List V} (h : Put C.names σ x k (.own a ys) σ2) (q : Q .next σ2) : kAsgO C x Q a ys σ := ⟨k, σ2, h, q⟩
theorem kAug2_i {x : Str} {Q : Fl → List V → Prop} {v : V} {k : Nat} {σ2 : List V} (h : Put C.names σ x k v σ2) (q : Q .next σ2) : kAug2 C x Q σ v := ⟨k, σ2, h, q⟩
theorem kIfS_p {p : Prop} [Decidable p] {a b : List Stmt} {Q : Fl → List V → Prop} (h1 : p → wS G C n a Q σ) (h2 : ¬ p → wS G C n b Q σ) : kIfS G C n a b Q (decide p) σ := ⟨fun h => h1 (of_decide_eq_true h), fun h => h2 (of_decide_eq_false h)⟩
theorem kIfS_n {p : Prop} [Decidable p] {a b : List Stmt} {Q : Fl → List V → Prop} (h1 : ¬ p → wS G C n a Q σ) (h2 : p → wS G C n b Q σ) : kIfS G C n a b Q (!decide p) σ := ⟨fun h => h1 (by simpa using h), fun h => h2 (by simpa using h)⟩
theorem kIfS_t {a b : List Stmt} {Q : Fl → List V → Prop} (h : wS G C n a Q σ) : kIfS G C n a b Q true σ := ⟨fun _ => h, fun e => nomatch e⟩
theorem kIfS_f {a b : List Stmt} {Q : Fl → List V → Prop} (h : wS G C n b Q σ) : kIfS G C n a b Q false σ := ⟨(fun e => nomatch e), fun _ => h⟩
theorem wX_assign {x : Str} {p pos : Pos} {e : Expr} {Q : Fl → List V → Prop} (h : wF G C n e (kAsg C x Q) σ)
    (hs : Pl (swapsWith e (some (.Name x p)) pos.line C.env = pure false)) : wX G C n (.Assign [.Name x p] e pos) Q σ := fun ok fz keep s i =>
  wpAny_Assign_Name (wpAny_mono (h ok fz keep s i) (fun v s1 ⟨y, σ1, f1, s1', r, i1, k, σ2, hp, q⟩ => store_val ok i1 hp r fun s' i' => ⟨σ2, f1, s1', i', q⟩) fun _ _ x => x) hs
theorem wX_assignO {x : Str} {p pos : Pos} {e : Expr} {Q : Fl → List V → Prop} (h : wO G C n e (kAsgO C x Q) σ)
    (hs : Pl (swapsWith e (some (.Name x p)) pos.line C.env = pure false)) : wX G C n (.Assign [.Name x p] e pos) Q σ := fun ok fz keep s i =>
  wpAny_Assign_Name (wpAny_mono (h ok fz keep s i) (fun v s1 ⟨a, ys, o, σ1, f1, s1', e, l, i1, k, σ2, hp, q⟩ => by subst e; exact store_own ok i1 hp l fun s' i' => ⟨σ2, f1, s1', i', q⟩) fun _ _ x => x) hs
theorem iadd_ok0 {op : Operator} {fz keep : Led} {s : Shared} {v w : Value} {a b : V} {K : V → Prop} {R : Value → Shared → Prop} (I : In C fz keep σ s) (ra : FR fz v a) (rb : FR fz w b) (h0 : binV op a b K) (ho : op = .Add ∨ op = .Sub ∨ op = .Mod ∨ op = .RShift ∨ op = .BitOr) (ha : ∃ i, a = .int i)
    (hK : ∀ x t v, K x → FR fz v x → R v { s with toks := t }) : wpAny G.M C.A (inplaceOp op v w) R C.E s := by
  cases h0 with
  | add h => exact ra.int_c fun _ => rb.int_c fun _ => iadd_int (hK _ _ _ h (.int _ _))
  | sub h => exact ra.int_c fun _ => rb.int_c fun _ => isub_int (hK _ _ _ h (.int _ _))
  | mod h1 h2 h => exact ra.int_c fun _ => rb.int_c fun _ => imod_int (Int.ne_of_gt h1) (hK _ _ _ h (by rw [Int.fmod_eq_emod_of_nonneg _ (Int.le_of_lt h1)]; exact .int _ _))
  | shr h1 h => exact ra.int_c fun _ => rb.int_c fun _ => irshift_int h1 (hK _ _ _ h (by rw [Int.fdiv_eq_ediv_of_nonneg _ (Int.le_of_lt (two_pow_pos _))]; exact .int _ _))
  | or h => exact ra.int_c fun _ => rb.int_c fun _ => ior_int (hK _ _ _ h (.int _ _))
  | adds | addb => exact nomatch ha
  | mul | div | shl | and | pow => exact absurd ho (by decide)
theorem iadd_ok {op : Operator} {fz keep : Led} {s : Shared} {v w : Value} {i : Int} {b : V} {K : V → Prop} {R : Value → Shared → Prop} (I : In C fz keep σ s) (ra : FR fz v (.int i)) (rb : FR fz w b) (h0 : binV op (.int i) b K) (ho : op = .Add ∨ op = .Sub ∨ op = .Mod ∨ op = .RShift ∨ op = .BitOr)
    (hK : ∀ x t v, K x → FR fz v x → R v { s with toks := t }) : wpAny G.M C.A (inplaceOp op v w) R C.E s := iadd_ok0 I ra rb h0 ho ⟨_, rfl⟩ hK
theorem wX_aug {x : Str} {p pos : Pos} {op : Operator} {e : Expr} {Q : Fl → List V → Prop} {k : Nat} {i : Int} (ha : At C.names σ x k (.int i)) (ho : Pl (decide (op = .Add ∨ op = .Sub ∨ op = .Mod ∨ op = .RShift ∨ op = .BitOr) = true))
    (h : wF G C n e (kAug C x op i Q) σ) : wX G C n (.AugAssign (.Name x p) op e pos) Q σ := fun ok fz keep s I => by
  obtain ⟨m, v', F, e1, r⟩ := I.val ha rfl
  have hl := ok.loc x (List.mem_of_getElem? ha.names)
  refine wpAny_AugAssign_Name (wpAny_loadName_local ok.hk hl.1 F.ns e1 ?_)
  refine wpAny_mono (h ok fz keep s I) (fun w s1 ⟨b, σ1, f1, s1', rb, i1, q⟩ => ?_) fun _ _ x => x
  exact iadd_ok i1 (r.mono s1') rb q (of_decide_eq_true ho) fun y t v ⟨k', σ2, hp, q'⟩ hy => store_val ok (i1.tok t) hp hy fun s' i' => ⟨σ2, f1, s1', i', q'⟩
theorem wX_if {t : Expr} {a b : List Stmt} {pos : Pos} {Q : Fl → List V → Prop} (h : wT G C n t (kIfS G C n a b Q) σ) : wX G C n (.If t a b pos) Q σ := fun ok fz keep s i =>
  wpAny_If (wpAny_mono (h ok fz keep s i) (fun c s1 ⟨σ1, f1, s1', i1, q1⟩ => by
    cases c with
    | true => exact wpAny_mono (q1.1 rfl ok f1 keep s1 i1) (fun _ _ p => p.le s1') fun _ _ x => x
    | false => exact wpAny_mono (q1.2 rfl ok f1 keep s1 i1) (fun _ _ p => p.le s1') fun _ _ x => x) fun _ _ x => x)
theorem wX_ret {e : Expr} {pos : Pos} {Q : Fl → List V → Prop} (h : wF G C n e (kRet Q) σ) : wX G C n (.Return (some e) pos) Q σ := fun ok fz keep s i =>
  wpAny_Return_some (wpAny_mono (h ok fz keep s i) (fun v s1 ⟨x, σ1, f1, s1', r, i1, q⟩ => ⟨σ1, f1, s1', i1, x, r, q⟩) fun _ _ x => x)
theorem wX_cont {pos : Pos} {Q : Fl → List V → Prop} (h : Q .cont σ) : wX G C n (.Continue pos) Q σ := fun _ fz _ _ i => wpAny_Continue ⟨σ, fz, Sub.rfl, i, h⟩
theorem wX_pass {pos : Pos} {Q : Fl → List V → Prop} (h : Q .next σ) : wX G C n (.Pass pos) Q σ := fun _ fz _ _ i => wpAny_Pass ⟨σ, fz, Sub.rfl, i, h⟩
theorem wS_nil {Q : Fl → List V → Prop} (h : Q .next σ) : wS G C n [] Q σ := fun _ fz _ _ i => wpAny_execs_nil ⟨σ, fz, Sub.rfl, i, h⟩
theorem wS_cons {st : Stmt} {ss : List Stmt} {Q : Fl → List V → Prop} (h : wX G C n st (kSeq G C n ss Q) σ) : wS G C n (st :: ss) Q σ := fun ok fz keep s i =>
  wpAny_execs_cons (wpAny_mono (h ok fz keep s i) (fun f s1 ⟨σ1, f1, s1', i1, q⟩ => by
    cases f with
    | next => exact wpAny_mono (q ok f1 keep s1 i1) (fun _ _ p => p.le s1') fun _ _ x => x
    | brk => exact ⟨σ1, f1, s1', i1, q⟩
    | cont => exact ⟨σ1, f1, s1', i1, q⟩
    | ret v => exact ⟨σ1, f1, s1', i1, q⟩) fun _ _ x => x)
theorem wX_while {t : Expr} {body orelse : List Stmt} {pos : Pos} {Q : Fl → List V → Prop} (hE : C.E = fun _ _ => False) (I : Nat → List V → Prop)
    (turn : ∀ k σ, I k σ → wT G C n t (kWhl G C n body orelse I Q k) σ)
    (k : Nat) (h : I k σ) : wX G C n (.While t body orelse pos) Q σ := fun ok fz keep s i => by
  refine wpAny_While (codeAny_whileLoop (fun k s' => ∃ σ' f', Sub fz f' ∧ In C f' keep σ' s' ∧ I k σ') (fun k s' ⟨σ', f', sub, i', hI⟩ => ?_) k ⟨σ, fz, Sub.rfl, i, h⟩)
  have nE : ∀ (R : Value → Shared → Prop), ∀ e s', C.E e s' → R e s' := fun R e s' h => by rw [hE] at h; exact h.elim
  refine wpAny_mono (turn k σ' hI ok f' keep s' i') (fun c s1 ⟨σ1, f1, s1', i1, q⟩ => ?_) (nE _)
  cases c with
  | false =>
    refine wpAny_mono (q.2 rfl ok f1 keep s1 i1) (fun f s2 p => ?_) (nE _)
    exact p.le (sub.trans s1')
  | true =>
    refine wpAny_mono (q.1 rfl ok f1 keep s1 i1) (fun f s2 ⟨σ2, f2, s2', i2, q2⟩ => ?_) (nE _)
    cases f with
    | next => obtain ⟨j, hj, hI'⟩ := q2; exact ⟨j, hj, σ2, f2, (sub.trans s1').trans s2', i2, hI'⟩
    | cont => obtain ⟨j, hj, hI'⟩ := q2; exact ⟨j, hj, σ2, f2, (sub.trans s1').trans s2', i2, hI'⟩
    | brk => exact ⟨σ2, f2, (sub.trans s1').trans s2', i2, q2⟩
    | ret v => exact ⟨σ2, f2, (sub.trans s1').trans s2', i2, q2⟩
end
end Mine
end
section
open PySem PySem.W PySem.Calls PyProof.Rows
set_option Elab.async false
set_option maxRecDepth 100000
set_option linter.unusedVariables false
namespace Mine
open Builtin
theorem In.ext {C : Fc} {fz keep : Led} {σ : List V} {s : Shared} (i : In C fz keep σ s) {h' : Heap} {t : Nat} (hx : Heap.ExtBut s.heap.objs.size s.heap h') : In C fz keep σ { s with heap := h', toks := t } :=
  i.keeps fun b o e => hx b o (Nat.ne_of_lt (Heap.lt_size e)) e
theorem In.swap {C : Fc} {fz keep tl tl' : Led} {σ : List V} {s : Shared} (i : In C fz (tl ++ keep) σ s) {h' : Heap} {t : Nat}
    (hk : ∀ b o, b ∉ tl.map (·.1) → s.heap.get? b = some o → h'.get? b = some o) (ha : tl'.map (·.1) = tl.map (·.1)) (ho : ∀ p ∈ tl', h'.get? p.1 = some p.2) : In C fz (tl' ++ keep) σ { s with heap := h', toks := t } := by
  obtain ⟨m, ol, F, L, N, D, hh, tt, e⟩ := i
  have P : (ol ++ (tl ++ keep)).Perm (tl ++ (ol ++ keep)) := by
    rw [← List.append_assoc, ← List.append_assoc]; exact (List.perm_append_comm).append_right keep
  have P' : (ol ++ (tl' ++ keep)).Perm (tl' ++ (ol ++ keep)) := by
    rw [← List.append_assoc, ← List.append_assoc]; exact (List.perm_append_comm).append_right keep
  have D' := D.perm P
  have inN : ∀ p ∈ tl, p ∈ ol ++ (tl ++ keep) ++ fz := fun p hp => List.mem_append_left _ (List.mem_append_right _ (List.mem_append_left _ hp))
  have back : ∀ b ∈ tl.map (·.1), b ≠ C.L ∧ C.h₀.get? b = none := fun b hb => by
    obtain ⟨p, hp, rfl⟩ := List.mem_map.mp hb
    exact (N p (inN p hp)).2
  have nd := D'.1
  rw [List.map_append] at nd
  have apart : ∀ p ∈ ol ++ keep, p.1 ∉ tl.map (·.1) := fun p hp hm => (List.nodup_append.mp nd).2.2 _ hm _ (List.mem_map_of_mem hp) rfl
  have apartF : ∀ p ∈ fz, p.1 ∉ tl.map (·.1) := fun p hp hm => by
    obtain ⟨q, hq, e⟩ := List.mem_map.mp hm
    exact D'.2 q (List.mem_append_left _ hq) p hp e
  refine ⟨m, ol, ⟨F.ns.at' fun o e => hk _ o (fun hm => (back _ hm).1 rfl) e, fun b o e => hk b o (fun hm => ?_) (F.keep b o e), F.above⟩, L, fun p hp => ?_, Dis.perm P'.symm ⟨?_, fun p hp q hq => ?_⟩, h', t, by rw [e]⟩
  · rw [(back _ hm).2] at e; cases e
  · have old : ∀ p ∈ ol ++ (tl ++ keep) ++ fz, p.1 ∉ tl.map (·.1) → h'.get? p.1 = some p.2 ∧ p.1 ≠ C.L ∧ C.h₀.get? p.1 = none := fun p hp hne => ⟨hk _ _ hne (N p hp).1, (N p hp).2⟩
    rcases List.mem_append.mp hp with q | q
    · rcases List.mem_append.mp (P'.mem_iff.mp q) with q | q
      · exact ⟨ho p q, back _ (ha ▸ List.mem_map_of_mem q)⟩
      · exact old p (List.mem_append_left _ (P.mem_iff.mpr (List.mem_append_right _ q))) (apart p q)
    · exact old p (List.mem_append_right _ q) (apartF p q)
  · rw [List.map_append, ha]; exact nd
  · rcases List.mem_append.mp hp with q' | q'
    · have hm : p.1 ∈ tl.map (·.1) := ha ▸ List.mem_map_of_mem q'
      exact fun e => apartF q hq (e ▸ hm)
    · exact D'.2 p (List.mem_append_right _ q') q hq
theorem In.drop {C : Fc} {fz keep tl : Led} {σ : List V} {s : Shared} (i : In C fz (tl ++ keep) σ s) : In C fz keep σ s := by
  obtain ⟨m, ol, F, L, N, D, e⟩ := i
  have sub : (ol ++ keep).Sublist (ol ++ (tl ++ keep)) := (List.sublist_append_right tl keep).append_left ol
  exact ⟨m, ol, F, L, fun p hp => N p ((List.mem_append.mp hp).elim (fun h => List.mem_append_left _ (sub.subset h)) fun h => List.mem_append_right _ h), D.sub sub, e⟩
section
variable {G : Gl} {C : Fc} {n : Nat} {σ : List V}
theorem FR.isTup {fz keep : Led} {s : Shared} {a : Addr} {xs : List V} (r : FR fz (.ref a) (.tuple xs)) (i : In C fz keep σ s) : ∃ arr, IsTup s.heap a arr ∧ FRs fz arr.toList xs := by
  cases r with
  | tuple a o arr n xs hm hc hd hs => exact ⟨arr, ⟨o, i.get hm, hc, n, hd⟩, hs⟩
theorem FR.isList {fz keep : Led} {s : Shared} {a : Addr} {xs : List V} (r : FR fz (.ref a) (.list xs)) (i : In C fz keep σ s) : ∃ arr k, s.heap.get? a = some (listOf arr k) ∧ s.heap.IsList a arr ∧ FRs fz arr.toList xs := by
  cases r with
  | list a arr n xs hm hs => exact ⟨arr, n, i.get hm, ⟨_, i.get hm, rfl, n, rfl⟩, hs⟩
inductive PG (C : Fc) (fz keep : Led) (Q : List V → Prop) (s : Shared) : Prop
  | mk (σ : List V) (fz' : Led) (a : Sub fz fz') (i : In C fz' keep σ s) (q : Q σ)
theorem PG.le {fz fz' keep : Led} {Q : List V → Prop} {s : Shared} (h : Sub fz fz') : PG C fz' keep Q s → PG C fz keep Q s := fun ⟨σ, f, a, i, q⟩ => ⟨σ, f, h.trans a, i, q⟩
def wG (G : Gl) (C : Fc) (n : Nat) (t : Expr) (x : V) (Q : List V → Prop) (σ : List V) : Prop :=
  Ok G C n → ∀ fz keep s v, FR fz v x → In C fz keep σ s → wpAny G.M C.A (assign t C.env v) (fun _ => PG C fz keep Q) C.E s
def wGs (G : Gl) (C : Fc) (n : Nat) (ts : List Expr) (xs : List V) (Q : List V → Prop) (σ : List V) : Prop :=
  Ok G C n → ∀ fz keep s vs, FRs fz vs xs → In C fz keep σ s → wpAny G.M C.A (assignInOrder ((assignEach ts C.env).map (·.2)) vs) (fun _ => PG C fz keep Q) C.E s
@[reducible] def kGs (G : Gl) (C : Fc) (n : Nat) (ts : List Expr) (xs : List V) (Q : List V → Prop) (σ : List V) : Prop := wGs G C n ts xs Q σ
@[reducible] def kUnp (G : Gl) (C : Fc) (n : Nat) (ts : List Expr) (k : Nat) (p : Pos) (Q : Fl → List V → Prop) (v : V) (σ : List V) : Prop := wG G C n (.Tuple ts k p) v (Q .next) σ
theorem wG_name {x : Str} {p : Pos} {y : V} {k : Nat} {σ' : List V} {Q : List V → Prop} (hp : Put C.names σ x k y σ') (q : Q σ') : wG G C n (.Name x p) y Q σ := fun ok fz keep s v r i =>
  PyProof.Rows.assign_Name (store_val ok i hp r fun s' i' => ⟨σ', fz, Sub.rfl, i', q⟩)
theorem wGs_nil {Q : List V → Prop} (q : Q σ) : wGs G C n [] [] Q σ := fun ok fz keep s vs r i => r.nil_c (wpAny_pure ⟨σ, fz, Sub.rfl, i, q⟩)
theorem wGs_cons {t : Expr} {ts : List Expr} {x : V} {xs : List V} {Q : List V → Prop} (h : wG G C n t x (kGs G C n ts xs Q) σ) (ht : Pl (assignEach (t :: ts) C.env = (false, assign t C.env) :: assignEach ts C.env)) : wGs G C n (t :: ts) (x :: xs) Q σ := fun ok fz keep s vs r i => by
  rw [ht]
  refine r.cons_c fun _ _ r1 r2 => ?_
  · show wpAny G.M C.A (do holding _ (assign t C.env _); assignInOrder ((assignEach ts C.env).map (·.2)) _) _ _ _
    exact wpAny_bind (wpAny_holding (wpAny_mono (h ok fz keep s _ r1 i) (fun _ s1 ⟨σ1, f1, s1', i1, q⟩ => wpAny_mono (q ok f1 keep s1 _ (r2.mono s1') i1) (fun _ _ p => p.le s1') fun _ _ x => x) fun _ _ x => x))
theorem wG_tuple {ts : List Expr} {k : Nat} {p : Pos} {xs : List V} {Q : List V → Prop} (h : wGs G C n ts xs Q σ) (hn : Pl ((assignEach ts C.env).length = xs.length)) (hs : Pl ((assignEach ts C.env).findIdx? (·.1) = none)) : wG G C n (.Tuple ts k p) (.tuple xs) Q σ := fun ok fz keep s v r i => by
  refine r.tuple_c fun a o arr m hm hc hd hr => ?_
  · have ht : IsTup s.heap a arr := ⟨o, i.get hm, hc, m, hd⟩
    have hl : arr.size = xs.length := by rw [← Array.length_toList]; exact hr.length
    exact assign_Tuple_tuple ok.hh ht (hn.trans hl.symm) hs fun h' hx => h ok fz keep _ _ hr (i.ext (t := s.toks) hx)
theorem wX_unpack {ts : List Expr} {k : Nat} {p pos : Pos} {e : Expr} {Q : Fl → List V → Prop} (h : wF G C n e (kUnp G C n ts k p Q) σ)
    (hs : Pl (swapsWithSole [.Tuple ts k p] e pos.line C.env = pure false)) (hw : Pl (swappedStores [.Tuple ts k p] e C.env = pure none)) : wX G C n (.Assign [.Tuple ts k p] e pos) Q σ := fun ok fz keep s i =>
  Assign_Tuple (wpAny_mono (h ok fz keep s i) (fun v s1 ⟨x, σ1, f1, s1', r, i1, q⟩ => wpAny_mono (q ok f1 keep s1 v r i1) (fun _ s2 ⟨σ2, f2, s2', i2, q2⟩ => ⟨σ2, f2, s1'.trans s2', i2, q2⟩) fun _ _ x => x) fun _ _ x => x) hs hw
inductive IR (fz : Led) : List Value → List V → Led → Prop
  | nil : IR fz [] [] []
  | val {v x vs xs tl} : FR fz v x → IR fz vs xs tl → IR fz (v :: vs) (x :: xs) tl
  | own {a o ys vs xs tl} : LO fz o ys → IR fz vs xs tl → IR fz (.ref a :: vs) (.own a ys :: xs) ((a, o) :: tl)
theorem IR.mono {fz fz' : Led} (h : Sub fz fz') {vs : List Value} {xs : List V} {tl : Led} (r : IR fz vs xs tl) : IR fz' vs xs tl := by
  induction r with
  | nil => exact .nil
  | val a _ ih => exact .val (a.mono h) ih
  | own a _ ih => exact .own (a.mono h) ih
theorem IR.length {fz : Led} {vs : List Value} {xs : List V} {tl : Led} (r : IR fz vs xs tl) : vs.length = xs.length := by induction r <;> simp_all
inductive PI (C : Fc) (fz keep : Led) (Q : List V → List V → Prop) (vs : List Value) (s : Shared) : Prop
  | mk (xs σ : List V) (fz' tl : Led) (a : Sub fz fz') (r : IR fz' vs xs tl) (i : In C fz' (tl ++ keep) σ s) (q : Q xs σ)
def wI (G : Gl) (C : Fc) (n : Nat) (es : List Expr) (Q : List V → List V → Prop) (σ : List V) : Prop :=
  Ok G C n → ∀ fz keep s (pos : Pos), In C fz keep σ s → wpAny G.M C.A (spliced (backTo pos (starEach es C.env))) (PI C fz keep Q) C.E s
@[reducible] def kCons (Q : List V → List V → Prop) (x : V) (xs σ : List V) : Prop := Q (x :: xs) σ
@[reducible] def kIs (G : Gl) (C : Fc) (n : Nat) (es : List Expr) (Q : List V → List V → Prop) (x : V) (σ : List V) : Prop := wI G C n es (kCons Q x) σ
@[reducible] def kIsO (G : Gl) (C : Fc) (n : Nat) (es : List Expr) (Q : List V → List V → Prop) (a : Addr) (ys σ : List V) : Prop := wI G C n es (kCons Q (.own a ys)) σ
theorem wI_nil {Q : List V → List V → Prop} (q : Q [] σ) : wI G C n [] Q σ := fun ok fz keep s pos i => wpAny_items_nil ⟨[], σ, fz, [], Sub.rfl, .nil, i, q⟩
theorem wI_val {e : Expr} {es : List Expr} {Q : List V → List V → Prop} (h : wF G C n e (kIs G C n es Q) σ) (he : Pl (starEach (e :: es) C.env = (false, eval e C.env) :: starEach es C.env)) : wI G C n (e :: es) Q σ := fun ok fz keep s pos i =>
  wpAny_items_cons (wpAny_mono (h ok fz keep s i) (fun v s1 ⟨x, σ1, f1, s1', r, i1, q⟩ => wpAny_mono (q ok f1 keep s1 pos i1) (fun vs s2 ⟨xs, σ2, f2, tl, s2', r2, i2, q2⟩ =>
    ⟨x :: xs, σ2, f2, tl, s1'.trans s2', .val (r.mono s2') r2, i2, q2⟩) fun _ _ x => x) fun _ _ x => x) he
theorem wI_own {e : Expr} {es : List Expr} {Q : List V → List V → Prop} (h : wO G C n e (kIsO G C n es Q) σ) (he : Pl (starEach (e :: es) C.env = (false, eval e C.env) :: starEach es C.env)) : wI G C n (e :: es) Q σ := fun ok fz keep s pos i =>
  wpAny_items_cons (wpAny_mono (h ok fz keep s i) (fun v s1 ⟨a, ys, o, σ1, f1, s1', ev, l, i1, q⟩ => wpAny_mono (q ok f1 _ s1 pos i1) (fun vs s2 ⟨xs, σ2, f2, tl, s2', r2, i2, q2⟩ => by
    subst ev
    exact ⟨_, σ2, f2, (a, o) :: tl, s1'.trans s2', .own (l.mono s2') r2, i2.perm List.perm_middle, q2⟩) fun _ _ x => x) fun _ _ x => x) he
inductive PutsR (ns : List Str) : List Str → List V → List V → List V → Prop
  | nil {τ : List V} : PutsR ns [] [] τ τ
  | cons {x : Str} {xs : List Str} {v : V} {vs τ τ1 τ' : List V} {k : Nat} : PutsR ns xs vs τ τ1 → Put ns τ1 x k v τ' → PutsR ns (x :: xs) (v :: vs) τ τ'
inductive Steps (M : Model) (A : Around) (E : Value → Shared → Prop) : List (Value → Sem Unit) → List Value → (Shared → Prop) → (Shared → Prop) → Prop
  | nil {P R : Shared → Prop} : (∀ s, P s → R s) → Steps M A E [] [] P R
  | cons {t ts v vs} {P P1 R : Shared → Prop} : (∀ s, P s → wpAny M A (t v) (fun _ => P1) E s) → Steps M A E ts vs P1 R → Steps M A E (t :: ts) (v :: vs) P R
theorem Steps.run {M : Model} {A : Around} {E : Value → Shared → Prop} {ts : List (Value → Sem Unit)} {vs : List Value} {P R : Shared → Prop} (S : Steps M A E ts vs P R) : ∀ {s : Shared}, P s → wpAny M A (assignInOrder ts vs) (fun _ => R) E s := by
  induction S with
  | nil h => exact fun p => wpAny_pure (h _ p)
  | @cons t ts v vs P P1 R h _ ih =>
    intro s p
    show wpAny M A (do holding vs (t v); assignInOrder ts vs) _ E s
    exact wpAny_bind (wpAny_holding (wpAny_mono (h _ p) (fun _ _ q => ih q) fun _ _ x => x))
theorem Steps.snoc {M : Model} {A : Around} {E : Value → Shared → Prop} {ts : List (Value → Sem Unit)} {vs : List Value} {P P1 R : Shared → Prop} {t : Value → Sem Unit} {v : Value} (S : Steps M A E ts vs P P1)
    (h : ∀ s, P1 s → wpAny M A (t v) (fun _ => R) E s) : Steps M A E (ts ++ [t]) (vs ++ [v]) P R := by
  induction S with
  | nil h0 => exact .cons (fun s p => h s (h0 s p)) (.nil fun _ x => x)
  | cons h1 _ ih => exact .cons h1 (ih h)
theorem Steps.pre {M : Model} {A : Around} {E : Value → Shared → Prop} {ts : List (Value → Sem Unit)} {vs : List Value} {P P' R : Shared → Prop} (S : Steps M A E ts vs P R) (h : ∀ s, P' s → P s) : Steps M A E ts vs P' R := by
  cases S with
  | nil h0 => exact .nil fun s p => h0 s (h s p)
  | cons h1 r => exact .cons (fun s p => h1 s (h s p)) r
theorem putsR_steps (ok : Ok G C n) {fz : Led} {ns : List Str} {xs : List V} {σ σ' : List V} (P : PutsR C.names ns xs σ σ') : ∀ {vs : List Value} {tl keep : Led}, IR fz vs xs tl →
    Steps G.M C.A C.E (ns.reverse.map fun x => bindName C.env x) vs.reverse (In C fz (tl ++ keep) σ) (In C fz keep σ') := by
  induction P with
  | nil => intro vs tl keep r; cases r; exact .nil fun _ x => x
  | @cons x ns v xs σ σ1 σ' k P hp ih =>
    intro vs tl keep r
    rw [List.reverse_cons, List.map_append]
    cases r with
    | @val v' _ vs' _ _ r1 r2 =>
      rw [List.reverse_cons]
      exact (ih r2).snoc fun s i => wpAny_bindName (store_val ok i hp r1 fun s' i' => i')
    | @own a o ys vs' _ tl' l r2 =>
      rw [List.reverse_cons]
      exact ((ih (keep := (a, o) :: keep) r2).pre fun s i => i.perm List.perm_middle.symm).snoc fun s i => wpAny_bindName (store_own ok i hp l fun s' i' => i')
@[reducible] def kSwp (C : Fc) (ns : List Str) (Q : Fl → List V → Prop) (xs σ1 : List V) : Prop := xs.length = ns.length ∧ ns.length ≤ 3 ∧ ∃ σ2, PutsR C.names ns xs σ1 σ2 ∧ Q .next σ2
theorem wX_swap {ts es : List Expr} {p pv pos : Pos} {k kv : Nat} {ns : List Str} {Q : Fl → List V → Prop}
    (h : wI G C n es (kSwp C ns Q) σ)
    (hs : swapsWithSole [.Tuple ts k p] (.Tuple es kv pv) pos.line C.env = pure false) (hw : swappedStores [.Tuple ts k p] (.Tuple es kv pv) C.env = pure (some ns)) :
    wX G C n (.Assign [.Tuple ts k p] (.Tuple es kv pv) pos) Q σ := fun ok fz keep s i => by
  refine Assign_Tuple_swapped (wpAny_Tuple (wpAny_mono (h ok fz keep s pv i) (fun vs s1 H => ?_) fun _ _ x => x)) hs hw
  obtain ⟨xs, σ1, f1, tl, s1', r, i1, hl, h3, σ2, P, q⟩ := H
  have hlen := r.length
  refine ⟨by rw [sizeLine_eq]; omega, ?_⟩
  have e : ns.length = vs.toArray.size := by simp; omega
  rw [e]
  have ht : IsTup (s1.heap.push { cls := .type "tuple", data := .seq vs.toArray }) s1.heap.objs.size vs.toArray := ⟨_, Heap.get?_push_size _ rfl, rfl, 0, rfl⟩
  refine unpackItems_tuple ok.hh ht (fun h' hx => ?_)
  have i1' : In C f1 (tl ++ keep) σ1 { s1 with heap := s1.heap.push { cls := .type "tuple", data := .seq vs.toArray } } := i1.keeps (t := s1.toks) fun b o e => Heap.get?_push_of_some _ e
  have i2 : In C f1 (tl ++ keep) σ1 { s1 with heap := h' } := i1'.ext (t := s1.toks) hx
  have S := putsR_steps ok P (keep := keep) r
  rw [show vs.toArray.toList = vs from rfl]
  exact wpAny_mono (S.run i2) (fun _ s' i' => ⟨σ2, f1, s1', i', q⟩) fun _ _ x => x
end
end Mine
end
section
open PySem PySem.W PySem.Calls PyProof.Rows
set_option Elab.async false
set_option maxRecDepth 100000
set_option linter.unusedVariables false
namespace Mine
open Builtin
theorem Ok.le {G : Gl} {C : Fc} {n m : Nat} (o : Ok G C n) (h : m ≤ n) : Ok G C m :=
  ⟨o.B, o.X, o.T, o.hA, o.hh, o.hk, by have := o.depth; omega, by have := o.units; omega, o.nodup, o.loc⟩
abbrev Fc.setE (C : Fc) (E : Value → Shared → Prop) : Fc := { C with E := E }
theorem Ok.setE {G : Gl} {C : Fc} {n : Nat} {E : Value → Shared → Prop} (o : Ok G (C.setE E) n) : Ok G C n := ⟨o.B, o.X, o.T, o.hA, o.hh, o.hk, o.depth, o.units, o.nodup, o.loc⟩
theorem Ok.setE' {G : Gl} {C : Fc} {n : Nat} {E : Value → Shared → Prop} (o : Ok G C n) : Ok G (C.setE E) n := ⟨o.B, o.X, o.T, o.hA, o.hh, o.hk, o.depth, o.units, o.nodup, o.loc⟩
inductive PC (C : Fc) (fz keep : Led) (σ : List V) (K : V → Prop) (v : Value) (s : Shared) : Prop
  | mk (x : V) (fz' : Led) (a : Sub fz fz') (r : FR fz' v x) (i : In C fz' keep σ s) (k : K x)
def Calls (G : Gl) (n : Nat) (f : Value) (args : List V) (K : V → Prop) : Prop :=
  ∀ C fz keep σ s vs, Ok G C n → In C fz keep σ s → FRs fz vs args → wpAny G.M C.A (call f vs) (PC C fz keep σ K) C.E s
inductive PCO (C : Fc) (fz keep : Led) (a : Addr) (σ : List V) (K : V → List V → Prop) (v : Value) (s : Shared) : Prop
  | mk (x : V) (xs' : List V) (o' : Obj) (fz' : Led) (b : Sub fz fz') (r : FR fz' v x) (l : LO fz' o' xs') (i : In C fz' ((a, o') :: keep) σ s) (k : K x xs')
def CallsO (G : Gl) (n : Nat) (f : Value) (xs : List V) (args : List V) (K : V → List V → Prop) : Prop :=
  ∀ C fz keep σ s a o vs, Ok G C n → In C fz ((a, o) :: keep) σ s → LO fz o xs → FRs fz vs args → wpAny G.M C.A (call f (.ref a :: vs)) (PCO C fz keep a σ K) C.E s
theorem Calls.mono {G : Gl} {n : Nat} {f : Value} {args : List V} {K K' : V → Prop} (h : Calls G n f args K) (hk : ∀ x, K x → K' x) : Calls G n f args K' := fun C fz keep σ s vs ok i r =>
  wpAny_mono (h C fz keep σ s vs ok i r) (fun v s' ⟨x, f', a, b, c, d⟩ => ⟨x, f', a, b, c, hk _ d⟩) fun _ _ x => x
theorem Calls.le {G : Gl} {n m : Nat} {f : Value} {args : List V} {K : V → Prop} (h : Calls G m f args K) (hm : m ≤ n) : Calls G n f args K := fun C fz keep σ s vs ok i r => h C fz keep σ s vs (ok.le hm) i r
theorem CallsO.mono {G : Gl} {n : Nat} {f : Value} {xs args : List V} {K K' : V → List V → Prop} (h : CallsO G n f xs args K) (hk : ∀ x y, K x y → K' x y) : CallsO G n f xs args K' := fun C fz keep σ s a o vs ok i l r =>
  wpAny_mono (h C fz keep σ s a o vs ok i l r) (fun v s' ⟨x, xs', o', f', a, b, c, d, e⟩ => ⟨x, xs', o', f', a, b, c, d, hk _ _ e⟩) fun _ _ x => x
section
variable {G : Gl} {C : Fc} {n : Nat} {Q : V → List V → Prop} {σ : List V}
def Callee (G : Gl) (f : Value) : Prop := match f with
  | .builtin _ | .type _ => True
  | .ref a => keepIn G.K (.ref a) = true
  | _ => False
@[reducible] def kAs (G : Gl) (C : Fc) (n : Nat) (es : List Expr) (Q : List V → List V → Prop) (x : V) (σ : List V) : Prop := wA G C n es (kCons Q x) σ
@[reducible] def kCl2 (G : Gl) (n : Nat) (fv : Value) (Q : V → List V → Prop) (xs σ : List V) : Prop := Calls G n fv xs (kV Q σ)
@[reducible] def kCl (G : Gl) (C : Fc) (n : Nat) (es : List Expr) (Q : V → List V → Prop) (f : V) (σ : List V) : Prop := ∃ fv, f = .fn fv ∧ Callee G fv ∧ wA G C n es (kCl2 G n fv Q) σ
@[reducible] def kClO3 (C : Fc) (y : Str) (a : Addr) (k : Nat) (Q : V → List V → Prop) (σ3 : List V) (r : V) (xs' : List V) : Prop := ∃ σ4, At C.names σ3 y k (.brw a) ∧ Put C.names σ3 y k (.own a xs') σ4 ∧ Q r σ4
@[reducible] def kClO2 (G : Gl) (C : Fc) (n : Nat) (y : Str) (a : Addr) (k : Nat) (fv : Value) (xs : List V) (Q : V → List V → Prop) (ys σ3 : List V) : Prop := CallsO G n fv xs ys (kClO3 C y a k Q σ3)
@[reducible] def kClO (G : Gl) (C : Fc) (n : Nat) (y : Str) (a : Addr) (es : List Expr) (Q : V → List V → Prop) (f : V) (σ1 : List V) : Prop := ∃ fv k xs σ2, f = .fn fv ∧ Callee G fv ∧ At C.names σ1 y k (.own a xs) ∧ Put C.names σ1 y k (.brw a) σ2 ∧ wA G C n es (kClO2 G C n y a k fv xs Q) σ2
theorem wA_nil {Q : List V → List V → Prop} (q : Q [] σ) : wA G C n [] Q σ := fun ok fz keep s pos i => wpAny_items_nil ⟨[], σ, fz, Sub.rfl, .nil, i, q⟩
theorem wA_cons {e : Expr} {es : List Expr} {Q : List V → List V → Prop} (h : wF G C n e (kAs G C n es Q) σ) (he : Pl (starEach (e :: es) C.env = (false, eval e C.env) :: starEach es C.env)) : wA G C n (e :: es) Q σ := fun ok fz keep s pos i =>
  wpAny_items_cons (wpAny_mono (h ok fz keep s i) (fun v s1 ⟨x, σ1, f1, s1', r, i1, q⟩ => wpAny_mono (q ok f1 keep s1 pos i1) (fun vs s2 ⟨xs, σ2, f2, s2', r2, i2, q2⟩ =>
    ⟨x :: xs, σ2, f2, s1'.trans s2', .cons (r.mono s2') r2, i2, q2⟩) fun _ _ x => x) fun _ _ x => x) he
theorem kCl_i {es : List Expr} {fv : Value} (hc : Callee G fv) (q : wA G C n es (kCl2 G n fv Q) σ) : kCl G C n es Q (.fn fv) σ := ⟨fv, rfl, hc, q⟩
theorem kClO_i {y : Str} {a : Addr} {es : List Expr} {fv : Value} {k : Nat} {xs σ2 : List V} (hc : Callee G fv) (ha : At C.names σ y k (.own a xs)) (hp : Put C.names σ y k (.brw a) σ2) (q : wA G C n es (kClO2 G C n y a k fv xs Q) σ2) : kClO G C n y a es Q (.fn fv) σ := ⟨fv, k, xs, σ2, rfl, hc, ha, hp, q⟩
theorem kClO3_i {y : Str} {a : Addr} {k : Nat} {r : V} {xs' σ4 : List V} (ha : At C.names σ y k (.brw a)) (hp : Put C.names σ y k (.own a xs') σ4) (q : Q r σ4) : kClO3 C y a k Q σ r xs' := ⟨σ4, ha, hp, q⟩
theorem callWith_ok {fz keep : Led} {σ : List V} {s : Shared} {f : Value} {e : Expr} {es : List Expr} {pos : Pos} {R : Value → Shared → Prop} (ok : Ok G C n) (i : In C fz keep σ s) (hc : Callee G f) (he : starEach (e :: es) C.env = (false, eval e C.env) :: starEach es C.env) (hp : (backTo pos (starEach es C.env)).any (·.1) = false)
    (h : wpAny G.M C.A (spliced (backTo pos (starEach (e :: es) C.env))) (fun vs s1 => (∃ fz' keep' σ', In C fz' keep' σ' s1) ∧ wpAny G.M C.A (call f vs) R C.E s1) C.E s) : wpAny G.M C.A (callWith pos f [] (backTo pos (starEach (e :: es) C.env)) []) R C.E s := by
  have h' := wpAny_mono h (fun vs s1 q => q.2) fun _ _ x => x
  cases f with
  | builtin id => exact PyProof.Rows.callWith_builtin1 h' he hp
  | type T => exact PyProof.Rows.callWith_type1 h' he hp
  | ref a => exact callWith_K ok.X hc (wpAny_mono h (fun vs s1 ⟨⟨f', k', σ', i'⟩, q⟩ => ⟨by obtain ⟨_, _, F, _, _, _, _⟩ := i'; exact ok.X.keeps F.keep, q⟩) fun _ _ x => x) he hp
  | _ => exact hc.elim
theorem wF_call {x : Str} {p pos : Pos} {e : Expr} {es : List Expr} (h : wF G C n (.Name x p) (kCl G C n (e :: es) Q) σ)
    (he : Pl (starEach (e :: es) C.env = (false, eval e C.env) :: starEach es C.env)) (hp : Pl ((backTo pos (starEach es C.env)).any (·.1) = false)) : wF G C n (.Call (.Name x p) (e :: es) [] pos) Q σ := fun ok fz keep s i => by
  refine Call_Name rfl (wpAny_mono (h ok fz keep s i) (fun f s1 ⟨y, σ1, f1, s1', r, i1, fv, ey, hc, q⟩ => ?_) fun _ _ x => x)
  subst ey
  refine r.fn_c ?_
  refine callWith_ok ok i1 hc he hp (wpAny_mono (q ok f1 keep s1 pos i1) (fun vs s2 ⟨xs, σ2, f2, s2', r2, i2, q2⟩ => ⟨⟨_, _, _, i2⟩, ?_⟩) fun _ _ x => x)
  exact wpAny_mono (q2 C f2 keep σ2 s2 vs ok i2 r2) (fun v s3 ⟨z, f3, s3', r3, i3, k3⟩ => ⟨z, σ2, f3, (s1'.trans s2').trans s3', r3, i3, k3⟩) fun _ _ x => x
theorem wF_callO {x y : Str} {p py pos : Pos} {es : List Expr} {k : Nat} {a : Addr} {xs : List V}
    (h : wF G C n (.Name x p) (kClO G C n y a es Q) σ)
    (he : starEach (.Name y py :: es) C.env = (false, eval (.Name y py) C.env) :: starEach es C.env) (hp : (backTo pos (starEach es C.env)).any (·.1) = false) : wF G C n (.Call (.Name x p) (.Name y py :: es) [] pos) Q σ := fun ok fz keep s i => by
  refine Call_Name rfl (wpAny_mono (h ok fz keep s i) (fun f s1 ⟨y', σ1, f1, s1', r, i1, fv, k, xs, σ2, ey, hc, ha, hput, q⟩ => ?_) fun _ _ x => x)
  subst ey
  refine r.fn_c ?_
  obtain ⟨m, F, em⟩ := i1.addr ha
  have hl := ok.loc y (List.mem_of_getElem? ha.names)
  obtain ⟨o, lo, i2, _⟩ := i1.take ha.vals
  rw [← hput.eq] at i2
  refine callWith_ok ok i1 hc he hp (wpAny_items_cons (nameX_L F em ?_ ok.hk hl.1 hl.2) he)
  refine wpAny_mono (q ok f1 _ s1 pos i2) (fun vs s2 ⟨ys, σ3, f3, s3', r3, i3, q3⟩ => ⟨⟨_, _, _, i3⟩, ?_⟩) fun _ _ x => x
  refine wpAny_mono (q3 C f3 keep σ3 s2 a o vs ok i3 (lo.mono s3') r3) (fun v s3 ⟨z, xs', o', f4, s4', r4, l4, i4, σ4, hb, hput', k4⟩ => ?_) fun _ _ x => x
  have i5 := i4.back hb.vals l4
  rw [← hput'.eq] at i5
  exact ⟨z, σ4, f4, (s1'.trans s3').trans s4', r4, i5, k4⟩
end
theorem lookup_zip : ∀ {ps : List Str} {vs : List Value} {i : Nat} {x : Str} {v : Value}, ps.Nodup → ps[i]? = some x → vs[i]? = some v → (ps.zip vs).lookup x = some v
  | p :: ps, w :: vs, 0, x, v, _, h1, h2 => by simp at h1 h2; subst h1; subst h2; simp
  | p :: ps, w :: vs, i + 1, x, v, hn, h1, h2 => by
    simp at h1 h2
    have hne : (x == p) = false := by
      cases h : x == p with
      | false => rfl
      | true => exact absurd ((eq_of_beq h) ▸ List.mem_of_getElem? h1) (List.nodup_cons.mp hn).1
    rw [List.zip_cons_cons, List.lookup_cons, hne]
    exact lookup_zip (List.nodup_cons.mp hn).2 h1 h2
  | [], _, _, _, _, _, h1, _ => by simp at h1
  | _ :: _, [], _, _, _, _, _, h2 => by simp at h2
theorem lookup_append_of {l l' : List (Str × Value)} {x : Str} {v : Value} (h : l.lookup x = some v) : (l ++ l').lookup x = some v := by
  induction l with
  | nil => cases h
  | cons p r ih =>
    obtain ⟨y, w⟩ := p
    rw [List.cons_append, List.lookup_cons]
    rw [List.lookup_cons] at h
    split
    · rename_i e; rw [e] at h; exact h
    · rename_i e; rw [e] at h; exact ih h
theorem lookup_none_of {l : List (Str × Value)} {x : Str} (h : ∀ p ∈ l, p.1 ≠ x) : l.lookup x = none := by
  induction l with
  | nil => rfl
  | cons p r ih =>
    obtain ⟨y, w⟩ := p
    rw [List.lookup_cons]
    have : (x == y) = false := by
      cases e : x == y with
      | false => rfl
      | true => exact absurd (eq_of_beq e).symm (h _ (.head _))
    rw [this]
    exact ih fun q hq => h q (.tail _ hq)
theorem lookup_append_none {l l' : List (Str × Value)} {x : Str} (h : l.lookup x = none) : (l ++ l').lookup x = l'.lookup x := by
  induction l with
  | nil => rfl
  | cons p r ih =>
    obtain ⟨y, w⟩ := p
    rw [List.cons_append, List.lookup_cons]
    rw [List.lookup_cons] at h
    split
    · rename_i e; rw [e] at h; cases h
    · rename_i e; rw [e] at h; exact ih h
theorem lookup_zip_rev : ∀ {ps : List Str} {vs : List Value} {i : Nat} {x : Str} {v : Value}, ps.Nodup → ps[i]? = some x → vs[i]? = some v → (ps.zip vs).reverse.lookup x = some v
  | p :: ps, w :: vs, 0, x, v, hn, h1, h2 => by
    simp at h1 h2; subst h1; subst h2
    rw [List.zip_cons_cons, List.reverse_cons, lookup_append_none]
    · simp
    · refine lookup_none_of fun q hq e => ?_
      have hq' := List.mem_reverse.mp hq
      obtain ⟨a, b⟩ := q
      have := (List.of_mem_zip hq').1
      exact (List.nodup_cons.mp hn).1 (e ▸ this)
  | p :: ps, w :: vs, i + 1, x, v, hn, h1, h2 => by
    simp at h1 h2
    rw [List.zip_cons_cons, List.reverse_cons]
    exact lookup_append_of (lookup_zip_rev (List.nodup_cons.mp hn).2 h1 h2)
  | [], _, _, _, _, _, h1, _ => by simp at h1
  | _ :: _, [], _, _, _, _, _, h2 => by simp at h2
theorem locR_undef {fz : Led} {m : Str → Option Value} : ∀ (xs : List Str), LocR fz m xs (xs.map fun _ => V.undef) []
  | [] => .nil
  | _ :: xs => .undef (locR_undef xs)
theorem locR_init {fz : Led} {m : Str → Option Value} {rest : List Str} : ∀ {ps : List Str} {vs : List Value} {args : List V}, FRs fz vs args → ps.length = vs.length → (∀ (i : Nat) (x : Str) (v : Value), ps[i]? = some x → vs[i]? = some v → m x = some v) →
    LocR fz m (ps ++ rest) (args ++ rest.map fun _ => V.undef) []
  | [], [], _, .nil, _, _ => locR_undef rest
  | p :: ps, v :: vs, _, .cons a b, hl, h => .val (h 0 p v rfl rfl) a (locR_init b (by simpa using hl) fun i x w h1 h2 => h (i + 1) x w (by simpa using h1) (by simpa using h2))
  | [], _ :: _, _, _, hl, _ => by simp at hl
  | _ :: _, [], _, _, hl, _ => by simp at hl
inductive DefOb (G : Gl) (f : Addr) (name qual : Str) (ps : List Str) (body : List Stmt) (scope : Scope) (cdv : Value) : Prop
  | mk (oc : Value) (od : Option Addr) (osl : Array (Option Value)) (params : Arguments) (dV kV doc pm : Value) (an : Option Addr) (ct : Value) (h : G.K.lookup f = some ⟨oc, od, .func (fnOf name qual params body scope dV kV doc pm an cdv ct), osl⟩)
    (b : ∀ s vs, vs.length = ps.length → BindsTo s (fnOf name qual params body scope dV kV doc pm an cdv ct) ⟨vs, []⟩ (ps.zip vs))
structure DefAt (G : Gl) (f : Addr) (name qual : Str) (ps rest : List Str) (body : List Stmt) (scope : Scope) (cdv : Value) : Prop where
  ob : DefOb G f name qual ps body scope cdv
  code : codeIn G.K cdv qual = true
  loc : ((ps ++ rest).all fun x => decide (scope.names.lookup x = some .local) && !(x == ("__debug__" : Str))) = true
  nodup : (ps ++ rest).Nodup
  co : scope.isCoroutine = false
  gen : scope.isGenerator = false
  kind : scope.kind = .function
  cell : ∀ x ∈ scope.names, x.2 ≠ .cell
@[reducible] def frm (D : Fc) (qual : Str) (scope : Scope) (names : List Str) : Fc := { D with cn := qual, cs := scope, cl := [], names := names, E := fun _ _ => False }
def retQ (K : V → Prop) (f : Fl) : Prop := match f with
  | .ret x => K x
  | .next => K .none
  | _ => False
@[reducible] def kFin (K : V → Prop) (fl : Fl) (_ : List V) : Prop := retQ K fl
@[reducible] def kX (K : V → List V → Prop) (xs : List V) (x : V) : Prop := K x xs
@[reducible] def kFinO (a : Addr) (K : V → List V → Prop) (fl : Fl) (σ' : List V) : Prop := ∃ xs', σ'[0]? = some (.own a xs') ∧ retQ (kX K xs') fl
theorem len1 {P : List Value → Prop} (h : ∀ a, P [a]) : ∀ vs, vs.length = 1 → P vs
  | [a], _ => h a
  | [], q => absurd q (by decide)
  | _ :: _ :: _, q => absurd q (by simp)
theorem lenS {P : List Value → Prop} {n : Nat} (h : ∀ a vs, vs.length = n → P (a :: vs)) : ∀ vs, vs.length = n + 1 → P vs
  | a :: vs, q => h a vs (by simpa using q)
  | [], q => absurd q (by simp)
theorem len2 {P : List Value → Prop} (h : ∀ a b, P [a, b]) : ∀ vs, vs.length = 2 → P vs := lenS fun a => len1 fun b => h a b
theorem len3 {P : List Value → Prop} (h : ∀ a b c, P [a, b, c]) : ∀ vs, vs.length = 3 → P vs := lenS fun a => len2 fun b c => h a b c
theorem len4 {P : List Value → Prop} (h : ∀ a b c d, P [a, b, c, d]) : ∀ vs, vs.length = 4 → P vs := lenS fun a => len3 fun b c d => h a b c d
theorem len5 {P : List Value → Prop} (h : ∀ a b c d e, P [a, b, c, d, e]) : ∀ vs, vs.length = 5 → P vs := lenS fun a => len4 fun b c d e => h a b c d e
theorem len6 {P : List Value → Prop} (h : ∀ a b c d e f, P [a, b, c, d, e, f]) : ∀ vs, vs.length = 6 → P vs := lenS fun a => len5 fun b c d e f => h a b c d e f
theorem len7 {P : List Value → Prop} (h : ∀ a b c d e f g, P [a, b, c, d, e, f, g]) : ∀ vs, vs.length = 7 → P vs := lenS fun a => len6 fun b c d e f g => h a b c d e f g
section
variable {G : Gl} {n : Nat} {f : Addr} {name qual : Str} {ps rest : List Str} {body : List Stmt} {scope : Scope} {cdv : Value}
theorem calls_of_body {args : List V} {K : V → Prop} (d : DefAt G f name qual ps rest body scope cdv) (hl : args.length = ps.length)
    (h : ∀ D : Fc, wS G (frm D qual scope (ps ++ rest)) n body (kFin K) (args ++ rest.map fun _ => V.undef)) : Calls G (n + 1) (.ref f) args K := fun C fz keep σ s vs ok i r => by
  obtain ⟨m, ol, F, L, N, D, hh, tt, es⟩ := i
  obtain ⟨oc, od, osl, params, dV, kV, doc, pm, an, ct, hob, hbind⟩ := d.ob
  have hvl : vs.length = ps.length := r.length.trans hl
  have hloc : ∀ x ∈ ps ++ rest, scope.names.lookup x = some .local ∧ (x == ("__debug__" : Str)) = false := fun x hx => by
    have := List.all_eq_true.mp d.loc x hx
    simpa using this
  refine wpAny_call (code_def ok.B F ok.X N ok.T ok.hA rfl ok.hk hob d.code (by have := ok.depth; omega) (hbind s vs hvl) (fun y hy => ?_) ?_ d.co d.gen d.kind d.cell)
  · obtain ⟨a, b⟩ := y
    exact (hloc a (List.mem_append_left _ (List.of_mem_zip hy).1)).1
  · intro g L' h₁ FG F' N' B' X' T'
    have key := h { A := C.A.deeper (envOf qual scope L' f cdv), A₀ := C.A, base := C.base, h₀ := g, outer := C.env :: C.outer, cn := qual, cs := scope, L := L', a := f, ccd := cdv, cl := [], r := s, names := ps ++ rest, E := fun _ _ => False }
    have ok' : Ok G { A := C.A.deeper (envOf qual scope L' f cdv), A₀ := C.A, base := C.base, h₀ := g, outer := C.env :: C.outer, cn := qual, cs := scope, L := L', a := f, ccd := cdv, cl := [], r := s, names := ps ++ rest, E := fun _ _ => False } n :=
      ⟨B', X', T', by show (C.A.frames.map _) = _; rw [ok.hA]; rfl, ok.hh, d.kind, by show C.A.depth + 1 + n < _; have := ok.depth; omega, by show C.A.units + 3 + 8 * n + 16 < _; have := ok.units; omega, d.nodup, hloc⟩
    have i' : In { A := C.A.deeper (envOf qual scope L' f cdv), A₀ := C.A, base := C.base, h₀ := g, outer := C.env :: C.outer, cn := qual, cs := scope, L := L', a := f, ccd := cdv, cl := [], r := s, names := ps ++ rest, E := fun _ _ => False } fz (ol ++ keep) (args ++ rest.map fun _ => V.undef) { s with heap := h₁, toks := s.toks + (ps.zip vs).length } :=
      ⟨_, [], F', locR_init r hvl.symm (fun j x v h1 h2 => lookup_zip_rev (List.nodup_append.mp d.nodup).1 h1 h2), N', D, h₁, _, rfl⟩
    refine wpAny_mono (key ok' fz (ol ++ keep) _ i') (fun fl s' ⟨σ', f', sub, ⟨m', ol', Fx, Lx, Nx, Dx, h', t', ex⟩, q⟩ => ?_) fun _ _ x => x.elim
    refine leaveK_ (m := m) (news' := ol ++ keep ++ f') Fx (fun p hp => Nx p ?_) fun kF kN => ?_
    · rcases List.mem_append.mp hp with q | q
      · exact List.mem_append_left _ (List.mem_append_right _ q)
      · exact List.mem_append_right _ q
    · have I' : In C f' keep σ s' := ⟨m, ol, kF, L.mono sub, kN, ⟨(Dx.sub (List.sublist_append_right ol' (ol ++ keep))).1, (Dx.sub (List.sublist_append_right ol' (ol ++ keep))).2⟩, h', t', by rw [ex, es]⟩
      cases fl with
      | ret v => obtain ⟨x, rx, kx⟩ := q; exact ⟨x, f', sub, rx, I', kx⟩
      | next => exact ⟨.none, f', sub, .none, I', q⟩
      | brk => exact q.elim
      | cont => exact q.elim
theorem callsO_of_body {p0 : Str} {xs args : List V} {K : V → List V → Prop} (d : DefAt G f name qual (p0 :: ps) rest body scope cdv) (hl : args.length = ps.length)
    (h : ∀ (D : Fc) (a : Addr), wS G (frm D qual scope ((p0 :: ps) ++ rest)) n body (kFinO a K) ((.own a xs :: args) ++ rest.map fun _ => V.undef)) : CallsO G (n + 1) (.ref f) xs args K := fun C fz keep σ s a o vs ok i lo r => by
  obtain ⟨m, ol, F, L, N, D, hh, tt, es⟩ := i
  obtain ⟨oc, od, osl, params, dV, kV, doc, pm, an, ct, hob, hbind⟩ := d.ob
  have hvl : (Value.ref a :: vs).length = (p0 :: ps).length := by simp [r.length, hl]
  have hloc : ∀ x ∈ (p0 :: ps) ++ rest, scope.names.lookup x = some .local ∧ (x == ("__debug__" : Str)) = false := fun x hx => by
    have := List.all_eq_true.mp d.loc x hx
    simpa using this
  refine wpAny_call (code_def ok.B F ok.X N ok.T ok.hA rfl ok.hk hob d.code (by have := ok.depth; omega) (hbind s _ hvl) (fun y hy => ?_) ?_ d.co d.gen d.kind d.cell)
  · obtain ⟨b, c⟩ := y
    exact (hloc b (List.mem_append_left _ (List.of_mem_zip hy).1)).1
  · intro g L' h₁ FG F' N' B' X' T'
    have key := h { A := C.A.deeper (envOf qual scope L' f cdv), A₀ := C.A, base := C.base, h₀ := g, outer := C.env :: C.outer, cn := qual, cs := scope, L := L', a := f, ccd := cdv, cl := [], r := s, names := (p0 :: ps) ++ rest, E := fun _ _ => False } a
    have ok' : Ok G { A := C.A.deeper (envOf qual scope L' f cdv), A₀ := C.A, base := C.base, h₀ := g, outer := C.env :: C.outer, cn := qual, cs := scope, L := L', a := f, ccd := cdv, cl := [], r := s, names := (p0 :: ps) ++ rest, E := fun _ _ => False } n :=
      ⟨B', X', T', by show (C.A.frames.map _) = _; rw [ok.hA]; rfl, ok.hh, d.kind, by show C.A.depth + 1 + n < _; have := ok.depth; omega, by show C.A.units + 3 + 8 * n + 16 < _; have := ok.units; omega, d.nodup, hloc⟩
    have P : (ol ++ (a, o) :: keep).Perm ((a, o) :: (ol ++ keep)) := List.perm_middle
    have i' : In { A := C.A.deeper (envOf qual scope L' f cdv), A₀ := C.A, base := C.base, h₀ := g, outer := C.env :: C.outer, cn := qual, cs := scope, L := L', a := f, ccd := cdv, cl := [], r := s, names := (p0 :: ps) ++ rest, E := fun _ _ => False } fz (ol ++ keep) ((.own a xs :: args) ++ rest.map fun _ => V.undef) { s with heap := h₁, toks := s.toks + ((p0 :: ps).zip (Value.ref a :: vs)).length } := by
      have nd := (List.nodup_append.mp d.nodup).1
      refine ⟨_, [(a, o)], F', .own (lookup_zip_rev (i := 0) nd rfl rfl) lo (locR_init r (by simpa using hvl.symm) fun j x v h1 h2 => lookup_zip_rev (i := j + 1) nd (by simpa using h1) (by simpa using h2)), fun p hp => N' p ?_, D.perm P, h₁, _, rfl⟩
      rcases List.mem_append.mp hp with q | q
      · exact List.mem_append_left _ (P.mem_iff.mpr q)
      · exact List.mem_append_right _ q
    refine wpAny_mono (key ok' fz (ol ++ keep) _ i') (fun fl s' ⟨σ', f', sub, ix, q⟩ => ?_) fun _ _ x => x.elim
    have fin : ∀ xs' x v, σ'[0]? = some (.own a xs') → FR f' v x → K x xs' → LeaveK C.h₀ C.L m g (fun r s' => match r with | .ok (.ret v) => PCO C fz keep a σ K v s' | .ok _ => False | .error e => C.E e s') v s' := fun xs' x v h0 rx kx => by
      obtain ⟨o', lo', ⟨m', ol', Fx, Lx, Nx, Dx, h', t', ex⟩, _⟩ := ix.take h0
      refine leaveK_ (m := m) (news' := ol ++ ((a, o') :: keep) ++ f') Fx (fun p hp => Nx p ?_) fun kF kN => ?_
      · have P' : (ol ++ (a, o') :: keep).Perm ((a, o') :: (ol ++ keep)) := List.perm_middle
        rcases List.mem_append.mp hp with q | q
        · exact List.mem_append_left _ (List.mem_append_right _ (P'.mem_iff.mp q))
        · exact List.mem_append_right _ q
      · have P' : (ol ++ (a, o') :: keep).Perm ((a, o') :: (ol ++ keep)) := List.perm_middle
        exact ⟨x, xs', o', f', sub, rx, lo', ⟨m, ol, kF, L.mono sub, kN, (Dx.sub (List.sublist_append_right ol' ((a, o') :: (ol ++ keep)))).perm P'.symm, h', t', by rw [ex, es]⟩, kx⟩
    cases fl with
    | ret v => obtain ⟨x, rx, xs', h0, kx⟩ := q; exact fin xs' x v h0 rx kx
    | next => obtain ⟨xs', h0, kx⟩ := q; exact fin xs' .none .none h0 .none kx
    | brk => obtain ⟨xs', h0, kx⟩ := q; exact kx.elim
    | cont => obtain ⟨xs', h0, kx⟩ := q; exact kx.elim
end
end Mine
end
section
open PySem PySem.W PySem.Calls PyProof.Rows
set_option Elab.async false
set_option maxRecDepth 100000
set_option linter.unusedVariables false
namespace Mine
open Builtin
theorem In.grow {C : Fc} {fz keep ol : Led} {σ : List V} {s : Shared} {m : Str → Option Value} {h' : Heap} {t : Nat} {D : Addr} {o : Obj} (F : Fr C.h₀ C.L h' m) (L : LocR fz m C.names σ ol) (N : News C.h₀ C.L h' ((D, o) :: (ol ++ keep ++ fz))) (d : Dis (ol ++ keep) fz)
    (hD : ∀ p ∈ ol ++ keep ++ fz, p.1 < D) (e : ∃ h t, s = { C.r with heap := h, toks := t }) : In C ((D, o) :: fz) keep σ { s with heap := h', toks := t } := by
  obtain ⟨hh, tt, e⟩ := e
  refine ⟨m, ol, F, L.mono Sub.cons, fun p hp => N p ?_, ⟨d.1, fun p hp q hq => ?_⟩, h', t, by rw [e]⟩
  · rcases List.mem_append.mp hp with h | h
    · exact .tail _ (List.mem_append_left _ h)
    · rcases List.mem_cons.mp h with rfl | h
      · exact .head _
      · exact .tail _ (List.mem_append_right _ h)
  · rcases List.mem_cons.mp hq with rfl | hq
    · exact Nat.ne_of_lt (hD p (List.mem_append_left _ hp))
    · exact d.2 p hp q hq
theorem In.growK {C : Fc} {fz keep ol : Led} {σ : List V} {s : Shared} {m : Str → Option Value} {h' : Heap} {t : Nat} {D : Addr} {o : Obj} (F : Fr C.h₀ C.L h' m) (L : LocR fz m C.names σ ol) (N : News C.h₀ C.L h' ((D, o) :: (ol ++ keep ++ fz))) (d : Dis (ol ++ keep) fz)
    (hD : ∀ p ∈ ol ++ keep ++ fz, p.1 < D) (e : ∃ h t, s = { C.r with heap := h, toks := t }) : In C fz ((D, o) :: keep) σ { s with heap := h', toks := t } := by
  obtain ⟨hh, tt, e⟩ := e
  have P : (ol ++ (D, o) :: keep).Perm ((D, o) :: (ol ++ keep)) := List.perm_middle
  refine ⟨m, ol, F, L, fun p hp => N p ?_, Dis.perm P.symm ⟨?_, fun p hp q hq => ?_⟩, h', t, by rw [e]⟩
  · rcases List.mem_append.mp hp with h | h
    · rcases List.mem_cons.mp (P.mem_iff.mp h) with rfl | h
      · exact .head _
      · exact .tail _ (List.mem_append_left _ h)
    · exact .tail _ (List.mem_append_right _ h)
  · rw [List.map_cons, List.nodup_cons]
    refine ⟨fun hm => ?_, d.1⟩
    obtain ⟨q, hq, e⟩ := List.mem_map.mp hm
    exact absurd (hD q (List.mem_append_left _ hq)) (by rw [e]; exact Nat.lt_irrefl _)
  · rcases List.mem_cons.mp hp with rfl | hp
    · exact (Nat.ne_of_lt (hD q (List.mem_append_right _ hq))).symm
    · exact d.2 p hp q hq
theorem In.old {C : Fc} {fz keep ol : Led} {s : Shared} (N : News C.h₀ C.L s.heap (ol ++ keep ++ fz)) : ∀ p ∈ ol ++ keep ++ fz, p.1 < s.heap.objs.size := fun p hp => Heap.lt_size (N p hp).1
def placeOf (k : Int) (n : Nat) : Nat := if k < 0 then (k + n).toNat else k.toNat
inductive ItemR (K : V → Prop) : V → V → Prop
  | list {xs k x} (h1 : -(xs.length : Int) ≤ k) (hn : xs.length < 2 ^ 62) (hx : xs[placeOf k xs.length]? = some x) (q : K x) : ItemR K (.list xs) (.int k)
  | bytes {b k} (h1 : 0 ≤ k) (h2 : k < b.size) (h3 : b.size ≤ 1000000) (q : K (.int (b.toList.getD k.toNat 0).toNat)) : ItemR K (.bytes b) (.int k)
def itemV (o i : V) (K : V → Prop) : Prop := ItemR K o i
section
variable {G : Gl} {C : Fc} {n : Nat} {Q : V → List V → Prop} {σ : List V}
theorem getItem_ok {fz : Led} {s : Shared} {a : Addr} {arr : Array Value} {k : Int} {u : Tok} {xs : List V} {x : V} {R : Value → Shared → Prop} {A : Around} {E : Value → Shared → Prop} (hl : s.heap.IsList a arr) (r : FRs fz arr.toList xs) (h1 : -(xs.length : Int) ≤ k) (hn : xs.length < 2 ^ 62) (hx : xs[placeOf k xs.length]? = some x)
    (h : ∀ v, FR fz v x → R v s) : wpAny G.M A (getItem (.ref a) (.int k u)) R E s := by
  obtain ⟨v, hv, rv⟩ := r.get hx
  have hsz : arr.size = xs.length := by rw [← Array.length_toList]; exact r.length
  have hlt : placeOf k xs.length < xs.length := by
    rcases Nat.lt_or_ge (placeOf k xs.length) xs.length with h | h
    · exact h
    · rw [List.getElem?_eq_none h] at hx; cases hx
  unfold placeOf at hv hlt
  split at hv
  · rename_i hk
    exact wpAny_getItem_list_neg hl hk (by omega) (by omega) (by rw [hsz]; simpa using hv) (h v rv)
  · rename_i hk
    rw [if_neg hk] at hlt
    exact wpAny_getItem_list hl (by omega) (by omega) (by simpa using hv) (h v rv)
theorem item_ok {fz keep : Led} {s : Shared} {o i : Value} {a b : V} {K : V → Prop} {value slice : Expr} (I : In C fz keep σ s) (ra : FR fz o a) (rb : FR fz i b) (h0 : itemV a b K) (hK : ∀ x, K x → Q x σ)
    (hs : ∀ o i, subscripted slice false o i = operate [o, i] (getItem o i)) : wpAny G.M C.A (subscriptTail value slice o i) (PF C fz keep Q) C.E s := by
  cases h0 with
  | list h1 hn hx k =>
    refine ra.list_c fun a arr m hm hr => rb.int_c fun _ => ?_
    · have hl : s.heap.IsList a arr := ⟨_, I.get hm, rfl, m, rfl⟩
      exact tail_any hl.typeIs slot_list_getitem.lookup (getItem_ok hl hr h1 hn hx fun v rv => PF.intro rv I (hK _ k)) (hs _ _)
  | @bytes b k h1 h2 h3 q =>
    refine ra.bytes_c fun _ => rb.int_c fun _ => ?_
    have hb : b = b.toList.toArray := by simp
    rw [hb]
    exact tail_any (typeIs_bytes _ _ _) FB.slot_bytes_getitem.lookup (getItem_bytes (by simp; omega) h1 (by simpa using h2) (PF.intro (.int _ _) (I.tok _) (hK _ q))) (hs _ _)
@[reducible] def kIt2 (o : V) (Q : V → List V → Prop) (i : V) (σ2 : List V) : Prop := itemV o i (kV Q σ2)
@[reducible] def kIt (G : Gl) (C : Fc) (n : Nat) (slice : Expr) (Q : V → List V → Prop) (o : V) (σ1 : List V) : Prop := wF G C n slice (kIt2 o Q) σ1
@[reducible] def kItO (C : Fc) (x : Str) (a : Addr) (Q : V → List V → Prop) (i : V) (σ1 : List V) : Prop := ∃ k ys, At C.names σ1 x k (.own a ys) ∧ itemV (.list ys) i (kV Q σ1)
theorem kItO_i {x : Str} {a : Addr} {i : V} {k : Nat} {ys : List V} (ha : At C.names σ x k (.own a ys)) (q : itemV (.list ys) i (kV Q σ)) : kItO C x a Q i σ := ⟨k, ys, ha, q⟩
theorem wF_item {value slice : Expr} {pos : Pos} (h : wF G C n value (kIt G C n slice Q) σ) (hs : Pl (subscripted slice false = fun o i => operate [o, i] (getItem o i))) : wF G C n (.Subscript value slice pos) Q σ := fun ok fz keep s i => by
  refine Subscript_ (wpAny_mono (h ok fz keep s i) (fun v s1 ⟨a, σ1, f1, s1', ra, i1, q1⟩ => ?_) fun _ _ x => x)
  refine wpAny_mono (q1 ok f1 keep s1 i1) (fun w s2 ⟨b, σ2, f2, s2', rb, i2, q2⟩ => ?_) fun _ _ x => x
  exact wpAny_mono (item_ok (Q := Q) i2 (ra.mono s2') rb q2 (fun _ h => h) (Pl.f2 hs)) (fun _ _ p => p.le (s1'.trans s2')) fun _ _ x => x
theorem wF_itemO {x : Str} {p pos : Pos} {slice : Expr} {k : Nat} {a : Addr} {xs : List V} (ha : At C.names σ x k (.own a xs)) (h : wF G C n slice (kItO C x a Q) σ) (hs : Pl (subscripted slice false = fun o i => operate [o, i] (getItem o i))) : wF G C n (.Subscript (.Name x p) slice pos) Q σ := fun ok fz keep s i => by
  obtain ⟨m, F, em⟩ := i.addr ha
  have hl := ok.loc x (List.mem_of_getElem? ha.names)
  refine Subscript_ (nameX_L F em ?_ ok.hk hl.1 hl.2)
  refine wpAny_mono (h ok fz keep s i) (fun w s2 ⟨b, σ2, f2, s2', rb, i2, k2, ys, ha2, q2⟩ => ?_) fun _ _ x => x
  obtain ⟨o, ⟨arr, c, ho, hr⟩, i3, _⟩ := i2.take ha2.vals
  subst ho
  have hh := i3.getK (.head _)
  have hl : s2.heap.IsList a arr := ⟨_, hh, rfl, c, rfl⟩
  cases q2 with
  | @list _ _ y h1 hn hx q =>
    exact rb.int_c fun _ => tail_any hl.typeIs slot_list_getitem.lookup (getItem_ok hl hr h1 hn hx fun v rv => ⟨y, σ2, f2, s2', rv, i2, q⟩) (Pl.f2 hs _ _)
def partV (x : V) : Option (Option Int) := match x with
  | .none => some none
  | .int i => some (some i)
  | _ => none
theorem partV_ok {fz : Led} {v : Value} {x : V} {i : Option Int} (r : FR fz v x) (h : partV x = some i) : IsPart v i := by
  cases r <;> cases h
  · exact .none
  · exact .int _ _
def wP (G : Gl) (C : Fc) (n : Nat) (e : Option Expr) (Q : V → List V → Prop) (σ : List V) : Prop := match e with
  | none => Q .none σ
  | some e => wF G C n e Q σ
theorem wP_ok {e : Option Expr} (h : wP G C n e Q σ) (ok : Ok G C n) {fz keep : Led} {s : Shared} (i : In C fz keep σ s) : wpAny G.M C.A (evalPart e C.env) (PF C fz keep Q) C.E s := by
  cases e with
  | none => exact wpAny_evalPart_none (PF.intro .none i h)
  | some e => exact wpAny_evalPart_some (h ok fz keep s i)
def pick (xs : List V) (lo hi : Option Int) : List V := (xs.drop (kms_lo lo xs.length)).take (kms_hi hi xs.length - kms_lo lo xs.length)
theorem FRs.pick {fz : Led} {vs : List Value} {xs : List V} (r : FRs fz vs xs) (lo hi : Option Int) : FRs fz (kms_pick vs lo hi) (pick xs lo hi) := by
  unfold kms_pick Mine.pick
  rw [r.length]
  exact (r.drop _).take _
@[reducible] def kSl3 (xs : List V) (l : V) (Q : V → List V → Prop) (u : V) (σ2 : List V) : Prop := ∃ lo hi, partV l = some lo ∧ partV u = some hi ∧ Q (.list (pick xs lo hi)) σ2
@[reducible] def kSl2 (G : Gl) (C : Fc) (n : Nat) (upper : Option Expr) (xs : List V) (Q : V → List V → Prop) (l : V) (σ1 : List V) : Prop := wP G C n upper (kSl3 xs l Q) σ1
@[reducible] def kSl (G : Gl) (C : Fc) (n : Nat) (lower upper : Option Expr) (Q : V → List V → Prop) (o : V) (σ0 : List V) : Prop := ∃ xs, o = .list xs ∧ xs.length ≤ 1000000 ∧ wP G C n lower (kSl2 G C n upper xs Q) σ0
@[reducible] def kBk (C : Fc) (x : Str) (k : Nat) (a : Addr) (xs : List V) (Q : V → List V → Prop) (y : V) (σ2 : List V) : Prop := ∃ σ3, At C.names σ2 x k (.brw a) ∧ Put C.names σ2 x k (.own a xs) σ3 ∧ Q y σ3
@[reducible] def kRev (Q : V → List V → Prop) (o : V) (σ1 : List V) : Prop := ∃ xs, o = .list xs ∧ xs.length ≤ 1000000 ∧ Q (.list xs.reverse) σ1
theorem kSl3_nn {xs : List V} (q : Q (.list (pick xs none none)) σ) : kSl3 xs .none Q .none σ := ⟨_, _, rfl, rfl, q⟩
theorem kSl3_ni {xs : List V} {j : Int} (q : Q (.list (pick xs none (some j))) σ) : kSl3 xs .none Q (.int j) σ := ⟨_, _, rfl, rfl, q⟩
theorem kSl3_in {xs : List V} {i : Int} (q : Q (.list (pick xs (some i) none)) σ) : kSl3 xs (.int i) Q .none σ := ⟨_, _, rfl, rfl, q⟩
theorem kSl3_ii {xs : List V} {i j : Int} (q : Q (.list (pick xs (some i) (some j))) σ) : kSl3 xs (.int i) Q (.int j) σ := ⟨_, _, rfl, rfl, q⟩
theorem kSl_i {lower upper : Option Expr} {xs : List V} (hz : xs.length ≤ 1000000) (q : wP G C n lower (kSl2 G C n upper xs Q) σ) : kSl G C n lower upper Q (.list xs) σ := ⟨_, rfl, hz, q⟩
theorem kRev_i {xs : List V} (hz : xs.length ≤ 1000000) (q : Q (.list xs.reverse) σ) : kRev Q (.list xs) σ := ⟨_, rfl, hz, q⟩
theorem kBk_i {x : Str} {k : Nat} {a : Addr} {xs : List V} {y : V} {σ3 : List V} (ha : At C.names σ x k (.brw a)) (hp : Put C.names σ x k (.own a xs) σ3) (q : Q y σ3) : kBk C x k a xs Q y σ := ⟨σ3, ha, hp, q⟩
theorem slice_ok {value : Expr} {lower upper : Option Expr} {p : Pos} {fz keep : Led} {s : Shared} {a : Addr} {arr : Array Value} {xs : List V} (ok : Ok G C n) (i : In C fz keep σ s) (hl : s.heap.IsList a arr) (hr : FRs fz arr.toList xs) (hz : xs.length ≤ 1000000)
    (hl' : ∀ s' fz' σ', Sub fz fz' → In C fz' keep σ' s' → s'.heap.IsList a arr)
    (h : wP G C n lower (kSl2 G C n upper xs Q) σ) :
    wpAny G.M C.A (eval (.Slice lower upper none p) C.env) (fun iv s2 => wpAny G.M C.A (subscriptTail value (.Slice lower upper none p) (.ref a) iv) (PF C fz keep Q) C.E s2) C.E s := by
  refine wpAny_Slice (wpAny_mono (wP_ok h ok i) (fun vl s1 ⟨l, σ1, f1, s1', rl, i1, q1⟩ => ?_) fun _ _ x => x)
  refine wpAny_mono (wP_ok q1 ok i1) (fun vu s2 ⟨u, σ2, f2, s2', ru, i2, lo, hi, el, eu, q2⟩ => ?_) fun _ _ x => x
  refine wpAny_evalPart_none ?_
  have hl2 : s2.heap.IsList a arr := hl' s2 f2 σ2 (s1'.trans s2') i2
  have hsz : arr.size = xs.length := by rw [← Array.length_toList]; exact hr.length
  have i3 : In C f2 keep σ2 { s2 with heap := s2.heap.push { cls := .type "slice", data := .fields #[vl, vu, .none] } } := i2.keeps (t := s2.toks) fun b o e => Heap.get?_push_of_some _ e
  refine tail_any (Heap.IsList.typeIs (s := { s2 with heap := s2.heap.push { cls := .type "slice", data := .fields #[vl, vu, .none] } }) (hl2.push _)) list_getitem_lookup
    (wpAny_getItem_list_slice (hl2.push _) (Heap.IsSliceOf.new ..) (partV_ok (rl.mono s2') el) (partV_ok ru eu) .none (by simp) ?_ (by rw [sizeLine_eq]; omega)) rfl
  have i4 := i3.push { cls := .type "list", data := .seq (slicePick arr lo hi none) } rfl
  refine ⟨_, σ2, _, (s1'.trans s2').trans Sub.cons, .list _ _ 0 _ (.head _) ?_, i4, q2⟩
  rw [kms_pick_eq]
  exact ((hr.pick lo hi).mono (s1'.trans s2')).mono Sub.cons
theorem wF_slice {value : Expr} {lower upper : Option Expr} {p pos : Pos} (h : wF G C n value (kSl G C n lower upper Q) σ) :
    wF G C n (.Subscript value (.Slice lower upper none p) pos) Q σ := fun ok fz keep s i => by
  refine Subscript_ (wpAny_mono (h ok fz keep s i) (fun v s1 ⟨a, σ1, f1, s1', ra, i1, xs, ea, hz, q1⟩ => ?_) fun _ _ x => x)
  subst ea
  refine ra.list_c fun a arr m hm hr => ?_
  · refine wpAny_mono (slice_ok (value := value) ok i1 ⟨_, i1.get hm, rfl, m, rfl⟩ hr hz (fun s' fz' σ' hs i' => ⟨_, i'.get (hs _ hm), rfl, m, rfl⟩) q1) (fun iv s2 h2 => ?_) fun _ _ x => x
    exact wpAny_mono h2 (fun _ _ p => p.le s1') fun _ _ x => x
theorem wF_sliceO {x : Str} {px : Pos} {lower upper : Option Expr} {p pos : Pos} {k : Nat} {a : Addr} {xs : List V} {σ0 : List V} (ha : At C.names σ x k (.own a xs)) (hp : Put C.names σ x k (.brw a) σ0) (hz : xs.length ≤ 1000000)
    (h : wP G C n lower (kSl2 G C n upper xs (kBk C x k a xs Q)) σ0) :
    wF G C n (.Subscript (.Name x px) (.Slice lower upper none p) pos) Q σ := fun ok fz keep s i => by
  obtain ⟨m, F, em⟩ := i.addr ha
  have hl := ok.loc x (List.mem_of_getElem? ha.names)
  refine Subscript_ (nameX_L F em ?_ ok.hk hl.1 hl.2)
  obtain ⟨o, ⟨arr, c, ho, hr⟩, i0, _⟩ := i.take ha.vals
  rw [← hp.eq] at i0
  subst ho
  refine wpAny_mono (slice_ok (value := .Name x px) (keep := (a, listOf arr c) :: keep) (Q := kBk C x k a xs Q) ok i0 ⟨_, i0.getK (.head _), rfl, c, rfl⟩ hr hz (fun s' fz' σ' hs i' => ⟨_, i'.getK (.head _), rfl, c, rfl⟩) h) (fun iv s2 h2 => ?_) fun _ _ x => x
  refine wpAny_mono h2 (fun v s3 ⟨y, σ2, f2, s2', r2, i2, σ3, hb, hput, q⟩ => ?_) fun _ _ x => x
  have i3 := i2.back hb.vals ⟨arr, c, rfl, hr.mono s2'⟩
  rw [← hput.eq] at i3
  exact ⟨y, σ3, f2, s2', r2, i3, q⟩
theorem wF_rev {value : Expr} {k : Nat} {p1 p2 p3 pos : Pos} (h : wF G C n value (kRev Q) σ) :
    wF G C n (.Subscript value (.Slice none none (some (.UnaryOp .USub (.Constant (.int 1) k p1) p2)) p3) pos) Q σ := fun ok fz keep s i => by
  refine Subscript_ (wpAny_mono (h ok fz keep s i) (fun v s1 ⟨a, σ1, f1, s1', ra, i1, xs, ea, hz, q1⟩ => ?_) fun _ _ x => x)
  subst ea
  refine ra.list_c fun a arr m hm hr => ?_
  · have hsz : arr.size = xs.length := by rw [← Array.length_toList]; exact hr.length
    refine wpAny_Slice (wpAny_evalPart_none (wpAny_evalPart_none (wpAny_evalPart_some (wpAny_UnaryOp (wpAny_Constant_int (neg_int ?_))))))
    have i2 := (i1.tok (s1.toks + 1)).tok (s1.toks + 1 + 1)
    have hl2 : s1.heap.IsList a arr := ⟨_, i1.get hm, rfl, m, rfl⟩
    refine tail_any (Heap.IsList.typeIs (s := { s1 with heap := s1.heap.push _ }) (hl2.push _)) list_getitem_lookup
      (wpAny_getItem_list_slice (hl2.push _) (Heap.IsSliceOf.new ..) .none .none (.int (-1) _) (by decide) ?_ (by rw [sizeLine_eq]; omega)) rfl
    have i3 := (i2.keeps (h' := s1.heap.push { cls := .type "slice", data := .fields #[.none, .none, .int (-1) (s1.toks + 1)] }) (t := s1.toks + 1 + 1) fun b o e => Heap.get?_push_of_some _ e).push { cls := .type "list", data := .seq (slicePick arr none none (some (-1))) } rfl
    refine ⟨_, σ1, _, s1'.trans Sub.cons, .list _ _ 0 _ (.head _) ?_, i3, q1⟩
    rw [krv_pick]
    exact hr.reverse.mono Sub.cons
end
end Mine
end
section
open PySem PySem.W PySem.Calls PyProof.Rows
set_option Elab.async false
set_option maxRecDepth 100000
set_option linter.unusedVariables false
namespace Mine
open Builtin
section
variable {G : Gl} {C : Fc} {n : Nat} {Q : V → List V → Prop} {σ : List V}
@[reducible] def kTup (Q : V → List V → Prop) (xs σ1 : List V) : Prop := xs.length ≤ 1000 ∧ Q (.tuple xs) σ1
@[reducible] def kLst (Q : Addr → List V → List V → Prop) (xs σ1 : List V) : Prop := xs.length ≤ 1000 ∧ ∀ a, Q a xs σ1
@[reducible] def kMul2 (a : V) (Q : Addr → List V → List V → Prop) (b : V) (σ2 : List V) : Prop := ∃ x k, a = .list [x] ∧ b = .int k ∧ -1000000 ≤ k ∧ k ≤ 1000000 ∧ ∀ d, Q d (List.replicate k.toNat x) σ2
@[reducible] def kMul (G : Gl) (C : Fc) (n : Nat) (r : Expr) (Q : Addr → List V → List V → Prop) (a : V) (σ1 : List V) : Prop := wF G C n r (kMul2 a Q) σ1
@[reducible] def kCat2 (a : V) (Q : Addr → List V → List V → Prop) (b : V) (σ2 : List V) : Prop := ∃ xs ys, a = .list xs ∧ b = .list ys ∧ xs.length + ys.length ≤ 1000000 ∧ ∀ d, Q d (xs ++ ys) σ2
@[reducible] def kCat (G : Gl) (C : Fc) (n : Nat) (r : Expr) (Q : Addr → List V → List V → Prop) (a : V) (σ1 : List V) : Prop := wF G C n r (kCat2 a Q) σ1
@[reducible] def kDrp (Q : Fl → List V → Prop) (v : V) (σ1 : List V) : Prop := v = .none ∧ Q .next σ1
@[reducible] def kApp (C : Fc) (x : Str) (a : Addr) (Q : V → List V → Prop) (v : V) (σ1 : List V) : Prop := ∃ k ys σ2, At C.names σ1 x k (.own a ys) ∧ ys.length ≤ 1000000 ∧ Put C.names σ1 x k (.own a (ys ++ [v])) σ2 ∧ Q .none σ2
theorem kTup_i {xs : List V} (h : Pl (Nat.ble xs.length 1000 = true)) (q : Q (.tuple xs) σ) : kTup Q xs σ := ⟨Nat.le_of_ble_eq_true h, q⟩
theorem kLst_i {xs : List V} {Q : Addr → List V → List V → Prop} (h : Pl (Nat.ble xs.length 1000 = true)) (q : ∀ a, Q a xs σ) : kLst Q xs σ := ⟨Nat.le_of_ble_eq_true h, q⟩
theorem kMul_i {x : V} {k : Int} {Q : Addr → List V → List V → Prop} (h : -1000000 ≤ k ∧ k ≤ 1000000) (q : ∀ d, Q d (List.replicate k.toNat x) σ) : kMul2 (.list [x]) Q (.int k) σ := ⟨x, k, rfl, rfl, h.1, h.2, q⟩
theorem kCat_i {xs ys : List V} {Q : Addr → List V → List V → Prop} (h : xs.length + ys.length ≤ 1000000) (q : ∀ d, Q d (xs ++ ys) σ) : kCat2 (.list xs) Q (.list ys) σ := ⟨xs, ys, rfl, rfl, h, q⟩
theorem kDrp_i {Q : Fl → List V → Prop} (q : Q .next σ) : kDrp Q .none σ := ⟨rfl, q⟩
theorem kApp_i {x : Str} {a : Addr} {v : V} {k : Nat} {ys σ2 : List V} (ha : At C.names σ x k (.own a ys)) (hz : ys.length ≤ 1000000) (hp : Put C.names σ x k (.own a (ys ++ [v])) σ2) (q : Q .none σ2) : kApp C x a Q v σ := ⟨k, ys, σ2, ha, hz, hp, q⟩
theorem wF_tuple {es : List Expr} {k : Nat} {pos : Pos} (h : wA G C n es (kTup Q) σ) : wF G C n (.Tuple es k pos) Q σ := fun ok fz keep s i => by
  refine wpAny_Tuple (wpAny_mono (h ok fz keep s pos i) (fun vs s1 ⟨xs, σ1, f1, s1', r, i1, hl, q⟩ => ⟨by have := r.length; rw [sizeLine_eq]; omega, ?_⟩) fun _ _ x => x)
  have i2 := i1.push { cls := .type "tuple", data := .seq vs.toArray } rfl
  exact ⟨_, σ1, _, s1'.trans Sub.cons, .tuple _ _ vs.toArray 0 xs (.head _) rfl rfl (by simpa using r.mono Sub.cons), i2, q⟩
theorem wO_list {es : List Expr} {pos : Pos} {Q : Addr → List V → List V → Prop} (h : wA G C n es (kLst Q) σ) : wO G C n (.List es pos) Q σ := fun ok fz keep s i => by
  refine wpAny_List (wpAny_mono (h ok fz keep s pos i) (fun vs s1 ⟨xs, σ1, f1, s1', r, i1, hl, q⟩ => ⟨by have := r.length; rw [sizeLine_eq]; omega, ?_⟩) fun _ _ x => x)
  have i2 := i1.pushK { cls := .type "list", data := .seq vs.toArray } rfl
  exact ⟨_, xs, _, σ1, f1, s1', rfl, ⟨vs.toArray, 0, rfl, by simpa using r⟩, i2, q _⟩
theorem foldl_replicate_one (v : Value) : ∀ (k : Nat) (acc : Array Value), List.foldl (fun x1 x2 => x1 ++ x2) acc (List.replicate k #[v]) = acc ++ (List.replicate k v).toArray
  | 0, acc => by simp
  | k + 1, acc => by
    rw [List.replicate_succ, List.foldl_cons, foldl_replicate_one v k, List.replicate_succ]
    apply Array.toList_inj.mp; simp
theorem FRs.replicate {fz : Led} {v : Value} {x : V} (r : FR fz v x) : ∀ k : Nat, FRs fz (List.replicate k v) (List.replicate k x)
  | 0 => .nil
  | k + 1 => .cons r (FRs.replicate r k)
theorem wO_mul {l r : Expr} {pos : Pos} {Q : Addr → List V → List V → Prop} (h : wF G C n l (kMul G C n r Q) σ) : wO G C n (.BinOp l .Mult r pos) Q σ := fun ok fz keep s i => by
  refine wpAny_BinOp (wpAny_mono (h ok fz keep s i) (fun v s1 ⟨a, σ1, f1, s1', ra, i1, q1⟩ => ?_) fun _ _ x => x)
  refine wpAny_mono (q1 ok f1 keep s1 i1) (fun w s2 ⟨b, σ2, f2, s2', rb, i2, x, k, ea, eb, hlo, hk, q2⟩ => ?_) fun _ _ x => x
  subst ea; subst eb
  refine ra.list_c fun a arr m hm hr => rb.int_c fun _ => ?_
  ·
    have hh := i2.get (s2' _ hm)
    obtain ⟨m', ol, F, L, N, D, e⟩ := id i2
    obtain ⟨v, ev, rv⟩ : ∃ v, arr = #[v] ∧ FR f1 v x := by
      have hl := hr.length
      obtain ⟨v, hv, rv⟩ := hr.get (i := 0) (x := x) rfl
      refine ⟨v, Array.toList_inj.mp ?_, rv⟩
      cases harr : arr.toList with
      | nil => rw [harr] at hl; simp at hl
      | cons z zs =>
        rw [harr] at hl hv
        cases zs with
        | nil => simp at hv; subst hv; rfl
        | cons _ _ => simp at hl
    subst ev
    refine mul_list F N hh (by omega) (by omega) (by simp; omega) fun h' F' N' => ?_
    have i3 := In.growK (t := s2.toks) F' L N' D (In.old N) e
    refine ⟨_, _, _, σ2, f2, s1'.trans s2', rfl, ⟨_, 0, rfl, ?_⟩, i3, q2 _⟩
    rw [show (#[v] : Array Value).isEmpty = false from rfl, if_neg (by decide), foldl_replicate_one]
    simpa using FRs.replicate (rv.mono s2') k.toNat
theorem wO_add {l r : Expr} {pos : Pos} {Q : Addr → List V → List V → Prop} (h : wF G C n l (kCat G C n r Q) σ) : wO G C n (.BinOp l .Add r pos) Q σ := fun ok fz keep s i => by
  refine wpAny_BinOp (wpAny_mono (h ok fz keep s i) (fun v s1 ⟨a, σ1, f1, s1', ra, i1, q1⟩ => ?_) fun _ _ x => x)
  refine wpAny_mono (q1 ok f1 keep s1 i1) (fun w s2 ⟨b, σ2, f2, s2', rb, i2, xs, ys, ea, eb, hk, q2⟩ => ?_) fun _ _ x => x
  subst ea; subst eb
  refine ra.list_c fun a arr m hm hr => rb.list_c fun b brr mb hmb hrb => ?_
  · · obtain ⟨m', ol, F, L, N, D, e⟩ := id i2
      have l1 := hr.length
      have l2 := hrb.length
      refine add_arrays F N ⟨_, i2.get (s2' _ hm), rfl, m, rfl⟩ ⟨_, i2.get hmb, rfl, mb, rfl⟩ (fun h' F' N' => ?_) (by rw [← Array.length_toList, ← Array.length_toList, sizeLine_eq]; omega)
      have i3 := In.growK (t := s2.toks) F' L N' D (In.old N) e
      exact ⟨_, _, _, σ2, f2, s1'.trans s2', rfl, ⟨_, 0, rfl, by simpa using (hr.mono s2').append hrb⟩, i3, q2 _⟩
theorem notInteractive (ok : Ok G C n) : interactive C.env = false := by
  unfold interactive
  have : (C.env.scope.kind == ScopeKind.module) = false := by show (C.cs.kind == ScopeKind.module) = false; rw [ok.hk]; rfl
  rw [this]; rfl
theorem wX_expr {e : Expr} {pos : Pos} {Q : Fl → List V → Prop} (h : wF G C n e (kDrp Q) σ) (hs : Pl (swapsWith e none pos.line C.env = pure false)) : wX G C n (.Expr e pos) Q σ := fun ok fz keep s i =>
  wpAny_Expr (wpAny_mono (h ok fz keep s i) (fun v s1 ⟨x, σ1, f1, s1', r, i1, e, q⟩ => by subst e; exact r.none_c ⟨σ1, f1, s1', i1, q⟩) fun _ _ x => x) (notInteractive ok) hs
theorem wF_append (pl : Sem Bool) {x : Str} {px apos pos : Pos} {e : Expr} {k : Nat} {a : Addr} {xs : List V} (ha : At C.names σ x k (.own a xs))
    (h : wF G C n e (kApp C x a Q) σ)
    (he : Pl (starEach [e] C.env = [(false, eval e C.env)])) (hm : Pl (eval (.Call (.Attribute (.Name x px) "append" apos) [e] [] pos) C.env = (do
      let ov ← eval (.Name x px) C.env
      standAt apos.atName
      let (f, first) ← holding [ov] (getMethod ov "append" pl)
      callWith pos f first (backTo pos (starEach [e] C.env)) []))) : wF G C n (.Call (.Attribute (.Name x px) "append" apos) [e] [] pos) Q σ := fun ok fz keep s i => by
  obtain ⟨m, F, em⟩ := i.addr ha
  have hl := ok.loc x (List.mem_of_getElem? ha.names)
  obtain ⟨o0, ⟨arr0, c0, ho0, _⟩, i0, _⟩ := i.take ha.vals
  subst ho0
  refine MethodCall_ (pl := pl) (nameX_L F em ?_ ok.hk hl.1 hl.2) hm
  refine Calls.getMethod_list_append (i0.getK (.head _)) rfl rfl ?_
  refine callWith_method1 (wpAny_items_cons (wpAny_mono (h ok fz keep s i) (fun v s1 ⟨y, σ1, f1, s1', r, i1, k', ys, σ2, ha', hz, hp, q⟩ => wpAny_items_nil ?_) fun _ _ x => x) he) he rfl
  obtain ⟨o, ⟨arr, c, ho, hr⟩, i2, _⟩ := i1.take ha'.vals
  subst ho
  have hsz : arr.size = ys.length := by rw [← Array.length_toList]; exact hr.length
  refine append_at (i2.getK (.head _)) (fun h' hs' ho' => ?_) (by rw [sizeLine_eq]; omega)
  have i3 := i2.change (t := s1.toks) hs' ho'
  have hb : (σ1.set k' (.brw a))[k']? = some (.brw a) := by
    have := (List.getElem?_eq_some_iff.mp ha'.vals).1
    simp [this]
  have i4 := i3.back hb ⟨arr.push v, c + 1, rfl, by rw [Array.toList_push]; exact hr.append (.cons r .nil)⟩
  rw [List.set_set, ← hp.eq] at i4
  exact ⟨.none, σ2, f1, s1', .none, i4, q⟩
section
variable {es0 : List Expr} {p0 p1 p2 pos : Pos} {r r0 l : Expr} {o : Operator}
theorem wF_listL (h : wA G C n es0 (kLst (kOF Q)) σ) : wF G C n (.List es0 pos) Q σ := wF_of_wO (wO_list h)
theorem wF_mulL (h : wF G C n (.List es0 p0) (kMul G C n r (kOF Q)) σ) : wF G C n (.BinOp (.List es0 p0) .Mult r pos) Q σ := wF_of_wO (wO_mul h)
theorem wF_addL (h : wF G C n (.BinOp (.List es0 p0) o r0 p1) (kCat G C n r (kOF Q)) σ) : wF G C n (.BinOp (.BinOp (.List es0 p0) o r0 p1) .Add r pos) Q σ := wF_of_wO (wO_add h)
theorem wF_addA (h : wF G C n (.Name (Str.ofString "ahead") p1) (kCat G C n r (kOF Q)) σ) : wF G C n (.BinOp (.Name (Str.ofString "ahead") p1) .Add r pos) Q σ := wF_of_wO (wO_add h)
theorem wX_assignL {x : Str} {p pos : Pos} {Q : Fl → List V → Prop} (h : wA G C n es0 (kLst (kAsgO C x Q)) σ) (hs : Pl (swapsWith (.List es0 p0) (some (.Name x p)) pos.line C.env = pure false)) : wX G C n (.Assign [.Name x p] (.List es0 p0) pos) Q σ := wX_assignO (wO_list h) hs
theorem wX_assignM {x : Str} {p pos : Pos} {Q : Fl → List V → Prop} (h : wF G C n (.List es0 p0) (kMul G C n r (kAsgO C x Q)) σ) (hs : Pl (swapsWith (.BinOp (.List es0 p0) .Mult r p1) (some (.Name x p)) pos.line C.env = pure false)) : wX G C n (.Assign [.Name x p] (.BinOp (.List es0 p0) .Mult r p1) pos) Q σ := wX_assignO (wO_mul h) hs
theorem wX_assignA {x : Str} {p pos : Pos} {Q : Fl → List V → Prop} (h : wF G C n l (kCat G C n (.BinOp (.List es0 p0) .Mult r p1) (kAsgO C x Q)) σ) (hs : Pl (swapsWith (.BinOp l .Add (.BinOp (.List es0 p0) .Mult r p1) p2) (some (.Name x p)) pos.line C.env = pure false)) : wX G C n (.Assign [.Name x p] (.BinOp l .Add (.BinOp (.List es0 p0) .Mult r p1) p2) pos) Q σ := wX_assignO (wO_add h) hs
theorem wI_ownL {es : List Expr} {Q : List V → List V → Prop} (h : wA G C n es0 (kLst (kIsO G C n es Q)) σ) (he : Pl (starEach (.List es0 p0 :: es) C.env = (false, eval (.List es0 p0) C.env) :: starEach es C.env)) : wI G C n (.List es0 p0 :: es) Q σ := wI_own (wO_list h) he
theorem wI_ownM {es : List Expr} {Q : List V → List V → Prop} (h : wF G C n (.List es0 p0) (kMul G C n r (kIsO G C n es Q)) σ) (he : Pl (starEach (.BinOp (.List es0 p0) .Mult r p1 :: es) C.env = (false, eval (.BinOp (.List es0 p0) .Mult r p1) C.env) :: starEach es C.env)) : wI G C n (.BinOp (.List es0 p0) .Mult r p1 :: es) Q σ := wI_own (wO_mul h) he
end
end
end Mine
end
section
open PySem PySem.W PySem.Calls PyProof.Rows
set_option Elab.async false
set_option maxRecDepth 100000
set_option linter.unusedVariables false
namespace Mine
open Builtin
section
variable {G : Gl} {C : Fc} {n : Nat} {Q : V → List V → Prop} {σ : List V}
theorem set_brw {σ : List V} {k : Nat} {a : Addr} {v : V} (h : σ[k]? = some v) : (σ.set k (.brw a))[k]? = some (.brw a) := by
  have := (List.getElem?_eq_some_iff.mp h).1
  simp [this]
theorem wF_reverse (pl : Sem Bool) {x : Str} {px apos pos : Pos} {k : Nat} {a : Addr} {xs : List V} {σ' : List V} (ha : At C.names σ x k (.own a xs)) (hz : xs.length ≤ 1000000) (hp : Put C.names σ x k (.own a xs.reverse) σ') (q : Q .none σ')
    (hm : Pl (eval (.Call (.Attribute (.Name x px) "reverse" apos) [] [] pos) C.env = (do
      let ov ← eval (.Name x px) C.env
      standAt apos.atName
      let (f, first) ← holding [ov] (getMethod ov "reverse" pl)
      callWith pos f first (backTo pos (starEach [] C.env)) []))) : wF G C n (.Call (.Attribute (.Name x px) "reverse" apos) [] [] pos) Q σ := fun ok fz keep s i => by
  obtain ⟨m, F, em⟩ := i.addr ha
  have hl := ok.loc x (List.mem_of_getElem? ha.names)
  obtain ⟨o, ⟨arr, c, ho, hr⟩, i2, _⟩ := i.take ha.vals
  subst ho
  have hh := i2.getK (.head _)
  have hT : s.TypeIs (.ref a) "list" := ⟨_, hh, rfl⟩
  have hsz : arr.size = xs.length := by rw [← Array.length_toList]; exact hr.length
  refine MethodCall_ (pl := pl) (nameX_L F em ?_ ok.hk hl.1 hl.2) hm
  refine getMethod_builtin hT PySem.F.plainAttrs_list PySem.F.slot_list_reverse PySem.F.type_list_reverse (fun b e => by cases e; exact ⟨_, hh, rfl⟩) ?_
  refine callWith_method0 (call_meets PySem.F.slot_list_reverse hT PySem.F.entry_list_reverse (PySem.F.args_list_reverse_1 _) (AutoListH.list_reverse_list_0 a arr c (by rw [sizeLine_eq]; omega)) ⟨hh, ?_⟩)
  have hu : Obj.mapSeq (fun x => x.reverse) (listOf arr c) = listOf arr.reverse c := by simp [Obj.mapSeq]
  have i3 := i2.change (t := s.toks) (h' := s.heap.update a (Obj.mapSeq fun x => x.reverse)) (Heap.SameBut.update ..) (o' := listOf arr.reverse c) (by rw [Heap.get?_update_self _ hh (by rw [hu]; rfl), hu])
  have i4 := i3.back (set_brw ha.vals) ⟨arr.reverse, c, rfl, by rw [Array.toList_reverse]; exact hr.reverse⟩
  rw [List.set_set, ← hp.eq] at i4
  exact ⟨.none, σ', fz, Sub.rfl, .none, i4, q⟩
@[reducible] def kSet2 (C : Fc) (x : Str) (a : Addr) (v : V) (Q : Fl → List V → Prop) (i : V) (σ2 : List V) : Prop := ∃ k ys j σ3, At C.names σ2 x k (.own a ys) ∧ i = .int j ∧ 0 ≤ j ∧ j < ys.length ∧ ys.length ≤ 1000000 ∧ Put C.names σ2 x k (.own a (ys.set j.toNat v)) σ3 ∧ Q .next σ3
@[reducible] def kSet (G : Gl) (C : Fc) (n : Nat) (x : Str) (idx : Expr) (Q : Fl → List V → Prop) (v : V) (σ1 : List V) : Prop := ∃ k a xs, At C.names σ1 x k (.own a xs) ∧ wF G C n idx (kSet2 C x a v Q) σ1
theorem kSet2_i {x : Str} {a : Addr} {v : V} {Q : Fl → List V → Prop} {j : Int} {k : Nat} {ys σ3 : List V} (ha : At C.names σ x k (.own a ys)) (h : 0 ≤ j ∧ j < ys.length ∧ ys.length ≤ 1000000) (hp : Put C.names σ x k (.own a (ys.set j.toNat v)) σ3) (q : Q .next σ3) : kSet2 C x a v Q (.int j) σ := ⟨k, ys, j, σ3, ha, rfl, h.1, h.2.1, h.2.2, hp, q⟩
theorem kSet_i {x : Str} {idx : Expr} {v : V} {Q : Fl → List V → Prop} {k : Nat} {a : Addr} {ys : List V} (ha : At C.names σ x k (.own a ys)) (q : wF G C n idx (kSet2 C x a v Q) σ) : kSet G C n x idx Q v σ := ⟨k, a, ys, ha, q⟩
theorem wX_setitem {x : Str} {px sp pos : Pos} {idx e : Expr} {Q : Fl → List V → Prop}
    (h : wF G C n e (kSet G C n x idx Q) σ)
    (hs : Pl (swapsWith e (some (.Subscript (.Name x px) idx sp)) pos.line C.env = pure false)) : wX G C n (.Assign [.Subscript (.Name x px) idx sp] e pos) Q σ := fun ok fz keep s i => by
  rw [exec_Assign_Subscript (hs := show _ = _ from hs)]
  refine wpAny_bind (wpAny_standAt (wpAny_bind (wpAny_mono (h ok fz keep s i) (fun v s1 ⟨y, σ1, f1, s1', r, i1, k, a, xs, ha, q⟩ => ?_) fun _ _ x => x)))
  obtain ⟨m, F, em⟩ := i1.addr ha
  have hl := ok.loc x (List.mem_of_getElem? ha.names)
  rw [assign_Subscript]
  refine wpAny_bind (wpAny_bind (wpAny_holding (nameX_L F em ?_ ok.hk hl.1 hl.2)))
  refine wpAny_bind (wpAny_holding (wpAny_mono (q ok f1 keep s1 i1) (fun w s2 ⟨z, σ2, f2, s2', rz, i2, k2, ys, j, σ3, ha2, ej, h0, h1, hz, hp, q2⟩ => ?_) fun _ _ x => x))
  subst ej
  refine rz.int_c fun _ => ?_
  obtain ⟨o, ⟨arr, c, ho, hr⟩, i3, _⟩ := i2.take ha2.vals
  subst ho
  have hh := i3.getK (.head _)
  have hsz : arr.size = ys.length := by rw [← Array.length_toList]; exact hr.length
  refine wpAny_bind (wpAny_standAt (wpAny_bind (wpAny_holding (ki_setAt hh h0 (by omega) (by omega) ?_))))
  have hu : Obj.mapSeq (·.setIfInBounds j.toNat v) (listOf arr c) = listOf (arr.setIfInBounds j.toNat v) c := by simp [Obj.mapSeq]
  have i4 := i3.change (t := s2.toks) (h' := s2.heap.update a (Obj.mapSeq (·.setIfInBounds j.toNat v))) (Heap.SameBut.update ..) (o' := listOf (arr.setIfInBounds j.toNat v) c) (by rw [Heap.get?_update_self _ hh (by rw [hu]; rfl), hu])
  have i5 := i4.back (set_brw ha2.vals) ⟨_, c, rfl, by rw [Array.toList_setIfInBounds]; exact hr.set (r.mono s2')⟩
  rw [List.set_set, ← hp.eq] at i5
  exact wpAny_release' (wpAny_pure ⟨σ3, f2, s1'.trans s2', i5, q2⟩)
structure IterP (G : Gl) (C : Fc) (t : Expr) (it : Addr) (items : List V) (fz0 : Led) (J : Nat → Led → Prop) : Prop where
  step : ∀ k x, items[k]? = some x → ∀ fz keep tl σ s (R : Value → Shared → Prop) (E : Value → Shared → Prop), Sub fz0 fz → J k tl → In C fz (tl ++ keep) σ s →
    (∀ v fz' tl' s', Sub fz fz' → J (k + 1) tl' → FR fz' v x → In C fz' (tl' ++ keep) σ s' → R v s') →
    wpAny G.M C.A (pyNext (.ref it)) (fun r s1 => ∃ v, r = some v ∧ wpAny G.M C.A (letOwnedTupleGo t (.ref it) v) (fun _ s2 => R v s2) E s1) E s
  done : ∀ fz keep tl σ s (R : Shared → Prop) (E : Value → Shared → Prop), Sub fz0 fz → J items.length tl → In C fz (tl ++ keep) σ s → (∀ s', In C fz keep σ s' → R s') →
    wpAny G.M C.A (pyNext (.ref it)) (fun r s1 => r = none ∧ R s1) E s
@[reducible] def kLp (I : Nat → List V → Prop) (Q : Fl → List V → Prop) (k : Nat) (f : Fl) (σ2 : List V) : Prop := match f with
  | .next | .cont => I (k + 1) σ2
  | .brk => Q .next σ2
  | .ret v => Q (.ret v) σ2
@[reducible] def kBd (G : Gl) (C : Fc) (n : Nat) (body : List Stmt) (I : Nat → List V → Prop) (Q : Fl → List V → Prop) (k : Nat) (σ1 : List V) : Prop := wS G C n body (kLp I Q k) σ1
inductive kFor (G : Gl) (C C' : Fc) (n : Nat) (t : Expr) (body orelse : List Stmt) (Q : Fl → List V → Prop) (items σ1 : List V) : Prop
  | mk (I : Nat → List V → Prop) (h0 : I 0 σ1) (turn : ∀ k x σ, items[k]? = some x → I k σ → wG G C' n t x (kBd G C' n body I Q k) σ) (fin : ∀ σ, I items.length σ → wS G C' n orelse Q σ)
inductive wItR (G : Gl) (C : Fc) (t : Expr) (fz keep : Led) (Q : List V → List V → Prop) (it : Value) (s2 : Shared) : Prop
  | mk (a : Addr) (items σ' : List V) (fz' tl : Led) (J : Nat → Led → Prop) (e : it = .ref a) (b : Sub fz fz') (P : IterP G C t a items fz' J) (hJ : J 0 tl) (i : In C fz' (tl ++ keep) σ' s2) (q : Q items σ')
abbrev Fc.loop (G : Gl) (C : Fc) : Fc := C.setE (notedBy G.M C.A C.env (cameBackBy G.M C.A C.env C.E))
theorem PS.unE {E : Value → Shared → Prop} {fz keep : Led} {Q : Fl → List V → Prop} {f : Flow} {s : Shared} : PS (C.setE E) fz keep Q f s → PS C fz keep Q f s := fun ⟨σ, f, a, i, q⟩ => ⟨σ, f, a, i, q⟩
theorem PG.unE {E : Value → Shared → Prop} {fz keep : Led} {Q : List V → Prop} {s : Shared} : PG (C.setE E) fz keep Q s → PG C fz keep Q s := fun ⟨σ, f, a, i, q⟩ => ⟨σ, f, a, i, q⟩
theorem PS.toE {E : Value → Shared → Prop} {fz keep : Led} {Q : Fl → List V → Prop} {f : Flow} {s : Shared} : PS C fz keep Q f s → PS (C.setE E) fz keep Q f s := fun ⟨σ, f, a, i, q⟩ => ⟨σ, f, a, i, q⟩
theorem PG.toE {E : Value → Shared → Prop} {fz keep : Led} {Q : List V → Prop} {s : Shared} : PG C fz keep Q s → PG (C.setE E) fz keep Q s := fun ⟨σ, f, a, i, q⟩ => ⟨σ, f, a, i, q⟩
theorem for_loop {t : Expr} {it : Addr} {items : List V} {fz0 : Led} {J : Nat → Led → Prop} {body orelse : List Stmt} {Q : Fl → List V → Prop} (P : IterP G C t it items fz0 J) (ok : Ok G C n) (I : Nat → List V → Prop)
    (turn : ∀ k x σ, items[k]? = some x → I k σ → wG G (C.loop G) n t x (kBd G (C.loop G) n body I Q k) σ)
    (fin : ∀ σ, I items.length σ → wS G (C.loop G) n orelse Q σ) {fz keep tl : Led} {s : Shared} (sub : Sub fz0 fz) (hJ : J 0 tl) (i : In C fz (tl ++ keep) σ s) (hI : I 0 σ) :
    codeAny G.M C.A (.forLoop t (.ref it) body orelse C.env) (fun r s' => match r with | .ok f => PS C fz keep Q f s' | .error e => cameBackBy G.M C.A C.env C.E e s') s := by
  refine codeAny_forLoop_any (fun m s' => ∃ k σ' f' tl', Sub fz f' ∧ k ≤ items.length ∧ m = items.length - k ∧ J k tl' ∧ In C f' (tl' ++ keep) σ' s' ∧ I k σ') ?_ items.length ⟨0, σ, fz, tl, Sub.rfl, Nat.zero_le _, rfl, hJ, i, hI⟩
  rintro m s' ⟨k, σ', f', tl', sub', hk, rfl, hJ', i', hI'⟩
  rcases Nat.lt_or_ge k items.length with hlt | hge
  · have hx : items[k]? = some items[k] := List.getElem?_eq_getElem hlt
    refine wpAny_mono (P.step k _ hx f' keep tl' σ' s' (fun v s2 => wpAny G.M C.A (assign t C.env v) (fun _ s₂ => wpAny G.M C.A (execs body C.env) (fun f s₃ => match f with
            | .next | .cont => ∃ m', m' < items.length - k ∧ ∃ k σ' f' tl', Sub fz f' ∧ k ≤ items.length ∧ m' = items.length - k ∧ J k tl' ∧ In C f' (tl' ++ keep) σ' s₃ ∧ I k σ'
            | .brk => PS C fz keep Q .next s₃
            | .ret v => PS C fz keep Q (.ret v) s₃) (notedBy G.M C.A C.env (cameBackBy G.M C.A C.env C.E)) s₂) (notedBy G.M C.A C.env (cameBackBy G.M C.A C.env C.E)) s2) _ (sub.trans sub') hJ' i' ?_) (fun r s1 ⟨v, er, h⟩ => by subst er; exact h) fun _ _ x => x
    intro v f2 tl2 s2 sub2 hJ2 r2 i2
    refine wpAny_mono (turn k _ σ' hx hI' ok.setE' f2 (tl2 ++ keep) s2 v r2 i2) (fun _ s3 ⟨σ3, f3, sub3, i3, q3⟩ => ?_) fun _ _ x => x
    refine wpAny_mono (q3 ok.setE' f3 (tl2 ++ keep) s3 i3) (fun fl s4 ⟨σ4, f4, sub4, i4, q4⟩ => ?_) fun _ _ x => x
    have up : Sub fz f4 := ((sub'.trans sub2).trans sub3).trans sub4
    cases fl with
    | next => exact ⟨items.length - (k + 1), by omega, k + 1, σ4, f4, tl2, up, hlt, rfl, hJ2, i4, q4⟩
    | cont => exact ⟨items.length - (k + 1), by omega, k + 1, σ4, f4, tl2, up, hlt, rfl, hJ2, i4, q4⟩
    | brk => exact ⟨σ4, f4, up, In.drop (C := C) i4, q4⟩
    | ret v => obtain ⟨x, rx, q⟩ := q4; exact ⟨σ4, f4, up, In.drop (C := C) i4, x, rx, q⟩
  · have e : k = items.length := Nat.le_antisymm hk hge
    subst e
    refine wpAny_mono (P.done f' keep tl' σ' s' (fun s1 => wpAny G.M C.A (execs orelse C.env) (fun f s₃ => PS C fz keep Q f s₃) (notedBy G.M C.A C.env (cameBackBy G.M C.A C.env C.E)) s1) _ (sub.trans sub') hJ' i' ?_) (fun r s1 ⟨er, h⟩ => by subst er; exact h) fun _ _ x => x
    intro s2 i2
    exact wpAny_mono (fin σ' hI' ok.setE' f' keep s2 i2) (fun _ _ p => PS.le sub' (PS.unE p)) fun _ _ x => x
def wIt (G : Gl) (C : Fc) (n : Nat) (t e : Expr) (Q : List V → List V → Prop) (σ : List V) : Prop :=
  Ok G C n → ∀ fz keep s, In C fz keep σ s → wpAny G.M C.A (eval e C.env) (fun xv s1 => wpAny G.M C.A (pyIter xv) (wItR G C t fz keep Q) C.E s1) C.E s
theorem wX_for {t e : Expr} {body orelse : List Stmt} {pos : Pos} {Q : Fl → List V → Prop} (h : wIt G C n t e (kFor G C (C.loop G) n t body orelse Q) σ)
    (hs : ∀ x, foldedSetIterable e C.env x = pure x) : wX G C n (.For t e body orelse pos) Q σ := fun ok fz keep s i => by
  refine wpAny_For (wpAny_mono (h ok fz keep s i) (fun xv s1 h1 => wpAny_mono h1 (fun it s2 ⟨a, items, σ', f', tl, J, ei, sub, P, hJ, i2, I, h0, turn, fin⟩ => ?_) fun _ _ x => x) fun _ _ x => x) hs
  subst ei
  refine codeAny_mono (for_loop P ok I turn fin Sub.rfl hJ i2 h0) (fun r s' h' => ?_)
  cases r with
  | ok f => exact PS.le sub h'
  | error e => exact h'
theorem wS_loop {ss : List Stmt} {Q : Fl → List V → Prop} (hE : C.E = fun _ _ => False) (h : wS G C n ss Q σ) : wS G (C.loop G) n ss Q σ := fun ok fz keep s i =>
  wpAny_mono (h ok.setE fz keep s i) (fun _ _ p => p.toE) fun _ _ x => by rw [hE] at x; exact x.elim
theorem wG_loop {t : Expr} {x : V} {Q : List V → Prop} (hE : C.E = fun _ _ => False) (h : wG G C n t x Q σ) : wG G (C.loop G) n t x Q σ := fun ok fz keep s v r i =>
  wpAny_mono (h ok.setE fz keep s v r i) (fun _ _ p => p.toE) fun _ _ x => by rw [hE] at x; exact x.elim
theorem wX_for' {t e : Expr} {body orelse : List Stmt} {pos : Pos} {Q : Fl → List V → Prop} (hE : Pl (C.E = fun _ _ => False)) (h : wIt G C n t e (kFor G C C n t body orelse Q) σ)
    (hs : Pl (foldedSetIterable e C.env = fun x => pure x)) : wX G C n (.For t e body orelse pos) Q σ := by
  refine wX_for (fun ok fz keep s i => ?_) (Pl.f1 hs)
  refine wpAny_mono (h ok fz keep s i) (fun xv s1 h1 => wpAny_mono h1 (fun it s2 ⟨a, items, σ', f', tl, J, ei, sub, P, hJ, i2, I, h0, turn, fin⟩ => ?_) fun _ _ x => x) fun _ _ x => x
  refine ⟨a, items, σ', f', tl, J, ei, sub, P, hJ, i2, I, h0, fun k x σ hx hI => ?_, fun σ hI => wS_loop hE (fin σ hI)⟩
  exact wG_loop hE fun ok fz keep s v r i => wpAny_mono (turn k x σ hx hI ok fz keep s v r i) (fun _ s' ⟨σ', f', a, b, q⟩ => ⟨σ', f', a, b, wS_loop hE q⟩) fun _ _ x => x
end
end Mine
end
section
open PySem PySem.W PySem.Calls PyProof.Rows
set_option Elab.async false
set_option maxRecDepth 100000
set_option linter.unusedVariables false
namespace Mine
open Builtin
theorem In.lose {C : Fc} {fz keep tl : Led} {σ : List V} {s : Shared} (i : In C fz (tl ++ keep) σ s) {h' : Heap} {t : Nat}
    (hk : ∀ b o, b ∉ tl.map (·.1) → s.heap.get? b = some o → h'.get? b = some o) : In C fz keep σ { s with heap := h', toks := t } := by
  obtain ⟨m, ol, F, L, N, D, hh, tt, e⟩ := i
  have P : (ol ++ (tl ++ keep)).Perm (tl ++ (ol ++ keep)) := by
    rw [← List.append_assoc, ← List.append_assoc]; exact (List.perm_append_comm).append_right keep
  have D' := D.perm P
  have inN : ∀ p ∈ tl, p ∈ ol ++ (tl ++ keep) ++ fz := fun p hp => List.mem_append_left _ (List.mem_append_right _ (List.mem_append_left _ hp))
  have back : ∀ b ∈ tl.map (·.1), b ≠ C.L ∧ C.h₀.get? b = none := fun b hb => by
    obtain ⟨p, hp, rfl⟩ := List.mem_map.mp hb
    exact (N p (inN p hp)).2
  have nd := D'.1
  rw [List.map_append] at nd
  have apart : ∀ p ∈ ol ++ keep, p.1 ∉ tl.map (·.1) := fun p hp hm => (List.nodup_append.mp nd).2.2 _ hm _ (List.mem_map_of_mem hp) rfl
  have apartF : ∀ p ∈ fz, p.1 ∉ tl.map (·.1) := fun p hp hm => by
    obtain ⟨q, hq, e⟩ := List.mem_map.mp hm
    exact D'.2 q (List.mem_append_left _ hq) p hp e
  refine ⟨m, ol, ⟨F.ns.at' fun o e => hk _ o (fun hm => (back _ hm).1 rfl) e, fun b o e => hk b o (fun hm => ?_) (F.keep b o e), F.above⟩, L, fun p hp => ?_, ⟨?_, fun p hp q hq => D'.2 p (List.mem_append_right _ hp) q hq⟩, h', t, by rw [e]⟩
  · rw [(back _ hm).2] at e; cases e
  · rcases List.mem_append.mp hp with q | q
    · have hN := N p (List.mem_append_left _ (P.mem_iff.mpr (List.mem_append_right _ q)))
      exact ⟨hk _ _ (apart p q) hN.1, hN.2⟩
    · have hN := N p (List.mem_append_right _ q)
      exact ⟨hk _ _ (apartF p q) hN.1, hN.2⟩
  · exact (List.nodup_append.mp nd).2.1
theorem In.swapPush {C : Fc} {fz keep tl tl' : Led} {σ : List V} {s : Shared} (i : In C fz (tl ++ keep) σ s) {h' : Heap} {t : Nat} {T : Addr} {o : Obj}
    (hk : ∀ b o, b ∉ tl.map (·.1) → s.heap.get? b = some o → h'.get? b = some o) (ha : tl'.map (·.1) = tl.map (·.1)) (ho : ∀ p ∈ tl', h'.get? p.1 = some p.2) (hT : s.heap.objs.size ≤ T) (hoT : h'.get? T = some o) : In C ((T, o) :: fz) (tl' ++ keep) σ { s with heap := h', toks := t } := by
  obtain ⟨m, ol, F, L, N, D, hh, tt, e⟩ := i
  have P : (ol ++ (tl ++ keep)).Perm (tl ++ (ol ++ keep)) := by
    rw [← List.append_assoc, ← List.append_assoc]; exact (List.perm_append_comm).append_right keep
  have P' : (ol ++ (tl' ++ keep)).Perm (tl' ++ (ol ++ keep)) := by
    rw [← List.append_assoc, ← List.append_assoc]; exact (List.perm_append_comm).append_right keep
  have D' := D.perm P
  have inN : ∀ p ∈ tl, p ∈ ol ++ (tl ++ keep) ++ fz := fun p hp => List.mem_append_left _ (List.mem_append_right _ (List.mem_append_left _ hp))
  have back : ∀ b ∈ tl.map (·.1), b ≠ C.L ∧ C.h₀.get? b = none := fun b hb => by
    obtain ⟨p, hp, rfl⟩ := List.mem_map.mp hb
    exact (N p (inN p hp)).2
  have nd := D'.1
  rw [List.map_append] at nd
  have lt : ∀ p ∈ ol ++ (tl ++ keep) ++ fz, p.1 < T := fun p hp => Nat.lt_of_lt_of_le (Heap.lt_size (N p hp).1) hT
  have apart : ∀ p ∈ ol ++ keep, p.1 ∉ tl.map (·.1) := fun p hp hm => (List.nodup_append.mp nd).2.2 _ hm _ (List.mem_map_of_mem hp) rfl
  have apartF : ∀ p ∈ fz, p.1 ∉ tl.map (·.1) := fun p hp hm => by
    obtain ⟨q, hq, e⟩ := List.mem_map.mp hm
    exact D'.2 q (List.mem_append_left _ hq) p hp e
  have hTL : T ≠ C.L := fun e => absurd F.ns.lt (by rw [← e]; exact Nat.not_lt.mpr hT)
  have hT0 : C.h₀.get? T = none := by
    cases q : C.h₀.get? T with
    | none => rfl
    | some o' => exact absurd (Nat.lt_of_lt_of_le (Heap.lt_size (F.keep T o' q)) hT) (Nat.lt_irrefl _)
  refine ⟨m, ol, ⟨F.ns.at' fun o e => hk _ o (fun hm => (back _ hm).1 rfl) e, fun b o e => hk b o (fun hm => ?_) (F.keep b o e), F.above⟩, L.mono Sub.cons, fun p hp => ?_, Dis.perm P'.symm ⟨?_, fun p hp q hq => ?_⟩, h', t, by rw [e]⟩
  · rw [(back _ hm).2] at e; cases e
  · have old : ∀ p ∈ ol ++ (tl ++ keep) ++ fz, p.1 ∉ tl.map (·.1) → h'.get? p.1 = some p.2 ∧ p.1 ≠ C.L ∧ C.h₀.get? p.1 = none := fun p hp hne => ⟨hk _ _ hne (N p hp).1, (N p hp).2⟩
    rcases List.mem_append.mp hp with q | q
    · rcases List.mem_append.mp (P'.mem_iff.mp q) with q | q
      · exact ⟨ho p q, back _ (ha ▸ List.mem_map_of_mem q)⟩
      · exact old p (List.mem_append_left _ (P.mem_iff.mpr (List.mem_append_right _ q))) (apart p q)
    · rcases List.mem_cons.mp q with rfl | q
      · exact ⟨hoT, hTL, hT0⟩
      · exact old p (List.mem_append_right _ q) (apartF p q)
  · rw [List.map_append, ha]; exact nd
  · rcases List.mem_cons.mp hq with rfl | hq
    · rcases List.mem_append.mp hp with q' | q'
      · have hm : p.1 ∈ tl.map (·.1) := ha ▸ List.mem_map_of_mem q'
        obtain ⟨z, hz, ez⟩ := List.mem_map.mp hm
        have := lt z (inN z hz)
        rw [ez] at this
        exact Nat.ne_of_lt this
      · exact Nat.ne_of_lt (lt p (List.mem_append_left _ (P.mem_iff.mpr (List.mem_append_right _ q'))))
    · rcases List.mem_append.mp hp with q' | q'
      · have hm : p.1 ∈ tl.map (·.1) := ha ▸ List.mem_map_of_mem q'
        exact fun e => apartF q hq (e ▸ hm)
      · exact D'.2 p (List.mem_append_right _ q') q hq
section
variable {G : Gl} {C : Fc} {n : Nat} {Q : V → List V → Prop} {σ : List V}
theorem iter_list (ok : Ok G C n) {x : Str} {p : Pos} {a it : Addr} {arr : Array Value} {m : Nat} {xs : List V} {fz0 : Led} (hm : (a, listOf arr m) ∈ fz0) (hr : FRs fz0 arr.toList xs) (hne : a ≠ it) :
    IterP G C (.Name x p) it xs fz0 (fun k tl => ∃ o, tl = [(it, o)] ∧ o.cls = .type "list_iterator" ∧ o.data = .fields #[.ref a, .int k 0]) where
  step := fun k y hy fz keep tl σ s R E sub ⟨o, et, hc, hd⟩ i h => by
    subst et
    have W := Walks.list (prog := G.prog) (w := G.w) ok.hh it a hne arr
    have hsz : arr.size = xs.length := by rw [← Array.length_toList]; exact hr.length
    have hlt : k < xs.length := (List.getElem?_eq_some_iff.mp hy).1
    have hit : s.heap.IsListIter it a k := ⟨o, i.getK (.head _), hc, hd⟩
    refine W.item k s _ _ (by omega) ⟨hit, ⟨_, i.get (sub _ hm), rfl, m, rfl⟩⟩ fun v h' tk hv hst hk => ⟨v, rfl, ?_⟩
    obtain ⟨v', hv', rv⟩ := hr.get hy
    have ev : v = v' := by
      have : arr.toList[k]? = some v := by simpa using hv
      rw [this] at hv'; exact Option.some.inj hv'
    subst ev
    obtain ⟨⟨o', ho', hc', hd'⟩, _⟩ := hst
    have i2 := i.swap (tl := [(it, o)]) (tl' := [(it, o')]) (t := tk) (fun b ob hb e => hk b ob hb e) rfl (fun p hp => by rw [List.mem_singleton.mp hp]; exact ho')
    exact wpAny_pure (h v fz [(it, o')] _ Sub.rfl ⟨o', rfl, hc', hd'⟩ (rv.mono sub) i2)
  done := fun fz keep tl σ s R E sub ⟨o, et, hc, hd⟩ i h => by
    subst et
    have W := Walks.list (prog := G.prog) (w := G.w) ok.hh it a hne arr
    have hsz : arr.size = xs.length := by rw [← Array.length_toList]; exact hr.length
    rw [← hsz] at hd
    refine W.done s _ _ ⟨⟨o, i.getK (.head _), hc, hd⟩, ⟨_, i.get (sub _ hm), rfl, m, rfl⟩⟩ fun h' tk hk => ⟨rfl, h _ (i.lose (tl := [(it, o)]) fun b ob hb e => hk b ob hb e)⟩
theorem iter_range (ok : Ok G C n) {x : Str} {p : Pos} {it : Addr} {fz0 : Led} (a c : Int) (k : Nat) :
    IterP G C (.Name x p) it ((List.range k).map fun (j : Nat) => V.int (a + j * c)) fz0 (fun j tl => tl = [(it, { cls := .type "range_iterator", dict := none, data := .fields #[rawInt (a + (j : Nat) * c), rawInt ((k : Int) - (j : Nat)), rawInt c], slots := #[] })]) where
  step := fun j y hy fz keep tl σ s R E sub et i h => by
    subst et
    have W := Walks.range (prog := G.prog) (w := G.w) ok.hh it a c k
    have hlt : j < k := by have := (List.getElem?_eq_some_iff.mp hy).1; simpa using this
    refine W.item j s _ _ hlt (i.getK (.head _)) fun v h' tk hv hst hk => ⟨v, rfl, ?_⟩
    obtain ⟨t, ev⟩ := hv
    subst ev
    have ey : y = .int (a + j * c) := by simp [hlt] at hy; exact hy.symm
    subst ey
    have i2 := i.swap (tl := [(it, _)]) (tl' := [(it, { cls := .type "range_iterator", dict := none, data := .fields #[rawInt (a + ((j + 1 : Nat) : Int) * c), rawInt ((k : Int) - ((j + 1 : Nat) : Int)), rawInt c], slots := #[] })]) (t := tk) (fun b ob hb e => hk b ob hb e) rfl (fun p hp => by rw [List.mem_singleton.mp hp]; exact hst)
    exact wpAny_pure (h _ fz _ _ Sub.rfl rfl (.int _ _) i2)
  done := fun fz keep tl σ s R E sub et i h => by
    subst et
    have W := Walks.range (prog := G.prog) (w := G.w) ok.hh it a c k
    have hst : IsRangeIter s.heap it (a + (k : Nat) * c) ((k : Int) - (k : Nat)) c := by
      have := i.getK (.head _)
      simp only [List.length_map, List.length_range] at this
      exact this
    exact W.done s _ _ hst fun h' tk hk => ⟨rfl, h _ (i.lose (tl := [(it, _)]) fun b ob hb e => hk b ob hb e)⟩
@[reducible] def kLs (Q : List V → List V → Prop) (v : V) (σ1 : List V) : Prop := ∃ xs, v = .list xs ∧ Q xs σ1
theorem kLs_i {xs : List V} {Q : List V → List V → Prop} (q : Q xs σ) : kLs Q (.list xs) σ := ⟨xs, rfl, q⟩
theorem wItR.le {t : Expr} {fz fz' keep : Led} {Q : List V → List V → Prop} {it : Value} {s : Shared} (h : Sub fz fz') : wItR G C t fz' keep Q it s → wItR G C t fz keep Q it s := fun ⟨a, items, σ', f', tl, J, e1, e2, e3, e4, e5, e6⟩ => ⟨a, items, σ', f', tl, J, e1, h.trans e2, e3, e4, e5, e6⟩
theorem wIt_list {x : Str} {p : Pos} {e : Expr} {Q : List V → List V → Prop} (h : wF G C n e (kLs Q) σ) : wIt G C n (.Name x p) e Q σ := fun ok fz keep s i => by
  refine wpAny_mono (h ok fz keep s i) (fun v s1 ⟨y, σ1, f1, s1', r, i1, xs, ey, q⟩ => ?_) fun _ _ x => x
  subst ey
  refine r.list_c fun a arr m hm hr => ?_
  · have hl : s1.heap.IsList a arr := ⟨_, i1.get hm, rfl, m, rfl⟩
    refine wpAny_pyIter_list hl ?_
    have i2 := i1.pushK { cls := .type "list_iterator", data := .fields #[.ref a, .int 0 0] } rfl
    exact ⟨s1.heap.objs.size, xs, σ1, f1, [_], _, rfl, s1', iter_list ok hm hr (Nat.ne_of_lt (Heap.lt_size (i1.get hm))), ⟨_, rfl, rfl, rfl⟩, i2, q⟩
theorem range_go {x : Str} {p : Pos} {lo hi c : Int} {t u v : Tok} {fz keep : Led} {s : Shared} {σ : List V} {Q : List V → List V → Prop} {k : Nat} (ok : Ok G C n) (i : In C fz keep σ s) (hk : Builtin.Range.rangeSize lo hi c = (k : Int)) (hs : Builtin.Range.small lo hi c = true) (q : Q ((List.range k).map fun (j : Nat) => V.int (lo + j * c)) σ) (hr : IsRange s.heap r lo hi c t u v) :
    wpAny G.M C.A (pyIter (.ref r)) (wItR G C (.Name x p) fz keep Q) C.E s := by
  refine wpAny_pyIter_range hr hs ?_
  rw [hk]
  have i2 := i.pushK { cls := .type "range_iterator", data := .fields #[rawInt lo, rawInt (k : Int), rawInt c] } rfl
  refine ⟨s.heap.objs.size, _, σ, fz, _, _, rfl, Sub.rfl, iter_range (x := x) (p := p) ok (it := s.heap.objs.size) lo c k, rfl, ?_, q⟩
  simpa using i2
theorem fit60 {x : Int} (h1 : -(2 ^ 60) ≤ x) (h2 : x ≤ 2 ^ 60) : -(2 ^ 63) ≤ x ∧ x < 2 ^ 63 := ⟨Int.le_trans (by decide) h1, Int.lt_of_le_of_lt h2 (by decide)⟩
theorem fit62 {x : Int} (h1 : -(2 ^ 62) ≤ x) (h2 : x ≤ 2 ^ 62) : -(2 ^ 63) ≤ x ∧ x < 2 ^ 63 := ⟨Int.le_trans (by decide) h1, Int.lt_of_le_of_lt h2 (by decide)⟩
theorem fitD {x y : Int} (h1 : -(2 ^ 60) ≤ x) (h2 : x ≤ 2 ^ 60) (h3 : -(2 ^ 60) ≤ y) (h4 : y ≤ 2 ^ 60) : -(2 ^ 63) ≤ x - y - 1 + 1 ∧ x - y - 1 + 1 < 2 ^ 63 := by
  rw [Int.sub_add_cancel]; exact fit62 (Int.le_trans (by decide) (Int.sub_le_sub h1 h4)) (Int.le_trans (Int.sub_le_sub h2 h3) (by decide))
theorem small_ok {lo hi c : Int} (hc : c = 1 ∨ c = -1) (h1 : -(2 ^ 60) ≤ lo) (h2 : lo ≤ 2 ^ 60) (h3 : -(2 ^ 60) ≤ hi) (h4 : hi ≤ 2 ^ 60) : Builtin.Range.small lo hi c = true := by
  have z : -(2 ^ 63 : Int) ≤ 0 ∧ (0 : Int) < 2 ^ 63 := by decide
  have e : hi + 0 = hi := Int.add_zero hi
  unfold Builtin.Range.small Builtin.Range.rangeFitsLong Builtin.Range.rangeSize
  rcases hc with rfl | rfl
  · simp only [show (1 : Int) > 0 from by decide, if_true, Int.ediv_one]
    by_cases h : lo < hi
    · simp only [h, if_true, Bool.and_eq_true, Bool.or_eq_true, decide_eq_true_eq, beq_iff_eq]
      exact ⟨⟨⟨⟨fit60 h1 h2, fit60 h3 h4⟩, by decide⟩, fitD h3 h4 h1 h2⟩, .inr (show -(2 ^ 63) ≤ hi + 0 ∧ hi + 0 < 2 ^ 63 from e.symm ▸ fit60 h3 h4)⟩
    · simp only [h, if_false, Bool.and_eq_true, Bool.or_eq_true, decide_eq_true_eq, beq_iff_eq]
      exact ⟨⟨⟨⟨fit60 h1 h2, fit60 h3 h4⟩, by decide⟩, z⟩, .inl trivial⟩
  · simp only [show ¬ (-1 : Int) > 0 from by decide, if_false, show (-(-1 : Int)) = 1 from rfl, Int.ediv_one]
    by_cases h : lo > hi
    · simp only [h, if_true, Bool.and_eq_true, Bool.or_eq_true, decide_eq_true_eq, beq_iff_eq]
      exact ⟨⟨⟨⟨fit60 h1 h2, fit60 h3 h4⟩, by decide⟩, fitD h1 h2 h3 h4⟩, .inr (show -(2 ^ 63) ≤ hi + 0 ∧ hi + 0 < 2 ^ 63 from e.symm ▸ fit60 h3 h4)⟩
    · simp only [h, if_false, Bool.and_eq_true, Bool.or_eq_true, decide_eq_true_eq, beq_iff_eq]
      exact ⟨⟨⟨⟨fit60 h1 h2, fit60 h3 h4⟩, by decide⟩, z⟩, .inl trivial⟩
def upInts (lo : Int) (k : Nat) : List V := (List.range k).map fun (j : Nat) => V.int (lo + j)
def downInts (hi : Int) (k : Nat) : List V := (List.range k).map fun (j : Nat) => V.int (hi - j)
@[reducible] def kR1 (Q : List V → List V → Prop) (v : V) (σ2 : List V) : Prop := ∃ k, v = .int k ∧ -(2 ^ 60) ≤ k ∧ k ≤ 2 ^ 60 ∧ Q (upInts 0 k.toNat) σ2
@[reducible] def kR1f (G : Gl) (C : Fc) (n : Nat) (e : Expr) (Q : List V → List V → Prop) (f : V) (σ1 : List V) : Prop := f = .fn (.type "range") ∧ wF G C n e (kR1 Q) σ1
@[reducible] def kR2b (u : V) (Q : List V → List V → Prop) (v : V) (σ3 : List V) : Prop := ∃ lo hi, u = .int lo ∧ v = .int hi ∧ -(2 ^ 60) ≤ lo ∧ lo ≤ 2 ^ 60 ∧ -(2 ^ 60) ≤ hi ∧ hi ≤ 2 ^ 60 ∧ Q (upInts lo (hi - lo).toNat) σ3
@[reducible] def kR2 (G : Gl) (C : Fc) (n : Nat) (e2 : Expr) (Q : List V → List V → Prop) (u : V) (σ2 : List V) : Prop := wF G C n e2 (kR2b u Q) σ2
@[reducible] def kR2f (G : Gl) (C : Fc) (n : Nat) (e1 e2 : Expr) (Q : List V → List V → Prop) (f : V) (σ1 : List V) : Prop := f = .fn (.type "range") ∧ wF G C n e1 (kR2 G C n e2 Q) σ1
@[reducible] def kR3c (u v : V) (Q : List V → List V → Prop) (w : V) (σ4 : List V) : Prop := ∃ lo hi, u = .int lo ∧ v = .int hi ∧ w = .int (-1) ∧ -(2 ^ 60) ≤ lo ∧ lo ≤ 2 ^ 60 ∧ -(2 ^ 60) ≤ hi ∧ hi ≤ 2 ^ 60 ∧ Q (downInts lo (lo - hi).toNat) σ4
@[reducible] def kR3b (G : Gl) (C : Fc) (n : Nat) (e3 : Expr) (u : V) (Q : List V → List V → Prop) (v : V) (σ3 : List V) : Prop := wF G C n e3 (kR3c u v Q) σ3
@[reducible] def kR3 (G : Gl) (C : Fc) (n : Nat) (e2 e3 : Expr) (Q : List V → List V → Prop) (u : V) (σ2 : List V) : Prop := wF G C n e2 (kR3b G C n e3 u Q) σ2
@[reducible] def kR3f (G : Gl) (C : Fc) (n : Nat) (e1 e2 e3 : Expr) (Q : List V → List V → Prop) (f : V) (σ1 : List V) : Prop := f = .fn (.type "range") ∧ wF G C n e1 (kR3 G C n e2 e3 Q) σ1
theorem kR1f_i {e : Expr} {Q : List V → List V → Prop} (q : wF G C n e (kR1 Q) σ) : kR1f G C n e Q (.fn (.type "range")) σ := ⟨rfl, q⟩
theorem kR2f_i {e1 e2 : Expr} {Q : List V → List V → Prop} (q : wF G C n e1 (kR2 G C n e2 Q) σ) : kR2f G C n e1 e2 Q (.fn (.type "range")) σ := ⟨rfl, q⟩
theorem kR3f_i {e1 e2 e3 : Expr} {Q : List V → List V → Prop} (q : wF G C n e1 (kR3 G C n e2 e3 Q) σ) : kR3f G C n e1 e2 e3 Q (.fn (.type "range")) σ := ⟨rfl, q⟩
theorem kR1_i {k : Int} {Q : List V → List V → Prop} (h : -1000000 ≤ k ∧ k ≤ 1000000) (q : Q (upInts 0 k.toNat) σ) : kR1 Q (.int k) σ := ⟨k, rfl, Int.le_trans (by decide) h.1, Int.le_trans h.2 (by decide), q⟩
theorem kR2_i {lo hi : Int} {Q : List V → List V → Prop} (h : -1000000 ≤ lo ∧ lo ≤ 1000000 ∧ -1000000 ≤ hi ∧ hi ≤ 1000000) (q : Q (upInts lo (hi - lo).toNat) σ) : kR2b (.int lo) Q (.int hi) σ :=
  ⟨lo, hi, rfl, rfl, Int.le_trans (by decide) h.1, Int.le_trans h.2.1 (by decide), Int.le_trans (by decide) h.2.2.1, Int.le_trans h.2.2.2 (by decide), q⟩
theorem kR3_i {lo hi : Int} {Q : List V → List V → Prop} (h : -1000000 ≤ lo ∧ lo ≤ 1000000 ∧ -1000000 ≤ hi ∧ hi ≤ 1000000) (q : Q (downInts lo (lo - hi).toNat) σ) : kR3c (.int lo) (.int hi) Q (.int (-1)) σ :=
  ⟨lo, hi, rfl, rfl, rfl, Int.le_trans (by decide) h.1, Int.le_trans h.2.1 (by decide), Int.le_trans (by decide) h.2.2.1, Int.le_trans h.2.2.2 (by decide), q⟩
theorem range_up {x : Str} {p : Pos} {lo hi : Int} {t u v : Tok} {fz keep : Led} {s : Shared} {σ : List V} {Q : List V → List V → Prop} (ok : Ok G C n) (i : In C fz keep σ s) (h1 : -(2 ^ 60) ≤ lo) (h2 : lo ≤ 2 ^ 60) (h3 : -(2 ^ 60) ≤ hi) (h4 : hi ≤ 2 ^ 60) (q : Q (upInts lo (hi - lo).toNat) σ) (hr : IsRange s.heap r lo hi 1 t u v) :
    wpAny G.M C.A (pyIter (.ref r)) (wItR G C (.Name x p) fz keep Q) C.E s := by
  refine range_go ok i (k := (hi - lo).toNat) ?_ (small_ok (.inl rfl) h1 h2 h3 h4) (by simp only [Int.mul_one]; exact q) hr
  unfold Builtin.Range.rangeSize
  simp only [show (1 : Int) > 0 from by decide, if_true, Int.ediv_one]
  split <;> omega
theorem wIt_range1 {x r : Str} {p rp pos : Pos} {e : Expr} {Q : List V → List V → Prop} (h : wF G C n (.Name r rp) (kR1f G C n e Q) σ) (hs : Pl (starEach [e] C.env = [(false, eval e C.env)])) : wIt G C n (.Name x p) (.Call (.Name r rp) [e] [] pos) Q σ := fun ok fz keep s i => by
  refine Call_Name rfl (wpAny_mono (h ok fz keep s i) (fun f s1 ⟨y, σ1, f1, s1', r1, i1, ey, q1⟩ => ?_) fun _ _ x => x)
  subst ey
  refine r1.fn_c ?_
  refine PyProof.Rows.callWith_type1 (wpAny_items_cons (wpAny_mono (q1 ok f1 keep s1 i1) (fun v s2 ⟨z, σ2, f2, s2', r2, i2, k, ez, h1, h2, q⟩ => wpAny_items_nil ?_) fun _ _ x => x) hs) hs rfl
  subst ez
  refine r2.int_c fun tv => ?_
  refine call_range_1 ?_
  have i3 := (i2.tok (s2.toks + 1 + 1)).keeps (h' := s2.heap.push { cls := .type "range", data := .fields #[.int 0 s2.toks, .int k tv, .int 1 (s2.toks + 1)] }) (t := s2.toks + 1 + 1) fun b o e => Heap.get?_push_of_some _ e
  refine wpAny_mono (range_up (x := x) (p := p) (lo := 0) ok i3 (by decide) (by decide) h1 h2 (Q := Q) (by rw [Int.sub_zero]; exact q) (IsRange.new ..))
    (fun it s3 p => p.le (s1'.trans s2')) fun _ _ x => x
theorem wIt_range2 {x r : Str} {p rp pos : Pos} {e1 e2 : Expr} {Q : List V → List V → Prop} (h : wF G C n (.Name r rp) (kR2f G C n e1 e2 Q) σ) (hs : Pl (starEach [e1, e2] C.env = [(false, eval e1 C.env), (false, eval e2 C.env)])) (hs2 : Pl (starEach [e2] C.env = [(false, eval e2 C.env)])) : wIt G C n (.Name x p) (.Call (.Name r rp) [e1, e2] [] pos) Q σ := fun ok fz keep s i => by
  refine Call_Name rfl (wpAny_mono (h ok fz keep s i) (fun f s1 ⟨y, σ1, f1, s1', r1, i1, ey, q1⟩ => ?_) fun _ _ x => x)
  subst ey
  refine r1.fn_c ?_
  have hs' : starEach [e1, e2] C.env = (false, eval e1 C.env) :: starEach [e2] C.env := by rw [hs, hs2]
  refine PyProof.Rows.callWith_type1 (wpAny_items_cons (wpAny_mono (q1 ok f1 keep s1 i1) (fun v s2 ⟨z, σ2, f2, s2', r2, i2, q2⟩ => wpAny_items_cons (wpAny_mono (q2 ok f2 keep s2 i2) (fun w s3 ⟨z', σ3, f3, s3', r3, i3, lo, hi, eu, ev, h1, h2, h3, h4, q⟩ => wpAny_items_nil ?_) fun _ _ x => x) hs2) fun _ _ x => x) hs') hs' (by rw [hs2]; rfl)
  subst eu; subst ev
  refine r2.int_c fun tv => r3.int_c fun tw => ?_
  refine call_range_2 ?_
  have i4 := (i3.tok (s3.toks + 1)).keeps (h' := s3.heap.push { cls := .type "range", data := .fields #[.int lo tv, .int hi tw, .int 1 s3.toks] }) (t := s3.toks + 1) fun b o e => Heap.get?_push_of_some _ e
  refine wpAny_mono (range_up (x := x) (p := p) ok i4 h1 h2 h3 h4 (Q := Q) q (IsRange.new ..))
    (fun it s3 p => p.le ((s1'.trans s2').trans s3')) fun _ _ x => x
theorem wIt_range3 {x r : Str} {p rp pos : Pos} {e1 e2 e3 : Expr} {Q : List V → List V → Prop} (h : wF G C n (.Name r rp) (kR3f G C n e1 e2 e3 Q) σ) (hs : Pl (starEach [e1, e2, e3] C.env = [(false, eval e1 C.env), (false, eval e2 C.env), (false, eval e3 C.env)])) (hs2 : Pl (starEach [e2, e3] C.env = [(false, eval e2 C.env), (false, eval e3 C.env)])) (hs3 : Pl (starEach [e3] C.env = [(false, eval e3 C.env)])) : wIt G C n (.Name x p) (.Call (.Name r rp) [e1, e2, e3] [] pos) Q σ := fun ok fz keep s i => by
  refine Call_Name rfl (wpAny_mono (h ok fz keep s i) (fun f s1 ⟨y, σ1, f1, s1', r1, i1, ey, q1⟩ => ?_) fun _ _ x => x)
  subst ey
  refine r1.fn_c ?_
  have hs' : starEach [e1, e2, e3] C.env = (false, eval e1 C.env) :: starEach [e2, e3] C.env := by rw [hs, hs2]
  have hs2' : starEach [e2, e3] C.env = (false, eval e2 C.env) :: starEach [e3] C.env := by rw [hs2, hs3]
  refine PyProof.Rows.callWith_type1 (wpAny_items_cons (wpAny_mono (q1 ok f1 keep s1 i1) (fun v s2 ⟨z, σ2, f2, s2', r2, i2, q2⟩ => wpAny_items_cons (wpAny_mono (q2 ok f2 keep s2 i2) (fun w s3 ⟨z', σ3, f3, s3', r3, i3, q3⟩ =>
    wpAny_items_cons (wpAny_mono (q3 ok f3 keep s3 i3) (fun w3 s4 ⟨z2, σ4, f4, s4', r4, i4, lo, hi, eu, ev, ew, h1, h2, h3, h4, q⟩ => wpAny_items_nil ?_) fun _ _ x => x) hs3) fun _ _ x => x) hs2') fun _ _ x => x) hs') hs' (by rw [hs2]; rfl)
  subst eu; subst ev; subst ew
  refine r2.int_c fun tv => r3.int_c fun tw => ?_
  refine r4.int_c fun tx => ?_
  refine call_range_3 (by decide) ?_ (.inl (PyProof.noPylong_small (by decide)))
  have i5 := i4.keeps (h' := s4.heap.push { cls := .type "range", data := .fields #[.int lo tv, .int hi tw, .int (-1) tx] }) (t := s4.toks) fun b o e => Heap.get?_push_of_some _ e
  refine wpAny_mono (range_go (x := x) (p := p) (k := (lo - hi).toNat) ok i5 (by unfold Builtin.Range.rangeSize; simp only [show ¬ (-1 : Int) > 0 from by decide, if_false, show (-(-1 : Int)) = 1 from rfl, Int.ediv_one]; split <;> omega) (small_ok (.inr rfl) h1 h2 h3 h4) (Q := Q) (by simpa [downInts, Int.sub_eq_add_neg] using q) (IsRange.new ..))
    (fun it s3 p => p.le (((s1'.trans s2').trans s3').trans s4')) fun _ _ x => x
def enumV (xs : List V) : List V := (List.range xs.length).map fun (j : Nat) => V.tuple [.int j, xs.getD j .none]
theorem iter_enum (ok : Ok G C n) {ts : List Expr} {kk : Nat} {p : Pos} {a e it : Addr} {arr : Array Value} {m : Nat} {xs : List V} {fz0 : Led} (hm : (a, listOf arr m) ∈ fz0) (hr : FRs fz0 arr.toList xs) (hei : e ≠ it) (hae : a ≠ e) (hai : a ≠ it) :
    IterP G C (.Tuple ts kk p) e (enumV xs) fz0 (fun k tl => ∃ oe oi, tl = [(e, oe), (it, oi)] ∧ (∃ old, oe = { cls := .type "enumerate", dict := none, data := .fields #[.none, .bool false, .ref it, rawInt k, .none, old], slots := #[] }) ∧ oi.cls = .type "list_iterator" ∧ oi.data = .fields #[.ref a, .int k 0]) where
  step := fun k y hy fz keep tl σ s R E sub ⟨oe, oi, et, ⟨old, ho⟩, hc, hd⟩ i h => by
    subst et; subst ho
    have W := WalksT.enumerate (prog := G.prog) (w := G.w) ok.hh e it a hei hae hai arr
    have hsz : arr.size = xs.length := by rw [← Array.length_toList]; exact hr.length
    have hlt : k < xs.length := by have := (List.getElem?_eq_some_iff.mp hy).1; simpa [enumV] using this
    have hoe := i.getK (List.mem_append_left _ (.head _))
    have hoi := i.getK (List.mem_append_left _ (.tail _ (.head _)))
    have hoa := i.get (sub _ hm)
    refine W.item k s _ _ (by omega) ⟨⟨old, hoe⟩, ⟨oi, hoi, hc, hd⟩, ⟨_, hoa, rfl, m, rfl⟩⟩ fun T vals h' tk hv hT hTup hmid hk => ⟨.ref T, rfl, ?_⟩
    obtain ⟨tk', v, hv, evals⟩ := hv
    subst evals
    obtain ⟨⟨xo, heo⟩, hit', hl', hTe, hTi⟩ := id hmid
    obtain ⟨oi', hoi', hc', hd'⟩ := id hit'
    refine W.go ts kk p k T _ _ _ hmid fun h2 hst2 hk2 => ?_
    obtain ⟨⟨old2, he2⟩, ⟨oi2, hoi2, hc2, hd2⟩, _⟩ := hst2
    obtain ⟨oT, hoT, hcT, nT, hdT⟩ := hTup
    have i2 := i.swapPush (tl := [(e, _), (it, oi)]) (tl' := [(e, { cls := .type "enumerate", dict := none, data := .fields #[rawInt T, .bool false, .ref it, rawInt ((k : Int) + 1), .none, xo], slots := #[] }), (it, oi')]) (h' := h') (t := tk) (fun b ob hb e' => hk b ob hb e') rfl (fun p hp => by
      rcases List.mem_cons.mp hp with rfl | hp
      · exact heo
      · rw [List.mem_singleton.mp hp]; exact hoi') hT hoT
    have i3 := i2.swap (tl := [(e, { cls := .type "enumerate", dict := none, data := .fields #[rawInt T, .bool false, .ref it, rawInt ((k : Int) + 1), .none, xo], slots := #[] }), (it, oi')]) (tl' := [(e, { cls := .type "enumerate", dict := none, data := .fields #[.none, .bool false, .ref it, rawInt ((k + 1 : Nat) : Int), .none, old2], slots := #[] }), (it, oi2)]) (h' := h2) (t := tk) (fun b ob hb e' => hk2 b ob hb e') rfl (fun p hp => by
      rcases List.mem_cons.mp hp with rfl | hp
      · exact he2
      · rw [List.mem_singleton.mp hp]; exact hoi2)
    obtain ⟨v', hv', rv⟩ := hr.get (i := k) (x := xs[k]) (by simp [hlt])
    have ev : v = v' := by
      have : arr.toList[k]? = some v := by simpa using hv
      rw [this] at hv'; exact Option.some.inj hv'
    subst ev
    have ey : y = .tuple [.int k, xs[k]] := by
      unfold enumV at hy
      simp [hlt] at hy
      exact hy.symm
    subst ey
    exact h (.ref T) ((T, oT) :: fz) [(e, { cls := .type "enumerate", dict := none, data := .fields #[.none, .bool false, .ref it, rawInt ((k + 1 : Nat) : Int), .none, old2], slots := #[] }), (it, oi2)] _ Sub.cons ⟨_, oi2, rfl, ⟨old2, rfl⟩, hc2, hd2⟩ (.tuple T oT _ nT _ (.head _) hcT hdT (.cons (.int _ _) (.cons ((rv.mono sub).mono Sub.cons) .nil))) i3
  done := fun fz keep tl σ s R E sub ⟨oe, oi, et, ⟨old, ho⟩, hc, hd⟩ i h => by
    subst et; subst ho
    have W := WalksT.enumerate (prog := G.prog) (w := G.w) ok.hh e it a hei hae hai arr
    have hsz : arr.size = xs.length := by rw [← Array.length_toList]; exact hr.length
    have hn : (enumV xs).length = arr.size := by simp [enumV, hsz]
    have hoe := i.getK (List.mem_append_left _ (.head _))
    have hoi := i.getK (List.mem_append_left _ (.tail _ (.head _)))
    rw [hn] at hoe hd
    refine W.done s _ _ ⟨⟨old, hoe⟩, ⟨oi, hoi, hc, hd⟩, ⟨_, i.get (sub _ hm), rfl, m, rfl⟩⟩ fun h' tk hk => ⟨rfl, h _ (i.lose (tl := [(e, _), (it, oi)]) fun b ob hb e => hk b ob hb e)⟩
end
end Mine
end
section
open PySem PySem.W PySem.Calls PyProof.Rows
set_option Elab.async false
set_option maxRecDepth 100000
set_option linter.unusedVariables false
namespace Mine
open Builtin
theorem In.adopt2 {C : Fc} {fz keep : Led} {σ : List V} {s : Shared} (i : In C fz keep σ s) {h' : Heap} {t : Nat} {T1 T2 : Addr} {o1 o2 : Obj}
    (hk : ∀ b o, s.heap.get? b = some o → h'.get? b = some o) (h1 : s.heap.objs.size ≤ T1) (h2 : s.heap.objs.size ≤ T2) (hne : T1 ≠ T2) (ho1 : h'.get? T1 = some o1) (ho2 : h'.get? T2 = some o2) : In C fz ([(T1, o1), (T2, o2)] ++ keep) σ { s with heap := h', toks := t } := by
  obtain ⟨m, ol, F, L, N, D, hh, tt, e⟩ := i
  have lt : ∀ p ∈ ol ++ keep ++ fz, p.1 < s.heap.objs.size := fun p hp => Heap.lt_size (N p hp).1
  have new : ∀ T, s.heap.objs.size ≤ T → T ≠ C.L ∧ C.h₀.get? T = none := fun T hT => ⟨fun e => absurd F.ns.lt (by rw [← e]; exact Nat.not_lt.mpr hT), by
    cases q : C.h₀.get? T with
    | none => rfl
    | some o' => exact absurd (Nat.lt_of_lt_of_le (Heap.lt_size (F.keep T o' q)) hT) (Nat.lt_irrefl _)⟩
  have P : (ol ++ ([(T1, o1), (T2, o2)] ++ keep)).Perm ((T1, o1) :: (T2, o2) :: (ol ++ keep)) := by
    rw [← List.append_assoc]
    exact (List.perm_append_comm).append_right keep
  refine ⟨m, ol, F.keeps hk, L, fun p hp => ?_, Dis.perm P.symm ⟨?_, fun p hp q hq => ?_⟩, h', t, by rw [e]⟩
  · rcases List.mem_append.mp hp with q | q
    · rcases List.mem_cons.mp (P.mem_iff.mp q) with rfl | q
      · exact ⟨ho1, new _ h1⟩
      · rcases List.mem_cons.mp q with rfl | q
        · exact ⟨ho2, new _ h2⟩
        · have hN := N p (List.mem_append_left _ q); exact ⟨hk _ _ hN.1, hN.2⟩
    · have hN := N p (List.mem_append_right _ q); exact ⟨hk _ _ hN.1, hN.2⟩
  · rw [List.map_cons, List.map_cons, List.nodup_cons, List.nodup_cons]
    refine ⟨fun hm => ?_, fun hm => ?_, D.1⟩
    · rcases List.mem_cons.mp hm with e | hm
      · exact hne e
      · obtain ⟨q, hq, e⟩ := List.mem_map.mp hm
        exact absurd (Nat.lt_of_lt_of_le (lt q (List.mem_append_left _ hq)) h1) (by rw [e]; exact Nat.lt_irrefl _)
    · obtain ⟨q, hq, e⟩ := List.mem_map.mp hm
      exact absurd (Nat.lt_of_lt_of_le (lt q (List.mem_append_left _ hq)) h2) (by rw [e]; exact Nat.lt_irrefl _)
  · have hq' := lt q (List.mem_append_right _ hq)
    rcases List.mem_cons.mp hp with rfl | hp
    · exact (Nat.ne_of_lt (Nat.lt_of_lt_of_le hq' h1)).symm
    · rcases List.mem_cons.mp hp with rfl | hp
      · exact (Nat.ne_of_lt (Nat.lt_of_lt_of_le hq' h2)).symm
      · exact D.2 p hp q hq
section
variable {G : Gl} {C : Fc} {n : Nat} {Q : V → List V → Prop} {σ : List V}
@[reducible] def kEn (Q : List V → List V → Prop) (v : V) (σ2 : List V) : Prop := ∃ xs, v = .list xs ∧ Q (enumV xs) σ2
@[reducible] def kEnf (G : Gl) (C : Fc) (n : Nat) (e : Expr) (Q : List V → List V → Prop) (f : V) (σ1 : List V) : Prop := f = .fn (.type "enumerate") ∧ wF G C n e (kEn Q) σ1
@[reducible] def kLn (σ : List V) (f : V) (σ1 : List V) : Prop := f = .fn (.builtin "len") ∧ σ1 = σ
theorem kEn_i {xs : List V} {Q : List V → List V → Prop} (q : Q (enumV xs) σ) : kEn Q (.list xs) σ := ⟨xs, rfl, q⟩
theorem kEnf_i {e : Expr} {Q : List V → List V → Prop} (q : wF G C n e (kEn Q) σ) : kEnf G C n e Q (.fn (.type "enumerate")) σ := ⟨rfl, q⟩
theorem kLn_i : kLn σ (.fn (.builtin "len")) σ := ⟨rfl, rfl⟩
theorem wIt_enum {ts : List Expr} {kk : Nat} {r : Str} {p rp pos : Pos} {e : Expr} {Q : List V → List V → Prop} (h : wF G C n (.Name r rp) (kEnf G C n e Q) σ) (hs : Pl (starEach [e] C.env = [(false, eval e C.env)])) : wIt G C n (.Tuple ts kk p) (.Call (.Name r rp) [e] [] pos) Q σ := fun ok fz keep s i => by
  refine Call_Name rfl (wpAny_mono (h ok fz keep s i) (fun f s1 ⟨y, σ1, f1, s1', r1, i1, ey, q1⟩ => ?_) fun _ _ x => x)
  subst ey
  refine r1.fn_c ?_
  refine PyProof.Rows.callWith_type1 (wpAny_items_cons (wpAny_mono (q1 ok f1 keep s1 i1) (fun v s2 ⟨z, σ2, f2, s2', r2, i2, xs, ez, q⟩ => wpAny_items_nil ?_) fun _ _ x => x) hs) hs rfl
  subst ez
  refine r2.list_c fun a arr m hm hr => ?_
  · refine call_enumerate_list ⟨_, i2.get hm, rfl, m, rfl⟩ fun h' he hit hsz hk => ?_
    refine wpAny_pyIter_enum (s := { s2 with heap := h' }) he ?_
    obtain ⟨oi, hoi, hc, hd⟩ := id hit
    have halt := Heap.lt_size (i2.get hm)
    have i3 := i2.adopt2 (t := s2.toks) hk (Nat.le_succ _) (Nat.le_refl _) (Nat.succ_ne_self _) he hoi
    exact ⟨s2.heap.objs.size + 1, _, σ2, f2, _, _, rfl, s1'.trans s2', iter_enum ok hm hr (Nat.succ_ne_self _) (Nat.ne_of_lt (Nat.lt_succ_of_lt halt)) (Nat.ne_of_lt halt), ⟨_, oi, rfl, ⟨_, rfl⟩, hc, hd⟩, i3, q⟩
theorem b_len_list {xs : List V} {K : V → Prop} (hz : xs.length ≤ 1000000) (h : K (.int xs.length)) : Calls G n (.builtin "len") [.list xs] K := fun C fz keep σ s vs ok i r => by
  refine r.cons_c fun _ _ r1 r2 => r2.nil_c (r1.list_c fun a arr m hm hr => ?_)
  · · have hsz : arr.size = xs.length := by rw [← Array.length_toList]; exact hr.length
      refine len_list ⟨_, i.get hm, rfl, m, rfl⟩ (by omega) ?_
      rw [hsz]
      exact ⟨_, fz, Sub.rfl, .int _ _, i.tok _, h⟩
theorem b_len_bytes {b : Array UInt8} {K : V → Prop} (hz : b.size ≤ 1000000) (h : K (.int b.size)) : Calls G n (.builtin "len") [.bytes b] K := fun C fz keep σ s vs ok i r => by
  refine r.cons_c fun _ _ r1 r2 => r2.nil_c (r1.bytes_c fun _ => ?_)
  · exact len_bytes (by omega) ⟨_, fz, Sub.rfl, .int _ _, i.tok _, h⟩
theorem wF_lenO {x r : Str} {px rp pos : Pos} {k : Nat} {a : Addr} {xs : List V} (ha : At C.names σ x k (.own a xs)) (hz : xs.length ≤ 1000000) (hf : wF G C n (.Name r rp) (kLn σ) σ) (q : Q (.int xs.length) σ)
    (hs : Pl (starEach [.Name x px] C.env = [(false, eval (.Name x px) C.env)])) : wF G C n (.Call (.Name r rp) [.Name x px] [] pos) Q σ := fun ok fz keep s i => by
  refine Call_Name rfl (wpAny_mono (hf ok fz keep s i) (fun f s1 ⟨y, σ1, f1, s1', r1, i1, ey, eσ⟩ => ?_) fun _ _ x => x)
  subst ey; subst eσ
  refine r1.fn_c ?_
  obtain ⟨m, F, em⟩ := i1.addr ha
  have hl := ok.loc x (List.mem_of_getElem? ha.names)
  refine PyProof.Rows.callWith_builtin1 (wpAny_items_cons (nameX_L F em (wpAny_items_nil ?_) ok.hk hl.1 hl.2) hs) hs rfl
  obtain ⟨o, ⟨arr, c, ho, hr⟩, i2, _⟩ := i1.take ha.vals
  subst ho
  have hsz : arr.size = xs.length := by rw [← Array.length_toList]; exact hr.length
  refine len_list ⟨_, i2.getK (.head _), rfl, c, rfl⟩ (by omega) ?_
  rw [hsz]
  exact ⟨_, _, f1, s1', .int _ _, i1.tok _, q⟩
end
end Mine
end
section
open PySem PySem.W PySem.Calls PyProof.Rows
set_option Elab.async false
set_option maxRecDepth 100000
set_option linter.unusedVariables false
namespace Mine
noncomputable abbrev GG (prog : Program) (w : World) (p : Program) (loose : List Str) (mean : ExcName → Option Value) (mg mb : Str → Option Value) : Gl := ⟨prog, w, KF w.params, p, loose, mean, mg, mb⟩
section
variable {prog : Program} {w : World} {p : Program} {loose : List Str} {mean : ExcName → Option Value} {mg mb : Str → Option Value}
noncomputable def b_normal : List Stmt := defB 5
noncomputable def s_normal : Scope := defS 5
theorem d_normal : DefAt (GG prog w p loose mean mg mb) 79 (Str.ofString "normal") (Str.ofString "normal") [(Str.ofString "a")] [(Str.ofString "end")] b_normal s_normal (.ref 78) where
  ob := ⟨.type "function", none, #[], defP 5, .none, .none, .none, .str (Str.ofString "gmp.limbs") 187, none, .none, by kernel_rfl, fun s => len1 fun v0 => BindsTo.of_eq (by kernel_rfl)⟩
  code := by kernel_rfl
  loc := by kernel_rfl
  nodup := by decide +kernel
  co := by kernel_rfl
  gen := by kernel_rfl
  kind := by kernel_rfl
  cell := by decide +kernel
noncomputable def b_nat_of : List Stmt := defB 6
noncomputable def s_nat_of : Scope := defS 6
theorem d_nat_of : DefAt (GG prog w p loose mean mg mb) 86 (Str.ofString "nat_of") (Str.ofString "nat_of") [(Str.ofString "number"), (Str.ofString "w")] [(Str.ofString "found"), (Str.ofString "mask")] b_nat_of s_nat_of (.ref 85) where
  ob := ⟨.type "function", none, #[], defP 6, .none, .none, .none, .str (Str.ofString "gmp.limbs") 187, none, .none, by kernel_rfl, fun s => len2 fun v0 v1 => BindsTo.of_eq (by kernel_rfl)⟩
  code := by kernel_rfl
  loc := by kernel_rfl
  nodup := by decide +kernel
  co := by kernel_rfl
  gen := by kernel_rfl
  kind := by kernel_rfl
  cell := by decide +kernel
noncomputable def b_compare : List Stmt := defB 7
noncomputable def s_compare : Scope := defS 7
theorem d_compare : DefAt (GG prog w p loose mean mg mb) 93 (Str.ofString "compare") (Str.ofString "compare") [(Str.ofString "a"), (Str.ofString "b")] [(Str.ofString "at")] b_compare s_compare (.ref 92) where
  ob := ⟨.type "function", none, #[], defP 7, .none, .none, .none, .str (Str.ofString "gmp.limbs") 187, none, .none, by kernel_rfl, fun s => len2 fun v0 v1 => BindsTo.of_eq (by kernel_rfl)⟩
  code := by kernel_rfl
  loc := by kernel_rfl
  nodup := by decide +kernel
  co := by kernel_rfl
  gen := by kernel_rfl
  kind := by kernel_rfl
  cell := by decide +kernel
noncomputable def b_add : List Stmt := defB 8
noncomputable def s_add : Scope := defS 8
theorem d_add : DefAt (GG prog w p loose mean mg mb) 100 (Str.ofString "add") (Str.ofString "add") [(Str.ofString "a"), (Str.ofString "b"), (Str.ofString "w")] [(Str.ofString "at"), (Str.ofString "found"), (Str.ofString "carry"), (Str.ofString "mask")] b_add s_add (.ref 99) where
  ob := ⟨.type "function", none, #[], defP 8, .none, .none, .none, .str (Str.ofString "gmp.limbs") 187, none, .none, by kernel_rfl, fun s => len3 fun v0 v1 v2 => BindsTo.of_eq (by kernel_rfl)⟩
  code := by kernel_rfl
  loc := by kernel_rfl
  nodup := by decide +kernel
  co := by kernel_rfl
  gen := by kernel_rfl
  kind := by kernel_rfl
  cell := by decide +kernel
noncomputable def b_mul_limb : List Stmt := defB 9
noncomputable def s_mul_limb : Scope := defS 9
theorem d_mul_limb : DefAt (GG prog w p loose mean mg mb) 107 (Str.ofString "mul_limb") (Str.ofString "mul_limb") [(Str.ofString "a"), (Str.ofString "limb"), (Str.ofString "w")] [(Str.ofString "one"), (Str.ofString "found"), (Str.ofString "carry"), (Str.ofString "mask")] b_mul_limb s_mul_limb (.ref 106) where
  ob := ⟨.type "function", none, #[], defP 9, .none, .none, .none, .str (Str.ofString "gmp.limbs") 187, none, .none, by kernel_rfl, fun s => len3 fun v0 v1 v2 => BindsTo.of_eq (by kernel_rfl)⟩
  code := by kernel_rfl
  loc := by kernel_rfl
  nodup := by decide +kernel
  co := by kernel_rfl
  gen := by kernel_rfl
  kind := by kernel_rfl
  cell := by decide +kernel
noncomputable def b_divrem_limb : List Stmt := defB 10
noncomputable def s_divrem_limb : Scope := defS 10
theorem d_divrem_limb : DefAt (GG prog w p loose mean mg mb) 114 (Str.ofString "divrem_limb") (Str.ofString "divrem_limb") [(Str.ofString "a"), (Str.ofString "limb"), (Str.ofString "w")] [(Str.ofString "at"), (Str.ofString "found"), (Str.ofString "rest")] b_divrem_limb s_divrem_limb (.ref 113) where
  ob := ⟨.type "function", none, #[], defP 10, .none, .none, .none, .str (Str.ofString "gmp.limbs") 187, none, .none, by kernel_rfl, fun s => len3 fun v0 v1 v2 => BindsTo.of_eq (by kernel_rfl)⟩
  code := by kernel_rfl
  loc := by kernel_rfl
  nodup := by decide +kernel
  co := by kernel_rfl
  gen := by kernel_rfl
  kind := by kernel_rfl
  cell := by decide +kernel
noncomputable def b_shift_left : List Stmt := defB 11
noncomputable def s_shift_left : Scope := defS 11
theorem d_shift_left : DefAt (GG prog w p loose mean mg mb) 121 (Str.ofString "shift_left") (Str.ofString "shift_left") [(Str.ofString "a"), (Str.ofString "n"), (Str.ofString "w")] [(Str.ofString "one"), (Str.ofString "spots"), (Str.ofString "few"), (Str.ofString "found"), (Str.ofString "carry"), (Str.ofString "mask")] b_shift_left s_shift_left (.ref 120) where
  ob := ⟨.type "function", none, #[], defP 11, .none, .none, .none, .str (Str.ofString "gmp.limbs") 187, none, .none, by kernel_rfl, fun s => len3 fun v0 v1 v2 => BindsTo.of_eq (by kernel_rfl)⟩
  code := by kernel_rfl
  loc := by kernel_rfl
  nodup := by decide +kernel
  co := by kernel_rfl
  gen := by kernel_rfl
  kind := by kernel_rfl
  cell := by decide +kernel
noncomputable def b_shift_right : List Stmt := defB 12
noncomputable def s_shift_right : Scope := defS 12
theorem d_shift_right : DefAt (GG prog w p loose mean mg mb) 128 (Str.ofString "shift_right") (Str.ofString "shift_right") [(Str.ofString "a"), (Str.ofString "n"), (Str.ofString "w")] [(Str.ofString "at"), (Str.ofString "spots"), (Str.ofString "few"), (Str.ofString "found"), (Str.ofString "mask"), (Str.ofString "above")] b_shift_right s_shift_right (.ref 127) where
  ob := ⟨.type "function", none, #[], defP 12, .none, .none, .none, .str (Str.ofString "gmp.limbs") 187, none, .none, by kernel_rfl, fun s => len3 fun v0 v1 v2 => BindsTo.of_eq (by kernel_rfl)⟩
  code := by kernel_rfl
  loc := by kernel_rfl
  nodup := by decide +kernel
  co := by kernel_rfl
  gen := by kernel_rfl
  kind := by kernel_rfl
  cell := by decide +kernel
noncomputable def b_bits : List Stmt := defB 13
noncomputable def s_bits : Scope := defS 13
theorem d_bits : DefAt (GG prog w p loose mean mg mb) 135 (Str.ofString "bits") (Str.ofString "bits") [(Str.ofString "a"), (Str.ofString "w")] [] b_bits s_bits (.ref 134) where
  ob := ⟨.type "function", none, #[], defP 13, .none, .none, .none, .str (Str.ofString "gmp.limbs") 187, none, .none, by kernel_rfl, fun s => len2 fun v0 v1 => BindsTo.of_eq (by kernel_rfl)⟩
  code := by kernel_rfl
  loc := by kernel_rfl
  nodup := by decide +kernel
  co := by kernel_rfl
  gen := by kernel_rfl
  kind := by kernel_rfl
  cell := by decide +kernel
noncomputable def b_plain_of : List Stmt := defB 22
noncomputable def s_plain_of : Scope := defS 22
theorem d_plain_of : DefAt (GG prog w p loose mean mg mb) 142 (Str.ofString "plain_of") (Str.ofString "plain_of") [(Str.ofString "a"), (Str.ofString "w")] [(Str.ofString "found"), (Str.ofString "limb")] b_plain_of s_plain_of (.ref 141) where
  ob := ⟨.type "function", none, #[], defP 22, .none, .none, .none, .str (Str.ofString "gmp.radix") 371, none, .none, by kernel_rfl, fun s => len2 fun v0 v1 => BindsTo.of_eq (by kernel_rfl)⟩
  code := by kernel_rfl
  loc := by kernel_rfl
  nodup := by decide +kernel
  co := by kernel_rfl
  gen := by kernel_rfl
  kind := by kernel_rfl
  cell := by decide +kernel
noncomputable def b_check_base : List Stmt := defB 23
noncomputable def s_check_base : Scope := defS 23
theorem d_check_base : DefAt (GG prog w p loose mean mg mb) 149 (Str.ofString "check_base") (Str.ofString "check_base") [(Str.ofString "base")] [] b_check_base s_check_base (.ref 148) where
  ob := ⟨.type "function", none, #[], defP 23, .none, .none, .none, .str (Str.ofString "gmp.radix") 371, none, .none, by kernel_rfl, fun s => len1 fun v0 => BindsTo.of_eq (by kernel_rfl)⟩
  code := by kernel_rfl
  loc := by kernel_rfl
  nodup := by decide +kernel
  co := by kernel_rfl
  gen := by kernel_rfl
  kind := by kernel_rfl
  cell := by decide +kernel
noncomputable def b_digit_off : List Stmt := defB 24
noncomputable def s_digit_off : Scope := defS 24
theorem d_digit_off : DefAt (GG prog w p loose mean mg mb) 156 (Str.ofString "digit_off") (Str.ofString "digit_off") [(Str.ofString "a"), (Str.ofString "base"), (Str.ofString "w"), (Str.ofString "divrem")] [(Str.ofString "quotient"), (Str.ofString "rest")] b_digit_off s_digit_off (.ref 155) where
  ob := ⟨.type "function", none, #[], defP 24, .none, .none, .none, .str (Str.ofString "gmp.radix") 371, none, .none, by kernel_rfl, fun s => len4 fun v0 v1 v2 v3 => BindsTo.of_eq (by kernel_rfl)⟩
  code := by kernel_rfl
  loc := by kernel_rfl
  nodup := by decide +kernel
  co := by kernel_rfl
  gen := by kernel_rfl
  kind := by kernel_rfl
  cell := by decide +kernel
noncomputable def b_digits_plain : List Stmt := defB 25
noncomputable def s_digits_plain : Scope := defS 25
theorem d_digits_plain : DefAt (GG prog w p loose mean mg mb) 163 (Str.ofString "digits_plain") (Str.ofString "digits_plain") [(Str.ofString "a"), (Str.ofString "base"), (Str.ofString "w"), (Str.ofString "divrem")] [(Str.ofString "found"), (Str.ofString "digit")] b_digits_plain s_digits_plain (.ref 162) where
  ob := ⟨.type "function", none, #[], defP 25, .none, .none, .none, .str (Str.ofString "gmp.radix") 371, none, .none, by kernel_rfl, fun s => len4 fun v0 v1 v2 v3 => BindsTo.of_eq (by kernel_rfl)⟩
  code := by kernel_rfl
  loc := by kernel_rfl
  nodup := by decide +kernel
  co := by kernel_rfl
  gen := by kernel_rfl
  kind := by kernel_rfl
  cell := by decide +kernel
noncomputable def b_base_powers : List Stmt := defB 26
noncomputable def s_base_powers : Scope := defS 26
theorem d_base_powers : DefAt (GG prog w p loose mean mg mb) 170 (Str.ofString "base_powers") (Str.ofString "base_powers") [(Str.ofString "a"), (Str.ofString "base"), (Str.ofString "w"), (Str.ofString "mul")] [(Str.ofString "found"), (Str.ofString "power")] b_base_powers s_base_powers (.ref 169) where
  ob := ⟨.type "function", none, #[], defP 26, .none, .none, .none, .str (Str.ofString "gmp.radix") 371, none, .none, by kernel_rfl, fun s => len4 fun v0 v1 v2 v3 => BindsTo.of_eq (by kernel_rfl)⟩
  code := by kernel_rfl
  loc := by kernel_rfl
  nodup := by decide +kernel
  co := by kernel_rfl
  gen := by kernel_rfl
  kind := by kernel_rfl
  cell := by decide +kernel
noncomputable def b_with_noughts : List Stmt := defB 27
noncomputable def s_with_noughts : Scope := defS 27
theorem d_with_noughts : DefAt (GG prog w p loose mean mg mb) 177 (Str.ofString "with_noughts") (Str.ofString "with_noughts") [(Str.ofString "digits"), (Str.ofString "many")] [] b_with_noughts s_with_noughts (.ref 176) where
  ob := ⟨.type "function", none, #[], defP 27, .none, .none, .none, .str (Str.ofString "gmp.radix") 371, none, .none, by kernel_rfl, fun s => len2 fun v0 v1 => BindsTo.of_eq (by kernel_rfl)⟩
  code := by kernel_rfl
  loc := by kernel_rfl
  nodup := by decide +kernel
  co := by kernel_rfl
  gen := by kernel_rfl
  kind := by kernel_rfl
  cell := by decide +kernel
noncomputable def b_digits_by_powers : List Stmt := defB 28
noncomputable def s_digits_by_powers : Scope := defS 28
theorem d_digits_by_powers : DefAt (GG prog w p loose mean mg mb) 184 (Str.ofString "digits_by_powers") (Str.ofString "digits_by_powers") [(Str.ofString "a"), (Str.ofString "powers"), (Str.ofString "base"), (Str.ofString "w"), (Str.ofString "least"), (Str.ofString "divrem")] [(Str.ofString "ahead"), (Str.ofString "power"), (Str.ofString "lesser"), (Str.ofString "many"), (Str.ofString "high"), (Str.ofString "low")] b_digits_by_powers s_digits_by_powers (.ref 183) where
  ob := ⟨.type "function", none, #[], defP 28, .none, .none, .none, .str (Str.ofString "gmp.radix") 371, none, .none, by kernel_rfl, fun s => len6 fun v0 v1 v2 v3 v4 v5 => BindsTo.of_eq (by kernel_rfl)⟩
  code := by kernel_rfl
  loc := by kernel_rfl
  nodup := by decide +kernel
  co := by kernel_rfl
  gen := by kernel_rfl
  kind := by kernel_rfl
  cell := by decide +kernel
noncomputable def b_to_digits : List Stmt := defB 29
noncomputable def s_to_digits : Scope := defS 29
theorem d_to_digits : DefAt (GG prog w p loose mean mg mb) 191 (Str.ofString "to_digits") (Str.ofString "to_digits") [(Str.ofString "a"), (Str.ofString "base"), (Str.ofString "w"), (Str.ofString "least"), (Str.ofString "divrem"), (Str.ofString "mul")] [(Str.ofString "powers")] b_to_digits s_to_digits (.ref 190) where
  ob := ⟨.type "function", none, #[], defP 29, .none, .none, .none, .str (Str.ofString "gmp.radix") 371, none, .none, by kernel_rfl, fun s => len6 fun v0 v1 v2 v3 v4 v5 => BindsTo.of_eq (by kernel_rfl)⟩
  code := by kernel_rfl
  loc := by kernel_rfl
  nodup := by decide +kernel
  co := by kernel_rfl
  gen := by kernel_rfl
  kind := by kernel_rfl
  cell := by decide +kernel
noncomputable def b_times_base : List Stmt := defB 30
noncomputable def s_times_base : Scope := defS 30
theorem d_times_base : DefAt (GG prog w p loose mean mg mb) 198 (Str.ofString "times_base") (Str.ofString "times_base") [(Str.ofString "a"), (Str.ofString "base"), (Str.ofString "w"), (Str.ofString "mul")] [] b_times_base s_times_base (.ref 197) where
  ob := ⟨.type "function", none, #[], defP 30, .none, .none, .none, .str (Str.ofString "gmp.radix") 371, none, .none, by kernel_rfl, fun s => len4 fun v0 v1 v2 v3 => BindsTo.of_eq (by kernel_rfl)⟩
  code := by kernel_rfl
  loc := by kernel_rfl
  nodup := by decide +kernel
  co := by kernel_rfl
  gen := by kernel_rfl
  kind := by kernel_rfl
  cell := by decide +kernel
noncomputable def b_number_plain : List Stmt := defB 31
noncomputable def s_number_plain : Scope := defS 31
theorem d_number_plain : DefAt (GG prog w p loose mean mg mb) 205 (Str.ofString "number_plain") (Str.ofString "number_plain") [(Str.ofString "digits"), (Str.ofString "base"), (Str.ofString "w"), (Str.ofString "mul")] [(Str.ofString "found"), (Str.ofString "digit")] b_number_plain s_number_plain (.ref 204) where
  ob := ⟨.type "function", none, #[], defP 31, .none, .none, .none, .str (Str.ofString "gmp.radix") 371, none, .none, by kernel_rfl, fun s => len4 fun v0 v1 v2 v3 => BindsTo.of_eq (by kernel_rfl)⟩
  code := by kernel_rfl
  loc := by kernel_rfl
  nodup := by decide +kernel
  co := by kernel_rfl
  gen := by kernel_rfl
  kind := by kernel_rfl
  cell := by decide +kernel
noncomputable def b_number_by_powers : List Stmt := defB 32
noncomputable def s_number_by_powers : Scope := defS 32
theorem d_number_by_powers : DefAt (GG prog w p loose mean mg mb) 212 (Str.ofString "number_by_powers") (Str.ofString "number_by_powers") [(Str.ofString "digits"), (Str.ofString "powers"), (Str.ofString "base"), (Str.ofString "w"), (Str.ofString "least"), (Str.ofString "mul")] [(Str.ofString "at"), (Str.ofString "many"), (Str.ofString "high"), (Str.ofString "low")] b_number_by_powers s_number_by_powers (.ref 211) where
  ob := ⟨.type "function", none, #[], defP 32, .none, .none, .none, .str (Str.ofString "gmp.radix") 371, none, .none, by kernel_rfl, fun s => len6 fun v0 v1 v2 v3 v4 v5 => BindsTo.of_eq (by kernel_rfl)⟩
  code := by kernel_rfl
  loc := by kernel_rfl
  nodup := by decide +kernel
  co := by kernel_rfl
  gen := by kernel_rfl
  kind := by kernel_rfl
  cell := by decide +kernel
noncomputable def b_from_digits : List Stmt := defB 33
noncomputable def s_from_digits : Scope := defS 33
theorem d_from_digits : DefAt (GG prog w p loose mean mg mb) 219 (Str.ofString "from_digits") (Str.ofString "from_digits") [(Str.ofString "digits"), (Str.ofString "base"), (Str.ofString "w"), (Str.ofString "least"), (Str.ofString "mul")] [(Str.ofString "digit"), (Str.ofString "powers")] b_from_digits s_from_digits (.ref 218) where
  ob := ⟨.type "function", none, #[], defP 33, .none, .none, .none, .str (Str.ofString "gmp.radix") 371, none, .none, by kernel_rfl, fun s => len5 fun v0 v1 v2 v3 v4 => BindsTo.of_eq (by kernel_rfl)⟩
  code := by kernel_rfl
  loc := by kernel_rfl
  nodup := by decide +kernel
  co := by kernel_rfl
  gen := by kernel_rfl
  kind := by kernel_rfl
  cell := by decide +kernel
noncomputable def b_letters_of : List Stmt := defB 34
noncomputable def s_letters_of : Scope := defS 34
theorem d_letters_of : DefAt (GG prog w p loose mean mg mb) 226 (Str.ofString "letters_of") (Str.ofString "letters_of") [(Str.ofString "base")] [] b_letters_of s_letters_of (.ref 225) where
  ob := ⟨.type "function", none, #[], defP 34, .none, .none, .none, .str (Str.ofString "gmp.radix") 371, none, .none, by kernel_rfl, fun s => len1 fun v0 => BindsTo.of_eq (by kernel_rfl)⟩
  code := by kernel_rfl
  loc := by kernel_rfl
  nodup := by decide +kernel
  co := by kernel_rfl
  gen := by kernel_rfl
  kind := by kernel_rfl
  cell := by decide +kernel
noncomputable def b_digit_worth : List Stmt := defB 36
noncomputable def s_digit_worth : Scope := defS 36
theorem d_digit_worth : DefAt (GG prog w p loose mean mg mb) 238 (Str.ofString "digit_worth") (Str.ofString "digit_worth") [(Str.ofString "octet"), (Str.ofString "base")] [] b_digit_worth s_digit_worth (.ref 237) where
  ob := ⟨.type "function", none, #[], defP 36, .none, .none, .none, .str (Str.ofString "gmp.radix") 371, none, .none, by kernel_rfl, fun s => len2 fun v0 v1 => BindsTo.of_eq (by kernel_rfl)⟩
  code := by kernel_rfl
  loc := by kernel_rfl
  nodup := by decide +kernel
  co := by kernel_rfl
  gen := by kernel_rfl
  kind := by kernel_rfl
  cell := by decide +kernel
noncomputable def b_blanks_end : List Stmt := defB 37
noncomputable def s_blanks_end : Scope := defS 37
theorem d_blanks_end : DefAt (GG prog w p loose mean mg mb) 245 (Str.ofString "blanks_end") (Str.ofString "blanks_end") [(Str.ofString "text"), (Str.ofString "at")] [] b_blanks_end s_blanks_end (.ref 244) where
  ob := ⟨.type "function", none, #[], defP 37, .none, .none, .none, .str (Str.ofString "gmp.radix") 371, none, .none, by kernel_rfl, fun s => len2 fun v0 v1 => BindsTo.of_eq (by kernel_rfl)⟩
  code := by kernel_rfl
  loc := by kernel_rfl
  nodup := by decide +kernel
  co := by kernel_rfl
  gen := by kernel_rfl
  kind := by kernel_rfl
  cell := by decide +kernel
noncomputable def b_prefix_at : List Stmt := defB 38
noncomputable def s_prefix_at : Scope := defS 38
theorem d_prefix_at : DefAt (GG prog w p loose mean mg mb) 252 (Str.ofString "prefix_at") (Str.ofString "prefix_at") [(Str.ofString "text"), (Str.ofString "at")] [] b_prefix_at s_prefix_at (.ref 251) where
  ob := ⟨.type "function", none, #[], defP 38, .none, .none, .none, .str (Str.ofString "gmp.radix") 371, none, .none, by kernel_rfl, fun s => len2 fun v0 v1 => BindsTo.of_eq (by kernel_rfl)⟩
  code := by kernel_rfl
  loc := by kernel_rfl
  nodup := by decide +kernel
  co := by kernel_rfl
  gen := by kernel_rfl
  kind := by kernel_rfl
  cell := by decide +kernel
noncomputable def b_text_digits : List Stmt := defB 39
noncomputable def s_text_digits : Scope := defS 39
theorem d_text_digits : DefAt (GG prog w p loose mean mg mb) 259 (Str.ofString "text_digits") (Str.ofString "text_digits") [(Str.ofString "text"), (Str.ofString "at"), (Str.ofString "base")] [(Str.ofString "found"), (Str.ofString "place"), (Str.ofString "worth")] b_text_digits s_text_digits (.ref 258) where
  ob := ⟨.type "function", none, #[], defP 39, .none, .none, .none, .str (Str.ofString "gmp.radix") 371, none, .none, by kernel_rfl, fun s => len3 fun v0 v1 v2 => BindsTo.of_eq (by kernel_rfl)⟩
  code := by kernel_rfl
  loc := by kernel_rfl
  nodup := by decide +kernel
  co := by kernel_rfl
  gen := by kernel_rfl
  kind := by kernel_rfl
  cell := by decide +kernel
noncomputable def b_from_text : List Stmt := defB 40
noncomputable def s_from_text : Scope := defS 40
theorem d_from_text : DefAt (GG prog w p loose mean mg mb) 266 (Str.ofString "from_text") (Str.ofString "from_text") [(Str.ofString "text"), (Str.ofString "base"), (Str.ofString "w"), (Str.ofString "least"), (Str.ofString "mul")] [(Str.ofString "at"), (Str.ofString "is_below"), (Str.ofString "found")] b_from_text s_from_text (.ref 265) where
  ob := ⟨.type "function", none, #[], defP 40, .none, .none, .none, .str (Str.ofString "gmp.radix") 371, none, .none, by kernel_rfl, fun s => len5 fun v0 v1 v2 v3 v4 => BindsTo.of_eq (by kernel_rfl)⟩
  code := by kernel_rfl
  loc := by kernel_rfl
  nodup := by decide +kernel
  co := by kernel_rfl
  gen := by kernel_rfl
  kind := by kernel_rfl
  cell := by decide +kernel
noncomputable def b_mul_school : List Stmt := defB 42
noncomputable def s_mul_school : Scope := defS 42
theorem d_mul_school : DefAt (GG prog w p loose mean mg mb) 273 (Str.ofString "mul_school") (Str.ofString "mul_school") [(Str.ofString "a"), (Str.ofString "b"), (Str.ofString "w")] [(Str.ofString "found"), (Str.ofString "mask"), (Str.ofString "at"), (Str.ofString "limb"), (Str.ofString "carry"), (Str.ofString "spot"), (Str.ofString "other")] b_mul_school s_mul_school (.ref 272) where
  ob := ⟨.type "function", none, #[], defP 42, .none, .none, .none, .str (Str.ofString "gmp.school") 593, none, .none, by kernel_rfl, fun s => len3 fun v0 v1 v2 => BindsTo.of_eq (by kernel_rfl)⟩
  code := by kernel_rfl
  loc := by kernel_rfl
  nodup := by decide +kernel
  co := by kernel_rfl
  gen := by kernel_rfl
  kind := by kernel_rfl
  cell := by decide +kernel
noncomputable def b_divrem_small : List Stmt := defB 43
noncomputable def s_divrem_small : Scope := defS 43
theorem d_divrem_small : DefAt (GG prog w p loose mean mg mb) 280 (Str.ofString "divrem_small") (Str.ofString "divrem_small") [(Str.ofString "a"), (Str.ofString "b"), (Str.ofString "w")] [(Str.ofString "quotient"), (Str.ofString "rest")] b_divrem_small s_divrem_small (.ref 279) where
  ob := ⟨.type "function", none, #[], defP 43, .none, .none, .none, .str (Str.ofString "gmp.school") 593, none, .none, by kernel_rfl, fun s => len3 fun v0 v1 v2 => BindsTo.of_eq (by kernel_rfl)⟩
  code := by kernel_rfl
  loc := by kernel_rfl
  nodup := by decide +kernel
  co := by kernel_rfl
  gen := by kernel_rfl
  kind := by kernel_rfl
  cell := by decide +kernel
noncomputable def b_guessed_limb : List Stmt := defB 44
noncomputable def s_guessed_limb : Scope := defS 44
theorem d_guessed_limb : DefAt (GG prog w p loose mean mg mb) 287 (Str.ofString "guessed_limb") (Str.ofString "guessed_limb") [(Str.ofString "top"), (Str.ofString "first"), (Str.ofString "second"), (Str.ofString "w")] [(Str.ofString "limb"), (Str.ofString "rest"), (Str.ofString "high"), (Str.ofString "base")] b_guessed_limb s_guessed_limb (.ref 286) where
  ob := ⟨.type "function", none, #[], defP 44, .none, .none, .none, .str (Str.ofString "gmp.school") 593, none, .none, by kernel_rfl, fun s => len4 fun v0 v1 v2 v3 => BindsTo.of_eq (by kernel_rfl)⟩
  code := by kernel_rfl
  loc := by kernel_rfl
  nodup := by decide +kernel
  co := by kernel_rfl
  gen := by kernel_rfl
  kind := by kernel_rfl
  cell := by decide +kernel
noncomputable def b_take_away : List Stmt := defB 45
noncomputable def s_take_away : Scope := defS 45
theorem d_take_away : DefAt (GG prog w p loose mean mg mb) 294 (Str.ofString "take_away") (Str.ofString "take_away") [(Str.ofString "rest"), (Str.ofString "b"), (Str.ofString "limb"), (Str.ofString "at"), (Str.ofString "w")] [(Str.ofString "here"), (Str.ofString "carry"), (Str.ofString "base"), (Str.ofString "spot"), (Str.ofString "other")] b_take_away s_take_away (.ref 293) where
  ob := ⟨.type "function", none, #[], defP 45, .none, .none, .none, .str (Str.ofString "gmp.school") 593, none, .none, by kernel_rfl, fun s => len5 fun v0 v1 v2 v3 v4 => BindsTo.of_eq (by kernel_rfl)⟩
  code := by kernel_rfl
  loc := by kernel_rfl
  nodup := by decide +kernel
  co := by kernel_rfl
  gen := by kernel_rfl
  kind := by kernel_rfl
  cell := by decide +kernel
noncomputable def b_put_back : List Stmt := defB 46
noncomputable def s_put_back : Scope := defS 46
theorem d_put_back : DefAt (GG prog w p loose mean mg mb) 301 (Str.ofString "put_back") (Str.ofString "put_back") [(Str.ofString "rest"), (Str.ofString "b"), (Str.ofString "at"), (Str.ofString "w")] [(Str.ofString "carry"), (Str.ofString "mask"), (Str.ofString "spot"), (Str.ofString "other")] b_put_back s_put_back (.ref 300) where
  ob := ⟨.type "function", none, #[], defP 46, .none, .none, .none, .str (Str.ofString "gmp.school") 593, none, .none, by kernel_rfl, fun s => len4 fun v0 v1 v2 v3 => BindsTo.of_eq (by kernel_rfl)⟩
  code := by kernel_rfl
  loc := by kernel_rfl
  nodup := by decide +kernel
  co := by kernel_rfl
  gen := by kernel_rfl
  kind := by kernel_rfl
  cell := by decide +kernel
noncomputable def b_divide_rows : List Stmt := defB 47
noncomputable def s_divide_rows : Scope := defS 47
theorem d_divide_rows : DefAt (GG prog w p loose mean mg mb) 308 (Str.ofString "divide_rows") (Str.ofString "divide_rows") [(Str.ofString "rest"), (Str.ofString "b"), (Str.ofString "w")] [(Str.ofString "size"), (Str.ofString "quotient"), (Str.ofString "at"), (Str.ofString "limb")] b_divide_rows s_divide_rows (.ref 307) where
  ob := ⟨.type "function", none, #[], defP 47, .none, .none, .none, .str (Str.ofString "gmp.school") 593, none, .none, by kernel_rfl, fun s => len3 fun v0 v1 v2 => BindsTo.of_eq (by kernel_rfl)⟩
  code := by kernel_rfl
  loc := by kernel_rfl
  nodup := by decide +kernel
  co := by kernel_rfl
  gen := by kernel_rfl
  kind := by kernel_rfl
  cell := by decide +kernel
noncomputable def b_divrem_school : List Stmt := defB 48
noncomputable def s_divrem_school : Scope := defS 48
theorem d_divrem_school : DefAt (GG prog w p loose mean mg mb) 315 (Str.ofString "divrem_school") (Str.ofString "divrem_school") [(Str.ofString "a"), (Str.ofString "b"), (Str.ofString "w")] [(Str.ofString "shift"), (Str.ofString "divisor"), (Str.ofString "rest"), (Str.ofString "quotient")] b_divrem_school s_divrem_school (.ref 314) where
  ob := ⟨.type "function", none, #[], defP 48, .none, .none, .none, .str (Str.ofString "gmp.school") 593, none, .none, by kernel_rfl, fun s => len3 fun v0 v1 v2 => BindsTo.of_eq (by kernel_rfl)⟩
  code := by kernel_rfl
  loc := by kernel_rfl
  nodup := by decide +kernel
  co := by kernel_rfl
  gen := by kernel_rfl
  kind := by kernel_rfl
  cell := by decide +kernel
noncomputable def b_law_typed : List Stmt := defB 51
noncomputable def s_law_typed : Scope := defS 51
theorem d_law_typed : DefAt (GG prog w p loose mean mg mb) 322 (Str.ofString "_law_typed") (Str.ofString "_law_typed") [(Str.ofString "roll"), (Str.ofString "many")] [] b_law_typed s_law_typed (.ref 321) where
  ob := ⟨.type "function", none, #[], defP 51, .none, .none, .none, .str (Str.ofString "law_sj0089_01") 692, none, .none, by kernel_rfl, fun s => len2 fun v0 v1 => BindsTo.of_eq (by kernel_rfl)⟩
  code := by kernel_rfl
  loc := by kernel_rfl
  nodup := by decide +kernel
  co := by kernel_rfl
  gen := by kernel_rfl
  kind := by kernel_rfl
  cell := by decide +kernel
noncomputable def b_law_signed : List Stmt := defB 52
noncomputable def s_law_signed : Scope := defS 52
theorem d_law_signed : DefAt (GG prog w p loose mean mg mb) 329 (Str.ofString "_law_signed") (Str.ofString "_law_signed") [(Str.ofString "number"), (Str.ofString "w")] [(Str.ofString "size"), (Str.ofString "found")] b_law_signed s_law_signed (.ref 328) where
  ob := ⟨.type "function", none, #[], defP 52, .none, .none, .none, .str (Str.ofString "law_sj0089_01") 692, none, .none, by kernel_rfl, fun s => len2 fun v0 v1 => BindsTo.of_eq (by kernel_rfl)⟩
  code := by kernel_rfl
  loc := by kernel_rfl
  nodup := by decide +kernel
  co := by kernel_rfl
  gen := by kernel_rfl
  kind := by kernel_rfl
  cell := by decide +kernel
noncomputable def b_law_worth : List Stmt := defB 53
noncomputable def s_law_worth : Scope := defS 53
theorem d_law_worth : DefAt (GG prog w p loose mean mg mb) 336 (Str.ofString "_law_worth") (Str.ofString "_law_worth") [(Str.ofString "octet"), (Str.ofString "base")] [(Str.ofString "sign"), (Str.ofString "found")] b_law_worth s_law_worth (.ref 335) where
  ob := ⟨.type "function", none, #[], defP 53, .none, .none, .none, .str (Str.ofString "law_sj0089_01") 692, none, .none, by kernel_rfl, fun s => len2 fun v0 v1 => BindsTo.of_eq (by kernel_rfl)⟩
  code := by kernel_rfl
  loc := by kernel_rfl
  nodup := by decide +kernel
  co := by kernel_rfl
  gen := by kernel_rfl
  kind := by kernel_rfl
  cell := by decide +kernel
noncomputable def b_law_pressed : List Stmt := defB 54
noncomputable def s_law_pressed : Scope := defS 54
theorem d_law_pressed : DefAt (GG prog w p loose mean mg mb) 343 (Str.ofString "_law_pressed") (Str.ofString "_law_pressed") [(Str.ofString "machine"), (Str.ofString "octet"), (Str.ofString "base")] [(Str.ofString "worth"), (Str.ofString "stage"), (Str.ofString "is_below"), (Str.ofString "number"), (Str.ofString "wrong"), (Str.ofString "many")] b_law_pressed s_law_pressed (.ref 342) where
  ob := ⟨.type "function", none, #[], defP 54, .none, .none, .none, .str (Str.ofString "law_sj0089_01") 692, none, .none, by kernel_rfl, fun s => len3 fun v0 v1 v2 => BindsTo.of_eq (by kernel_rfl)⟩
  code := by kernel_rfl
  loc := by kernel_rfl
  nodup := by decide +kernel
  co := by kernel_rfl
  gen := by kernel_rfl
  kind := by kernel_rfl
  cell := by decide +kernel
noncomputable def b_law_shown : List Stmt := defB 55
noncomputable def s_law_shown : Scope := defS 55
theorem d_law_shown : DefAt (GG prog w p loose mean mg mb) 350 (Str.ofString "_law_shown") (Str.ofString "_law_shown") [(Str.ofString "machine")] [(Str.ofString "stage"), (Str.ofString "is_below"), (Str.ofString "number"), (Str.ofString "wrong"), (Str.ofString "many")] b_law_shown s_law_shown (.ref 349) where
  ob := ⟨.type "function", none, #[], defP 55, .none, .none, .none, .str (Str.ofString "law_sj0089_01") 692, none, .none, by kernel_rfl, fun s => len1 fun v0 => BindsTo.of_eq (by kernel_rfl)⟩
  code := by kernel_rfl
  loc := by kernel_rfl
  nodup := by decide +kernel
  co := by kernel_rfl
  gen := by kernel_rfl
  kind := by kernel_rfl
  cell := by decide +kernel
noncomputable def b_law_read : List Stmt := defB 56
noncomputable def s_law_read : Scope := defS 56
theorem d_law_read : DefAt (GG prog w p loose mean mg mb) 357 (Str.ofString "_law_read") (Str.ofString "_law_read") [(Str.ofString "text"), (Str.ofString "base"), (Str.ofString "w"), (Str.ofString "least")] [(Str.ofString "wrong")] b_law_read s_law_read (.ref 356) where
  ob := ⟨.type "function", none, #[], defP 56, .none, .none, .none, .str (Str.ofString "law_sj0089_01") 692, none, .none, by kernel_rfl, fun s => len4 fun v0 v1 v2 v3 => BindsTo.of_eq (by kernel_rfl)⟩
  code := by kernel_rfl
  loc := by kernel_rfl
  nodup := by decide +kernel
  co := by kernel_rfl
  gen := by kernel_rfl
  kind := by kernel_rfl
  cell := by decide +kernel
noncomputable def b_law_figures : List Stmt := defB 57
noncomputable def s_law_figures : Scope := defS 57
theorem d_law_figures : DefAt (GG prog w p loose mean mg mb) 364 (Str.ofString "_law_figures") (Str.ofString "_law_figures") [(Str.ofString "number"), (Str.ofString "base")] [(Str.ofString "signs"), (Str.ofString "found"), (Str.ofString "left")] b_law_figures s_law_figures (.ref 363) where
  ob := ⟨.type "function", none, #[], defP 57, .none, .none, .none, .str (Str.ofString "law_sj0089_01") 692, none, .none, by kernel_rfl, fun s => len2 fun v0 v1 => BindsTo.of_eq (by kernel_rfl)⟩
  code := by kernel_rfl
  loc := by kernel_rfl
  nodup := by decide +kernel
  co := by kernel_rfl
  gen := by kernel_rfl
  kind := by kernel_rfl
  cell := by decide +kernel
noncomputable def b_law : List Stmt := defB 58
noncomputable def s_law : Scope := defS 58
theorem d_law : DefAt (GG prog w p loose mean mg mb) 369 (Str.ofString "law") (Str.ofString "law") [(Str.ofString "script")] [(Str.ofString "roll"), (Str.ofString "turn"), (Str.ofString "base"), (Str.ofString "w"), (Str.ofString "least"), (Str.ofString "text"), (Str.ofString "machine"), (Str.ofString "octet"), (Str.ofString "kind"), (Str.ofString "due"), (Str.ofString "told")] b_law s_law (.ref 368) where
  ob := ⟨.type "function", none, #[], defP 58, .none, .none, .none, .str (Str.ofString "law_sj0089_01") 692, none, .none, by kernel_rfl, fun s => len1 fun v0 => BindsTo.of_eq (by kernel_rfl)⟩
  code := by kernel_rfl
  loc := by kernel_rfl
  nodup := by decide +kernel
  co := by kernel_rfl
  gen := by kernel_rfl
  kind := by kernel_rfl
  cell := by decide +kernel
def smallA : Array UInt8 := #[48, 49, 50, 51, 52, 53, 54, 55, 56, 57, 97, 98, 99, 100, 101, 102, 103, 104, 105, 106, 107, 108, 109, 110, 111, 112, 113, 114, 115, 116, 117, 118, 119, 120, 121, 122]
def bothA : Array UInt8 := #[48, 49, 50, 51, 52, 53, 54, 55, 56, 57, 65, 66, 67, 68, 69, 70, 71, 72, 73, 74, 75, 76, 77, 78, 79, 80, 81, 82, 83, 84, 85, 86, 87, 88, 89, 90, 97, 98, 99, 100, 101, 102, 103, 104, 105, 106, 107, 108, 109, 110, 111, 112, 113, 114, 115, 116, 117, 118, 119, 120, 121, 122]
def blankA : Array UInt8 := #[32, 9, 10, 11, 12, 13]
def keysA : Array UInt8 := #[32, 9, 45, 43, 48, 49, 50, 51, 55, 56, 57, 65, 70, 71, 90, 97, 102, 103, 122]
inductive GN : Str → V → Prop
  | n_normal : GN (Str.ofString "normal") (.fn (.ref 79))
  | n_nat_of : GN (Str.ofString "nat_of") (.fn (.ref 86))
  | n_compare : GN (Str.ofString "compare") (.fn (.ref 93))
  | n_add : GN (Str.ofString "add") (.fn (.ref 100))
  | n_mul_limb : GN (Str.ofString "mul_limb") (.fn (.ref 107))
  | n_divrem_limb : GN (Str.ofString "divrem_limb") (.fn (.ref 114))
  | n_shift_left : GN (Str.ofString "shift_left") (.fn (.ref 121))
  | n_shift_right : GN (Str.ofString "shift_right") (.fn (.ref 128))
  | n_bits : GN (Str.ofString "bits") (.fn (.ref 135))
  | n_plain_of : GN (Str.ofString "plain_of") (.fn (.ref 142))
  | n_check_base : GN (Str.ofString "check_base") (.fn (.ref 149))
  | n_digit_off : GN (Str.ofString "digit_off") (.fn (.ref 156))
  | n_digits_plain : GN (Str.ofString "digits_plain") (.fn (.ref 163))
  | n_base_powers : GN (Str.ofString "base_powers") (.fn (.ref 170))
  | n_with_noughts : GN (Str.ofString "with_noughts") (.fn (.ref 177))
  | n_digits_by_powers : GN (Str.ofString "digits_by_powers") (.fn (.ref 184))
  | n_to_digits : GN (Str.ofString "to_digits") (.fn (.ref 191))
  | n_times_base : GN (Str.ofString "times_base") (.fn (.ref 198))
  | n_number_plain : GN (Str.ofString "number_plain") (.fn (.ref 205))
  | n_number_by_powers : GN (Str.ofString "number_by_powers") (.fn (.ref 212))
  | n_from_digits : GN (Str.ofString "from_digits") (.fn (.ref 219))
  | n_letters_of : GN (Str.ofString "letters_of") (.fn (.ref 226))
  | n_digit_worth : GN (Str.ofString "digit_worth") (.fn (.ref 238))
  | n_blanks_end : GN (Str.ofString "blanks_end") (.fn (.ref 245))
  | n_text_digits : GN (Str.ofString "text_digits") (.fn (.ref 259))
  | n_from_text : GN (Str.ofString "from_text") (.fn (.ref 266))
  | n_mul_school : GN (Str.ofString "mul_school") (.fn (.ref 273))
  | n_divrem_small : GN (Str.ofString "divrem_small") (.fn (.ref 280))
  | n_guessed_limb : GN (Str.ofString "guessed_limb") (.fn (.ref 287))
  | n_take_away : GN (Str.ofString "take_away") (.fn (.ref 294))
  | n_put_back : GN (Str.ofString "put_back") (.fn (.ref 301))
  | n_divide_rows : GN (Str.ofString "divide_rows") (.fn (.ref 308))
  | n_divrem_school : GN (Str.ofString "divrem_school") (.fn (.ref 315))
  | n_law_typed : GN (Str.ofString "_law_typed") (.fn (.ref 322))
  | n_law_signed : GN (Str.ofString "_law_signed") (.fn (.ref 329))
  | n_law_worth : GN (Str.ofString "_law_worth") (.fn (.ref 336))
  | n_law_pressed : GN (Str.ofString "_law_pressed") (.fn (.ref 343))
  | n_law_shown : GN (Str.ofString "_law_shown") (.fn (.ref 350))
  | n_law_read : GN (Str.ofString "_law_read") (.fn (.ref 357))
  | n_law_figures : GN (Str.ofString "_law_figures") (.fn (.ref 364))
  | n_to_text : GN (Str.ofString "to_text") (.fn (.ref 231))
  | n_len : GN (Str.ofString "len") (.fn (.builtin "len"))
  | n_min : GN (Str.ofString "min") (.fn (.builtin "min"))
  | n_max : GN (Str.ofString "max") (.fn (.builtin "max"))
  | n_abs : GN (Str.ofString "abs") (.fn (.builtin "abs"))
  | n_chr : GN (Str.ofString "chr") (.fn (.builtin "chr"))
  | n_range : GN (Str.ofString "range") (.fn (.type "range"))
  | n_enumerate : GN (Str.ofString "enumerate") (.fn (.type "enumerate"))
  | n_bytes : GN (Str.ofString "bytes") (.fn (.type "bytes"))
  | n_int : GN (Str.ofString "int") (.fn (.type "int"))
  | c_SMALL_LETTERS : GN (Str.ofString "SMALL_LETTERS") (.bytes smallA)
  | c_BOTH_LETTERS : GN (Str.ofString "BOTH_LETTERS") (.bytes bothA)
  | c_TEXT_BLANKS : GN (Str.ofString "TEXT_BLANKS") (.bytes blankA)
  | c_law_keys : GN (Str.ofString "_law_keys") (.bytes keysA)
  | c_MOST_BASE : GN (Str.ofString "MOST_BASE") (.int 62)
  | c_MOST_PLAIN_BASE : GN (Str.ofString "MOST_PLAIN_BASE") (.int 36)
  | c_MINUS_SIGN : GN (Str.ofString "MINUS_SIGN") (.int 45)
def CeV (G : Gl) : V → Prop
  | .fn f => Callee G f
  | _ => True
inductive GnOk (G : Gl) (x : Str) (y : V) : Prop
  | g (v : Value) (e : nsIn G.K mainGlobals x = some (some v)) (hd : (x == ("__debug__" : Str)) = false) (r : FR [] v y) (c : CeV G y)
  | b (v : Value) (ey : y = .fn v) (e : nsIn G.K mainGlobals x = some none) (hv : bootBuiltins x = some v) (hn : x ≠ "__name__") (hd : (x == ("__debug__" : Str)) = false) (c : CeV G y)
theorem gn_ok {x : Str} {y : V} (h : GN x y) : GnOk (GG prog w p loose mean mg mb) x y := by
  cases h with
  | n_normal => exact .g (.ref 79) (by kernel_rfl) (by decide +kernel) (.fn _) (show keepIn _ _ = true by kernel_rfl)
  | n_nat_of => exact .g (.ref 86) (by kernel_rfl) (by decide +kernel) (.fn _) (show keepIn _ _ = true by kernel_rfl)
  | n_compare => exact .g (.ref 93) (by kernel_rfl) (by decide +kernel) (.fn _) (show keepIn _ _ = true by kernel_rfl)
  | n_add => exact .g (.ref 100) (by kernel_rfl) (by decide +kernel) (.fn _) (show keepIn _ _ = true by kernel_rfl)
  | n_mul_limb => exact .g (.ref 107) (by kernel_rfl) (by decide +kernel) (.fn _) (show keepIn _ _ = true by kernel_rfl)
  | n_divrem_limb => exact .g (.ref 114) (by kernel_rfl) (by decide +kernel) (.fn _) (show keepIn _ _ = true by kernel_rfl)
  | n_shift_left => exact .g (.ref 121) (by kernel_rfl) (by decide +kernel) (.fn _) (show keepIn _ _ = true by kernel_rfl)
  | n_shift_right => exact .g (.ref 128) (by kernel_rfl) (by decide +kernel) (.fn _) (show keepIn _ _ = true by kernel_rfl)
  | n_bits => exact .g (.ref 135) (by kernel_rfl) (by decide +kernel) (.fn _) (show keepIn _ _ = true by kernel_rfl)
  | n_plain_of => exact .g (.ref 142) (by kernel_rfl) (by decide +kernel) (.fn _) (show keepIn _ _ = true by kernel_rfl)
  | n_check_base => exact .g (.ref 149) (by kernel_rfl) (by decide +kernel) (.fn _) (show keepIn _ _ = true by kernel_rfl)
  | n_digit_off => exact .g (.ref 156) (by kernel_rfl) (by decide +kernel) (.fn _) (show keepIn _ _ = true by kernel_rfl)
  | n_digits_plain => exact .g (.ref 163) (by kernel_rfl) (by decide +kernel) (.fn _) (show keepIn _ _ = true by kernel_rfl)
  | n_base_powers => exact .g (.ref 170) (by kernel_rfl) (by decide +kernel) (.fn _) (show keepIn _ _ = true by kernel_rfl)
  | n_with_noughts => exact .g (.ref 177) (by kernel_rfl) (by decide +kernel) (.fn _) (show keepIn _ _ = true by kernel_rfl)
  | n_digits_by_powers => exact .g (.ref 184) (by kernel_rfl) (by decide +kernel) (.fn _) (show keepIn _ _ = true by kernel_rfl)
  | n_to_digits => exact .g (.ref 191) (by kernel_rfl) (by decide +kernel) (.fn _) (show keepIn _ _ = true by kernel_rfl)
  | n_times_base => exact .g (.ref 198) (by kernel_rfl) (by decide +kernel) (.fn _) (show keepIn _ _ = true by kernel_rfl)
  | n_number_plain => exact .g (.ref 205) (by kernel_rfl) (by decide +kernel) (.fn _) (show keepIn _ _ = true by kernel_rfl)
  | n_number_by_powers => exact .g (.ref 212) (by kernel_rfl) (by decide +kernel) (.fn _) (show keepIn _ _ = true by kernel_rfl)
  | n_from_digits => exact .g (.ref 219) (by kernel_rfl) (by decide +kernel) (.fn _) (show keepIn _ _ = true by kernel_rfl)
  | n_letters_of => exact .g (.ref 226) (by kernel_rfl) (by decide +kernel) (.fn _) (show keepIn _ _ = true by kernel_rfl)
  | n_digit_worth => exact .g (.ref 238) (by kernel_rfl) (by decide +kernel) (.fn _) (show keepIn _ _ = true by kernel_rfl)
  | n_blanks_end => exact .g (.ref 245) (by kernel_rfl) (by decide +kernel) (.fn _) (show keepIn _ _ = true by kernel_rfl)
  | n_text_digits => exact .g (.ref 259) (by kernel_rfl) (by decide +kernel) (.fn _) (show keepIn _ _ = true by kernel_rfl)
  | n_from_text => exact .g (.ref 266) (by kernel_rfl) (by decide +kernel) (.fn _) (show keepIn _ _ = true by kernel_rfl)
  | n_mul_school => exact .g (.ref 273) (by kernel_rfl) (by decide +kernel) (.fn _) (show keepIn _ _ = true by kernel_rfl)
  | n_divrem_small => exact .g (.ref 280) (by kernel_rfl) (by decide +kernel) (.fn _) (show keepIn _ _ = true by kernel_rfl)
  | n_guessed_limb => exact .g (.ref 287) (by kernel_rfl) (by decide +kernel) (.fn _) (show keepIn _ _ = true by kernel_rfl)
  | n_take_away => exact .g (.ref 294) (by kernel_rfl) (by decide +kernel) (.fn _) (show keepIn _ _ = true by kernel_rfl)
  | n_put_back => exact .g (.ref 301) (by kernel_rfl) (by decide +kernel) (.fn _) (show keepIn _ _ = true by kernel_rfl)
  | n_divide_rows => exact .g (.ref 308) (by kernel_rfl) (by decide +kernel) (.fn _) (show keepIn _ _ = true by kernel_rfl)
  | n_divrem_school => exact .g (.ref 315) (by kernel_rfl) (by decide +kernel) (.fn _) (show keepIn _ _ = true by kernel_rfl)
  | n_law_typed => exact .g (.ref 322) (by kernel_rfl) (by decide +kernel) (.fn _) (show keepIn _ _ = true by kernel_rfl)
  | n_law_signed => exact .g (.ref 329) (by kernel_rfl) (by decide +kernel) (.fn _) (show keepIn _ _ = true by kernel_rfl)
  | n_law_worth => exact .g (.ref 336) (by kernel_rfl) (by decide +kernel) (.fn _) (show keepIn _ _ = true by kernel_rfl)
  | n_law_pressed => exact .g (.ref 343) (by kernel_rfl) (by decide +kernel) (.fn _) (show keepIn _ _ = true by kernel_rfl)
  | n_law_shown => exact .g (.ref 350) (by kernel_rfl) (by decide +kernel) (.fn _) (show keepIn _ _ = true by kernel_rfl)
  | n_law_read => exact .g (.ref 357) (by kernel_rfl) (by decide +kernel) (.fn _) (show keepIn _ _ = true by kernel_rfl)
  | n_law_figures => exact .g (.ref 364) (by kernel_rfl) (by decide +kernel) (.fn _) (show keepIn _ _ = true by kernel_rfl)
  | n_to_text => exact .g (.ref 231) (by kernel_rfl) (by decide +kernel) (.fn _) (show keepIn _ _ = true by kernel_rfl)
  | n_len => exact .b _ rfl (by kernel_rfl) (by decide +kernel) (by decide +kernel) (by decide +kernel) trivial
  | n_min => exact .b _ rfl (by kernel_rfl) (by decide +kernel) (by decide +kernel) (by decide +kernel) trivial
  | n_max => exact .b _ rfl (by kernel_rfl) (by decide +kernel) (by decide +kernel) (by decide +kernel) trivial
  | n_abs => exact .b _ rfl (by kernel_rfl) (by decide +kernel) (by decide +kernel) (by decide +kernel) trivial
  | n_chr => exact .b _ rfl (by kernel_rfl) (by decide +kernel) (by decide +kernel) (by decide +kernel) trivial
  | n_range => exact .b _ rfl (by kernel_rfl) (by decide +kernel) (by decide +kernel) (by decide +kernel) trivial
  | n_enumerate => exact .b _ rfl (by kernel_rfl) (by decide +kernel) (by decide +kernel) (by decide +kernel) trivial
  | n_bytes => exact .b _ rfl (by kernel_rfl) (by decide +kernel) (by decide +kernel) (by decide +kernel) trivial
  | n_int => exact .b _ rfl (by kernel_rfl) (by decide +kernel) (by decide +kernel) (by decide +kernel) trivial
  | c_SMALL_LETTERS => exact .g (.bytes smallA 373) (by kernel_rfl) (by decide +kernel) (.bytes _ _) trivial
  | c_BOTH_LETTERS => exact .g (.bytes bothA 377) (by kernel_rfl) (by decide +kernel) (.bytes _ _) trivial
  | c_TEXT_BLANKS => exact .g (.bytes blankA 379) (by kernel_rfl) (by decide +kernel) (.bytes _ _) trivial
  | c_law_keys => exact .g (.bytes keysA 694) (by kernel_rfl) (by decide +kernel) (.bytes _ _) trivial
  | c_MOST_BASE => exact .g (.int 62 381) (by kernel_rfl) (by decide +kernel) (.int _ _) trivial
  | c_MOST_PLAIN_BASE => exact .g (.int 36 383) (by kernel_rfl) (by decide +kernel) (.int _ _) trivial
  | c_MINUS_SIGN => exact .g (.int 45 385) (by kernel_rfl) (by decide +kernel) (.int _ _) trivial
variable {C : Fc} {n : Nat} {Q : V → List V → Prop} {σ : List V} {pos : Pos}
theorem nm_g {x : Str} {y : V} (h : GN x y) (hx : Pl (C.cs.names.lookup x = some .globalImplicit)) (q : Q y σ) : wF (GG prog w p loose mean mg mb) C n (.Name x pos) Q σ := by
  cases gn_ok h with
  | g v e hd r _ => exact wF_global e hx hd r q
  | b v ey e hv hn hd _ => subst ey; exact wF_builtin e hv hn hx hd q
theorem ce_g {x : Str} {f : Value} (h : GN x (.fn f)) : Callee (GG prog w p loose mean mg mb) f := by
  cases gn_ok h with
  | g _ _ _ _ c => exact c
  | b _ _ _ _ _ _ c => exact c
theorem wF_lenG {x : Str} {px rp : Pos} {k : Nat} {a : Addr} {xs : List V} (ha : At C.names σ x k (.own a xs)) (hz : xs.length ≤ 1000000) (hx : Pl (C.cs.names.lookup (Str.ofString "len") = some .globalImplicit)) (q : Q (.int xs.length) σ)
    (hs : Pl (starEach [.Name x px] C.env = [(false, eval (.Name x px) C.env)])) : wF (GG prog w p loose mean mg mb) C n (.Call (.Name (Str.ofString "len") rp) [.Name x px] [] pos) Q σ := wF_lenO ha hz (nm_g .n_len hx kLn_i) q hs
end
end Mine
end
section
open PySem PySem.W PySem.Calls PyProof.Rows
set_option Elab.async false
set_option maxRecDepth 100000
set_option maxHeartbeats 4000000
set_option linter.unusedVariables false
namespace Mine
open Builtin
abbrev PW : Program := PySem.Challenge.pw_sj0089_01
theorem ns_some_of {K : Frag} {h : Heap} {N : Addr} {n : Str} {v : Value} (X : K.In h) (e : nsOkIn K N = true) (q : nsIn K N n = some (some v)) : h.nsMap N n = some v := by
  obtain ⟨o, es, ep, ho, hd, _, hf⟩ := Heap.Ns.of_isNs (isNs_of_in X e)
  unfold nsIn at q
  split at q
  · rename_i c d es' n' sl q'
    have := X _ _ q'
    rw [ho] at this
    cases this
    cases hd
    split at q
    · rename_i x hx
      rw [← hf]
      unfold nsFind findBy
      rw [← Array.find?_toList, hx]
      simpa using q
    · exfalso; revert q; split <;> simp
  · cases q
def exT : List Value := [.type "Exception", .type "BaseException", .type "object"]
noncomputable abbrev KK (w : World) : Frag := KF w.params
abbrev badObj : Obj := excClassObj (Str.ofString "BadText") (Str.ofString "BadText") 58 57 [.ref 24] (.ref 24 :: exT) true [] [] false none none (some (.ref 40)) none (some (.str (Str.ofString "BadText") 225)) (some (.str (Str.ofString "BadText") 233)) (some (.bool true)) "Exception.__new__"
noncomputable abbrev iniO : Obj := ⟨.type "function", none, .func iniD, #[]⟩
section
variable {w : World} {A : Around} {E : Value → Shared → Prop} {s : Shared}
theorem bad_obj (X : (KK w).In s.heap) : s.heap.get? 58 = some badObj := X _ _ (by kernel_rfl)
theorem bad_tail (X : (KK w).In s.heap) : OwnTail s.heap exT (.ref 24 :: exT) := tail_of_in X (by kernel_rfl)
theorem bad_ns (X : (KK w).In s.heap) : s.heap.Ns 57 (s.heap.nsMap 57) := .of_isNs (isNs_of_in X (by kernel_rfl))
theorem bad_init (X : (KK w).In s.heap) : s.heap.nsMap 57 "__init__" = some (.ref 55) := ns_some_of X (by kernel_rfl) (by kernel_rfl)
theorem bad_tcall {v : Value} {Q : Fin → Shared → Prop} {h : Heap} {g : Array GenState} {d : Drawn} {t : Nat} {os : OsState} (X : (KK w).In h)
    (hq : ∀ h' e, Heap.MadeExcOf h h' e (.ref 58) [v] → wpAny (model PW w) A (call (.ref 55) [.ref e, v]) (fun r s' => r = .none ∧ Q (.done (.ret (.ref e))) s') E ⟨h', g, d, t, os⟩) :
    wpAny (model PW w) A (Builtin.«type.__call__» ⟨[.ref 58, v], []⟩) Q E ⟨h, g, d, t, os⟩ := by
  have hC : h.get? 58 = some badObj := bad_obj (s := ⟨h, g, d, t, os⟩) X
  have T : OwnTail h exT (.ref 24 :: exT) := bad_tail (s := ⟨h, g, d, t, os⟩) X
  have F := PySem.F.excBase_Exception
  have hfI : h.get? 55 = some iniO := X _ _ (by kernel_rfl)
  repeat (first | with_reducible refine wpAny_loadPart_at hC ?_ | with_reducible refine wpAny_madeBy_exc hC ?_ | wp_step)
  refine codeAny_call_builtin_code (Code.quiet_builtin _ F.quiet) (wpAny_check_new_subT F T hC ?_)
  refine codeAny_exc_new_subT (rest := [v]) F T hC ?_ (by show (1 : Nat) ≤ sizeLine; rw [sizeLine_eq]; decide)
  show wpAny _ _ _ _ _ _
  have up : ∀ b o, h.get? b = some o → ((h.push { cls := .type "tuple", data := .seq [v].toArray }).push { cls := .ref 58, data := .fields #[.ref h.objs.size, .none, .none, .none, .bool false, .none] }).get? b = some o := fun b o e => Heap.get?_push_of_some _ (Heap.get?_push_of_some _ e)
  have X₁ : (KK w).In _ := X.keeps up
  have hn₁ := bad_ns (s := ⟨_, g, d, t, os⟩) X₁
  have hi₁ := bad_init (s := ⟨_, g, d, t, os⟩) X₁
  have hC₁ := up _ _ hC
  have T₁ := T.keeps up
  have hfI₁ := up _ _ hfI
  have hget : ((h.push { cls := .type "tuple", data := .seq [v].toArray }).push { cls := .ref 58, data := .fields #[.ref h.objs.size, .none, .none, .none, .bool false, .none] }).get? (h.objs.size + 1) = some
      { cls := .ref 58, data := .fields #[.ref h.objs.size, .none, .none, .none, .bool false, .none] } := by heap_get
  have hcC : (Value.ref 58 :: (.ref 24 :: exT)).contains (.ref 58) = true := by simp
  unfold isInstance
  repeat (first | with_reducible refine wpAny_loadPart_at hget ?_ | (with_reducible refine wpAny_isSubtype_exc hC₁ ?_; rw [hcC]) | wp_step)
  show wpAny _ _ (typeLookup (.ref 58) _) _ _ _
  refine wpAny_typeLookup_tail hC₁ hn₁ T₁ F.mroIs F.init.lookup ?_
  rw [hi₁]
  refine wpAny_holding (wpAny_bind ?_)
  unfold bindSpecial
  refine wpAny_bind (wpAny_typeOf (T := "function") ⟨_, hfI₁, rfl⟩ ?_)
  rw [if_pos (by decide)]
  refine wpAny_pure (wpAny_bind (wpAny_mono (hq _ (h.objs.size + 1) ⟨up, Heap.get?_none_of_le (Nat.le_succ _), h.objs.size, hget, Heap.get?_none_of_le (Nat.le_refl _), ?_⟩) (fun r s' hr => ?_) fun _ _ x => x))
  · exact Heap.get?_push_of_some _ (Heap.get?_push_at rfl rfl)
  · obtain ⟨rfl, hQ⟩ := hr
    wp_walk
    exact hQ
theorem bad_call {v : Value} {Q : Value → Shared → Prop} (X : (KK w).In s.heap)
    (hq : ∀ h' e, Heap.MadeExcOf s.heap h' e (.ref 58) [v] → wpAny (model PW w) (A.under (.builtin "type.__call__" ⟨[.ref 58, v], []⟩)) (call (.ref 55) [.ref e, v]) (fun r s' => r = .none ∧ Q (.ref e) s') E { s with heap := h' }) :
    wpAny (model PW w) A (call (.ref 58) [v]) Q E s := by
  have hC := bad_obj X
  obtain ⟨h, g, d, t, os⟩ := s
  have f1 := tc_lookup
  have f2 := tc_bind (.ref 58)
  have hT : (⟨h, g, d, t, os⟩ : Shared).TypeIs (.ref 58) "type" := ⟨_, hC, rfl⟩
  refine wpAny_call (codeAny_of_tree ?_)
  show wpAny _ _ (callAny (.ref 58) _) _ _ _
  repeat (any_goals (first | assumption | with_reducible refine wpAny_loadPart_at hC ?_ | wp_step))
  refine ⟨rfl, ?_⟩
  refine codeAny_call_builtin_at (Code.quiet_builtin _ (by decide +kernel)) entry_typeCall (wpAny_check_type_call_sub hC ?_)
  exact bad_tcall X hq
end
end Mine
end
section
open PySem PySem.W PySem.Calls PyProof.Rows
set_option Elab.async false
set_option maxRecDepth 100000
set_option maxHeartbeats 4000000
set_option linter.unusedVariables false
namespace Mine
open Builtin
namespace WD
theorem slot_get : Slot "wrapper_descriptor" "__get__" "wrapper_descriptor.__get__" := .of (owner := "wrapper_descriptor") (n := "__get__") (by rw [typeLookup_type, builtinLookup_eq_fast]; kernel_rfl) (by decide +kernel) (by decide +kernel) (by decide +kernel)
  (by first | exact .inl (by decide +kernel) | exact .inr (by decide +kernel)) (by rw [isSubtype_type]; kernel_rfl)
theorem entry_get : entryFor table "wrapper_descriptor.__get__" = some Builtin.«wrapper_descriptor.__get__» := entryFor_of_tree (by kernel_rfl)
theorem args_get (a b c : Value) : argsOk "wrapper_descriptor.__get__" ⟨[a, b, c], []⟩ := by unfold argsOk; kernel_rfl
theorem type_init {s : Shared} : s.TypeIs (.builtin "Exception.__init__") "wrapper_descriptor" := by first | exact rfl | kernel_rfl | (unfold Shared.TypeIs; decide +kernel)
end WD
def badCd : ClassData := match badObj.data with | .cls c => c | _ => default
section
variable {w : World} {A : Around} {E : Value → Shared → Prop} {h : Heap} {g : Array GenState} {d : Drawn} {t : Nat} {os : OsState}
abbrev wrapO (e : Addr) : Obj := { cls := .type "method-wrapper", data := .fields #[.builtin "Exception.__init__", .ref e] }
theorem wd_get {e : Addr} {oe : Obj} {Q : Value → Shared → Prop} (X : (KK w).In h) (he : h.get? e = some oe) (hc : oe.cls = .ref 58)
    (hq : Q (.ref h.objs.size) ⟨h.push (wrapO e), g, d, t, os⟩) :
    wpAny (model PW w) A (call (.builtin "wrapper_descriptor.__get__") [.builtin "Exception.__init__", .ref e, .ref 58]) Q E ⟨h, g, d, t, os⟩ := by
  have hC : h.get? 58 = some badObj := bad_obj (s := ⟨h, g, d, t, os⟩) X
  have hcE : (Value.ref 58 :: (.ref 24 :: exT)).contains (.type (".".intercalate ("Exception.__init__".cutAt '.').dropLast)) = true := by
    rw [show ".".intercalate ("Exception.__init__".cutAt '.').dropLast = "Exception" from by kernel_rfl]; decide +kernel
  refine wpAny_call_entry WD.slot_get WD.type_init WD.entry_get ?_ (WD.args_get _ _ _)
  unfold Builtin.«wrapper_descriptor.__get__»
  repeat (first | (with_reducible refine wpAny_loadPart_at he ?_; rw [hc]) | (with_reducible refine wpAny_isSubtype_exc hC ?_; rw [hcE]) | wp_step)
  exact ⟨_, rfl, hq⟩
theorem super_ga {so e : Addr} {oe : Obj} {tk : Tok} {Q : PySem.Fin → Shared → Prop} (X : (KK w).In h) (hso : h.get? so = some { cls := .type "super", dict := none, data := .fields #[.ref 58, .ref e, .ref 58], slots := #[] })
    (he : h.get? e = some oe) (hc : oe.cls = .ref 58) (hne : e ≠ 58) (hq : Q (.done (.ret (.ref h.objs.size))) ⟨h.push (wrapO e), g, d, t, os⟩) :
    wpAny (model PW w) A (Builtin.«super.__getattribute__» ⟨[.ref so, .str (Str.ofString "__init__") tk], []⟩) Q E ⟨h, g, d, t, os⟩ := by
  have hlk := WD.slot_get.lookup
  have hC : Looks (model PW w) h (mroOf (.ref 58)) badCd.mro := fun A Q E s k q => wpAny_bind ((looks_clsIn X (by kernel_rfl : clsIn (KK w) 58 = some badCd)) A _ E s k (wpAny_pure q))
  have hl : (badCd.mro.dropWhile (· != .ref 58)).drop 1 = .ref 24 :: exT := by kernel_rfl
  have hf : alongIn (KK w) (Str.ofString "__init__") (.ref 24 :: exT) = some (some (.builtin "Exception.__init__")) := by kernel_rfl
  have hno : Looks (model PW w) h (opaqueClassAbove (.ref 58)) none := looks_opaque X (by kernel_rfl)
  have hne' : (Value.ref e == Value.ref 58) = false := by simp [hne]
  have hn : (Str.ofString "__init__" == ("__class__" : Str)) = false := by decide +kernel
  have hdt : ({ cls := .type "super", dict := none, data := .fields #[.ref 58, .ref e, .ref 58], slots := #[] } : Obj).data = .fields #[.ref 58, .ref e, .ref 58] := rfl
  have f0 : (#[.ref 58, .ref e, .ref 58] : Array Value)[0]? = some (.ref 58) := rfl
  have f1 : (#[.ref 58, .ref e, .ref 58] : Array Value)[1]? = some (.ref e) := rfl
  have f2 : (#[.ref 58, .ref e, .ref 58] : Array Value)[2]? = some (.ref 58) := rfl
  unfold Builtin.«super.__getattribute__»
  repeat (first
    | (with_reducible refine wpAny_field hso hdt f0 ?_) | (with_reducible refine wpAny_field hso hdt f1 ?_) | (with_reducible refine wpAny_field hso hdt f2 ?_)
    | (with_reducible refine ks_wpAny_notOpaque hno ?_)
    | (with_reducible refine Looks.at hC ?_; rw [hl])
    | (refine ks_forIn_along X (fun _ _ => rfl) rfl ?_ hf)
    | (with_reducible refine wpAny_typeOf WD.type_init ?_)
    | (with_reducible refine wd_get X he hc ?_)
    | (simp only [hn, hne', Bool.or_false, Bool.false_eq_true, if_false])
    | wp_step
    | dsimp only)
  exact hq
theorem super_ini {so e : Addr} {oe : Obj} {pl : Sem Bool} {Q : Value × List Value → Shared → Prop} (X : (KK w).In h) (hso : h.get? so = some { cls := .type "super", dict := none, data := .fields #[.ref 58, .ref e, .ref 58], slots := #[] })
    (he : h.get? e = some oe) (hc : oe.cls = .ref 58) (hne : e ≠ 58) (hq : Q (.ref h.objs.size, []) ⟨h.push (wrapO e), g, d, t + 1, os⟩) :
    wpAny (model PW w) A (getMethod (.ref so) (Str.ofString "__init__") pl) Q E ⟨h, g, d, t, os⟩ := by
  have hlk := F.ks_slot_super_ga.lookup
  have hcan := F.ks_canon_super_ga
  have hT : ∀ t', (⟨h, g, d, t', os⟩ : Shared).TypeIs (.ref so) "super" := fun _ => ⟨_, hso, rfl⟩
  unfold getMethod
  refine wpAny_bind (wpAny_specialOf (hT _) hlk ?_)
  show wpAny _ _ (if (Manifest.canonical "super.__getattribute__" != "object.__getattribute__") = true then _ else _) _ _ _
  rw [if_pos hcan]
  unfold getAttr getAttrBy
  refine wpAny_bind (wpAny_bind (wpAny_mkText (wpAny_holding (wpAny_bind (wpAny_typeOf (hT _) (wpAny_bind (wpAny_of_eq hlk ?_)))))))
  show wpAny _ _ (getAttrByItsOwn (.ref so) (.str (Str.ofString "__init__") t) (.type "super") (.builtin "super.__getattribute__") true false) _ _ _
  unfold getAttrByItsOwn hookBefore callGetattribute boundAndCalled
  refine wpAny_bind (wpAny_of_eq (show (if onTheHeap (.type "super") then typeLookup (.type "super") "__getattr__" else pure none) = pure none from rfl) ?_)
  refine wpAny_bind (wpAny_attempt (wpAny_holding ?_))
  show wpAny _ _ (bindSpecial (.builtin "super.__getattribute__") (.ref so) >>= _) _ _ _
  refine wpAny_bind (wpAny_of_eq (F.ks_slot_super_ga.bind _) ?_)
  refine wpAny_mono (Q := fun v s' => v = .ref h.objs.size ∧ s' = ⟨h.push (wrapO e), g, d, t + 1, os⟩) (E := fun _ _ => False)
    (wpAny_call_entry F.ks_slot_super_ga (hT _) F.ks_entry_super_ga (super_ga X hso he hc hne ⟨_, rfl, rfl, rfl⟩) (F.ks_gaArgs_super _ _)) (fun v s' hv => ?_) fun _ _ z => z.elim
  obtain ⟨rfl, rfl⟩ := hv
  exact wpAny_pure (wpAny_pure hq)
end
end Mine
end
section
open PySem PySem.W PySem.Calls PyProof.Rows
set_option Elab.async false
set_option maxRecDepth 100000
set_option maxHeartbeats 4000000
set_option linter.unusedVariables false
namespace Mine
open Builtin
section
variable {w : World} {A : Around} {E : Value → Shared → Prop} {h : Heap} {g : Array GenState} {d : Drawn} {t : Nat} {os : OsState}
theorem wrap_call {b e t0 : Addr} {v : Value} {Q : Value → Shared → Prop} (X : (KK w).In h) (hb : h.get? b = some (wrapO e)) (he : h.get? e = some { cls := .ref 58, data := .fields #[.ref t0, .none, .none, .none, .bool false, .none] })
    (hq : ∀ h' t', h'.get? e = some { cls := .ref 58, data := .fields #[.ref t', .none, .none, .none, .bool false, .none] } → (∀ y o, y ≠ e → h.get? y = some o → h'.get? y = some o) → (h'.objs.size = h.objs.size + 1) → Q .none ⟨h', g, d, t, os⟩) :
    wpAny (model PW w) A (call (.ref b) [v]) Q E ⟨h, g, d, t, os⟩ := by
  have hC : h.get? 58 = some badObj := bad_obj (s := ⟨h, g, d, t, os⟩) X
  have T : OwnTail h exT (.ref 24 :: exT) := bad_tail (s := ⟨h, g, d, t, os⟩) X
  have F := PySem.F.excBase_Exception
  refine wpAny_call (codeAny_of_tree ?_)
  show wpAny _ _ (callAny (.ref b) _) _ _ _
  repeat (first | with_reducible refine wpAny_loadPart_at hb ?_ | wp_step)
  refine ⟨Code.quiet_builtin _ (by decide +kernel), codeAny_builtin F.initEntry ?_⟩
  show wpAny _ _ (Builtin.«BaseException.__init__» ⟨[.ref e, v], []⟩) _ _ _
  unfold Builtin.«BaseException.__init__»
  repeat (first | with_reducible refine wpAny_loadPart_at he ?_ | wp_step)
  refine hq _ h.objs.size ?_ (fun y o hy ho => ?_) ?_
  · exact Heap.get?_update_self _ (Heap.get?_push_of_some _ he) rfl
  · rw [Heap.get?_update_other _ _ (Ne.symm hy)]; exact Heap.get?_push_of_some _ ho
  · rw [Heap.size_after_update, Heap.size_push]
end
end Mine
end
section
open PySem PySem.W PySem.Calls PyProof.Rows
set_option Elab.async false
set_option maxRecDepth 100000
set_option maxHeartbeats 4000000
set_option linter.unusedVariables false
namespace Mine
open Builtin
section
variable {w : World} {A : Around} {E : Value → Shared → Prop} {s : Shared}
open Builtin.ObjectAttr
abbrev excObj (t : Addr) (d : Option Addr) : Obj := { cls := .ref 58, dict := d, data := .fields #[.ref t, .none, .none, .none, .bool false, .none] }
def AtD (h : Heap) (D : Addr) (v : Value) : Prop := h.Ns1 D (fun y => if y = Str.ofString "at" then some v else none)
theorem bad_set {e t0 : Addr} {v : Value} {Q : Unit → Shared → Prop} (X : (KK w).In s.heap) (he : s.heap.get? e = some (excObj t0 none))
    (hq : ∀ h' D tk, h'.get? e = some (excObj t0 (some D)) → AtD h' D v → s.heap.get? D = none → D ≠ e → (∀ y o, y ≠ e → s.heap.get? y = some o → h'.get? y = some o) → Q () { s with heap := h', toks := tk }) :
    wpAny (model PW w) A (setAttr (.ref e) (Str.ofString "at") v) Q E s := by
  obtain ⟨h, g, d, tk, os⟩ := s
  have I : InstAt h e (excObj t0 none) 58 none := ⟨he, rfl, rfl, trivial⟩
  have SF := PySem.F.store_object
  have SE := PySem.F.store_Exception
  refine set_plain (s := ⟨h, g, d, tk, os⟩) X I (by kernel_rfl) ?_
  have L0 : Looks (model PW w) h (typeOf (.ref e)) (.ref 58) := I.type
  have sub : Looks (model PW w) h (isInstance (.ref e) (.type "object")) true := I.type.andThen (looks_mroIn X (by kernel_rfl))
  have hm : Looks (model PW w) h (mroOf (.ref 58)) badCd.mro := (looks_clsIn X (by kernel_rfl : clsIn (KK w) 58 = some badCd)).andThen .now
  have hml : badCd.mro = .ref 58 :: .ref 24 :: exT := by kernel_rfl
  have ha : Looks (model PW w) h (typeLookup (.ref 58) (Str.ofString "at")) none := looks_findIn X (by kernel_rfl)
  refine codeAny_call_builtin SF.slot.plain SF.entry (@check_slot (model PW w) _ _ ⟨h, g, d, tk + 1, os⟩ "object.__setattr__" "object" "__setattr__" (.ref e) [.str (Str.ofString "at") tk, v] [] _ SF.kind SF.split sub (SF.args (.ref e) (.str (Str.ofString "at") tk) v) ?_)
  rw [osa_eq, refuse_eq]
  refine wpAny_bind (wpAny_bind (Looks.at L0 (wpAny_bind (Looks.at hm ?_))))
  rw [hml, refuseLoop_ref, refuseLoop_ref]
  rw [show refuseLoop (.ref e) "__setattr__" exT = pure () from SE.passes (.ref e)]
  refine wpAny_pure (wpAny_bind (Looks.at L0 (wpAny_bind (Looks.at ha (wpAny_bind (wpAny_pure ?_))))))
  dsimp only
  unfold storeInOwnDict
  repeat (first | (with_reducible refine wpAny_loadPart_at he ?_) | wp_step)
  have hC : h.get? 58 = some badObj := bad_obj (s := ⟨h, g, d, tk, os⟩) X
  refine wpAny_load hC (wpAny_pure ?_)
  rw [if_neg (by decide)]
  dsimp only
  rw [if_neg (by simp [typeHasDict])]
  have hx₁ : (h.push { cls := .type "dict", data := .dict #[] }).get? e = some (excObj t0 none) := Heap.get?_push_of_some _ he
  have hxs : e ≠ h.objs.size := Nat.ne_of_lt (Heap.lt_size he)
  show wpAny _ _ (alloc _ >>= _) _ _ _
  refine wpAny_bind (wpAny_alloc' ?_)
  refine wpAny_bind (wpAny_update' hx₁ ?_)
  refine wpAny_pure ?_
  have hgd : ((h.push { cls := .type "dict", data := .dict #[] }).update e fun o => { cls := o.cls, dict := some h.objs.size, data := o.data, slots := o.slots }).get? h.objs.size
      = some { cls := .type "dict", data := .dict #[] } :=
    (Heap.get?_update_ne _ _ _ _ hxs.symm).trans (Heap.get?_push_at rfl rfl)
  have hnd : ((h.push { cls := .type "dict", data := .dict #[] }).update e fun o => { cls := o.cls, dict := some h.objs.size, data := o.data, slots := o.slots }).Ns h.objs.size (fun _ => none) :=
    ⟨_, #[], _, hgd, rfl, fun e he => absurd he (by simp), fun _ => rfl⟩
  show wpAny _ _ (storeInDict h.objs.size (.str (Str.ofString "at") tk) (Str.ofString "at") v) _ _ _
  unfold storeInDict newKeyGuard
  refine wpAny_bind (wpAny_pure (wpAny_bind (wpAny_nsSet1 (Heap.Ns1.of_empty hnd) fun h' hn' hs => ?_)))
  obtain ⟨oD, esD, epD, hoD, hdD, hcD⟩ := hn'.count (Within.cons (Str.ofString "at") v Within.nil)
  refine wpAny_bind (wpAny_lookBehind hoD (by rw [hdD]; exact pastItsLine_dict (Nat.le_trans hcD (by rw [List.length_cons, List.length_nil, sizeLine_eq]; omega))) ?_)
  wp_walk
  refine hq h' h.objs.size _ ?_ hn' (Heap.get?_none_of_le (Nat.le_refl _)) hxs.symm (fun y o hy ho => ?_)
  · exact (hs.2 e hxs).trans (Heap.get?_update_self _ hx₁ rfl)
  · exact (hs.2 y (Nat.ne_of_lt (Heap.lt_size ho))).trans ((Heap.get?_update_ne _ _ _ _ hy).trans (Heap.get?_push_of_some _ ho))
end
end Mine
end
section
open PySem PySem.W PySem.Calls PyProof.Rows
set_option Elab.async false
set_option maxRecDepth 100000
set_option maxHeartbeats 4000000
set_option linter.unusedVariables false
namespace Mine
open Builtin
section
variable {w : World} {A : Around} {E : Value → Shared → Prop} {s : Shared} {p : Program} {loose : List Str} {mean : ExcName → Option Value} {mg mb : Str → Option Value}
noncomputable def iniAr : Arg := match iniP.args with | a :: _ => a | _ => default
def iniVs : Array Value := #[.str (Str.ofString "__init__") 237, .str (Str.ofString "BadText.__init__") 238,
              Value.str (Str.ofString "/claim/cut.py") 239, Value.int 8 0, Value.int 2 0, Value.int 0 0, Value.int 0 0,
              Value.int 3 0, Value.ref 49, Value.bool true, Value.int 181 0, Value.ref 50, Value.none, Value.ref 51,
              Value.ref 52, Value.ref 53, Value.int 243 0, Value.int 8 0,
              Value.str (Str.ofString "/claim/cut.py") 244]
theorem callWith_wrap {M : Model} {env : Env} {pos : Pos} {b e0 : Addr} {e : Expr} {rest : List Expr} {Q : Value → Shared → Prop}
    (h : wpAny M A (spliced (backTo pos (starEach (e :: rest) env))) (fun vs s₁ => s₁.heap.get? b = some (wrapO e0) ∧ wpAny M A (call (.ref b) ([] ++ vs)) Q E s₁) E s)
    (he : starEach (e :: rest) env = (false, eval e env) :: starEach rest env := by rfl) (hplain : (backTo pos (starEach rest env)).any (·.1) = false := by rfl) :
    wpAny M A (callWith pos (.ref b) [] (backTo pos (starEach (e :: rest) env)) []) Q E s := by
  rw [he] at h ⊢
  refine callWith_of (P := fun h => h.get? b = some (wrapO e0)) (by show ((false || (backTo pos (starEach rest env)).any (·.1)) || false) = false; rw [hplain]; rfl) (fun h hb => ⟨.machine, .inr (.inl rfl), (Looks.ld (part := none) hb).andThen .now⟩) (evalArgs_plain h)
theorem bad_ini {e t : Addr} {v : Value} {Q : Value → Shared → Prop} (X : (KK w).In s.heap) (T : Top p loose mean mg mb s.heap) (hroom : A.depth < recursionLimit)
    (he : s.heap.get? e = some (excObj t none)) (heK : ∀ o, (KK w).lookup e ≠ some o) (hq : ∀ h' t' D tk, h'.get? e = some (excObj t' (some D)) → AtD h' D v → s.heap.get? D = none → D ≠ e → (∀ y o, y ≠ e → s.heap.get? y = some o → h'.get? y = some o) → Q .none { s with heap := h', toks := tk }) :
    wpAny (model PW w) A (call (.ref 55) [.ref e, v]) Q E s := by
  refine wpAny_call (ks_codeAny_call_defAt (fd := iniD) (body := iniB) (binds := [(Str.ofString "self", .ref e), (Str.ofString "at", v)]) hroom (X _ _ (by kernel_rfl : (KK w).lookup 55 = some iniO)) rfl T.nolimit (codeRec_of X (by kernel_rfl)) rfl (BindsTo.of_eq (by kernel_rfl)) (by decide +kernel) (fun x hx => by rcases List.mem_cons.mp hx with rfl | hx; (· kernel_rfl); rcases List.mem_cons.mp hx with rfl | hx; (· kernel_rfl); cases hx) (fun h₁ hns hk₁ => ?_) (by kernel_rfl) (by kernel_rfl) (by kernel_rfl))
  show _root_.PySem.wpAt _ (A.deeper (ksEnv (Str.ofString "BadText.__init__") iniS s.heap.objs.size 55 (.ref 54) 43)) (.func iniB (ksEnv (Str.ofString "BadText.__init__") iniS s.heap.objs.size 55 (.ref 54) 43)) (execs iniB (ksEnv (Str.ofString "BadText.__init__") iniS s.heap.objs.size 55 (.ref 54) 43)) _ _ _
  have F : Fr s.heap s.heap.objs.size h₁ (fun x => [(Str.ofString "self", Value.ref e), (Str.ofString "at", v)].reverse.lookup x) := ⟨hns, hk₁, Nat.le_refl _⟩
  have N : News s.heap s.heap.objs.size h₁ [] := .nil
  refine ks_wpAt_execs_cons (ks_wpAt_Expr_any ?_)
  refine ks_wpAt_MethodCall ?_
  refine ks_node (D := 58) (cdD := badCd) (fd := iniD) (ar := iniAr) (vs := iniVs) (file := Str.ofString "/claim/cut.py") (tf := 239) (ox := excObj t none) (odx := none) (oc := .type "function") (od := none) (osl := #[]) (ccl := .type "code") (cdd := none) (ccs := #[]) (cl := .type "cell") (cld := none) (csl := #[]) F X N T (by kernel_rfl) (by kernel_rfl) (by rfl) (show InstAt h₁ e (excObj t none) 58 none from ⟨hk₁ _ _ he, rfl, rfl, trivial⟩) (by kernel_rfl) (by kernel_rfl) (by kernel_rfl) (by kernel_rfl) (by kernel_rfl) (by kernel_rfl) (by kernel_rfl) (by kernel_rfl) (by kernel_rfl) (by kernel_rfl) (by kernel_rfl) (by kernel_rfl) (by kernel_rfl) (by kernel_rfl) (fun so h₂ F₂ N₂ l₂ => ?_)
  have hne : e ≠ 58 := fun q => by
    have := he
    rw [q, bad_obj X] at this
    cases this
  have X₂ : (KK w).In h₂ := X.keeps F₂.keep
  have he₂ : h₂.get? e = some (excObj t none) := F₂.keep _ _ he
  refine super_ini X₂ (N₂ _ (.head _)).1 he₂ rfl hne ?_
  dsimp only
  have up₃ : ∀ b o, h₂.get? b = some o → (h₂.push (wrapO e)).get? b = some o := fun b o e => Heap.get?_push_of_some _ e
  have hb₃ : (h₂.push (wrapO e)).get? h₂.objs.size = some (wrapO e) := Heap.get?_push_at rfl rfl
  refine callWith_wrap (e0 := e) ?_
  refine wpAny_items_cons (wpAny_Constant_str (wpAny_items_nil ⟨hb₃, ?_⟩)) rfl
  refine wrap_call (X.keeps fun b o q => up₃ b o (F₂.keep b o q)) hb₃ (up₃ _ _ he₂) fun h₄ t' he₄ k₄ _ => ?_
  dsimp only
  have ne : ∀ y o, s.heap.get? y = some o → y ≠ e → h₄.get? y = some o := fun y o q hy => k₄ y o hy (up₃ y o (F₂.keep y o q))
  have X₄ : (KK w).In h₄ := fun y o q => ne y o (X y o q) fun hy => heK o (hy ▸ q)
  obtain ⟨oL, es, ep, hoL, hL⟩ := F₂.ns
  have hLe : s.heap.objs.size ≠ e := Nat.ne_of_gt (Heap.lt_size he)
  have hns₄ : h₄.Ns s.heap.objs.size (fun x => [(Str.ofString "self", Value.ref e), (Str.ofString "at", v)].reverse.lookup x) := ⟨oL, es, ep, k₄ _ _ hLe (up₃ _ _ hoL), hL⟩
  refine ks_wpAt_execs_cons (ks_wpAt_Assign_Attr (wpAt_of_wpAny ?_) (by with_unfolding_all rfl))
  refine wpAny_Name (wpAny_loadName_local (by kernel_rfl) (by kernel_rfl) hns₄ (v := v) rfl ?_) (by decide +kernel)
  refine wpAny_Name (wpAny_loadName_local (by kernel_rfl) (by kernel_rfl) hns₄ (v := .ref e) (by rfl) ?_) (by decide +kernel)
  refine bad_set X₄ he₄ fun h₅ D tk g1 g2 g3 g4 g5 => ?_
  refine wpAt_of_wpAny (wpAny_execs_nil ?_)
  refine hq h₅ t' D tk g1 g2 ?_ g4 fun y o hy ho => g5 y o hy (ne y o ho hy)
  cases q : s.heap.get? D with
  | none => rfl
  | some o => rw [ne D o q g4] at g3; cases g3
end
end Mine
end
section
open PySem PySem.W PySem.Calls PyProof.Rows
set_option Elab.async false
set_option maxRecDepth 100000
set_option maxHeartbeats 4000000
set_option linter.unusedVariables false
namespace Mine
open Builtin
abbrev fsOf (l : List Env) : List Addr := l.filterMap (·.frame)
theorem none_of {h h' : Heap} (k : ∀ b o, h.get? b = some o → h'.get? b = some o) {a : Addr} (q : h'.get? a = none) : h.get? a = none := by
  cases z : h.get? a with
  | none => rfl
  | some o => rw [k _ _ z] at q; cases q
def Ev (F : List Addr) (G h : Heap) : Prop := ∀ b o, G.get? b = some o → (b ∉ F → h.get? b = some o) ∧ ∃ sl, h.get? b = some { o with slots := sl }
theorem Ev.of_keeps {F : List Addr} {G h : Heap} (k : ∀ b o, G.get? b = some o → h.get? b = some o) : Ev F G h := fun b o e => ⟨fun _ => k b o e, o.slots, k b o e⟩
theorem Ev.frames {F : List Addr} {G h base : Heap} {l : List Env} (x : Ev F G h) (f : G.FunFrames base l) : h.FunFrames base l := f.of_keeps fun b o e _ => let ⟨sl, q⟩ := (x b o e).2; ⟨_, q, rfl⟩
theorem Ev.ns {F : List Addr} {G h : Heap} (x : Ev F G h) {a : Addr} {m : Str → Option Value} (n : G.Ns a m) : h.Ns a m := by
  obtain ⟨o, es, ep, ho, hd, r⟩ := n
  obtain ⟨sl, q⟩ := (x a o ho).2
  exact ⟨_, es, ep, q, hd, r⟩
theorem Ev.ns1 {F : List Addr} {G h : Heap} (x : Ev F G h) {a : Addr} {m : Str → Option Value} (n : G.Ns1 a m) : h.Ns1 a m := by
  obtain ⟨o, es, ep, ho, hd, r⟩ := n
  obtain ⟨sl, q⟩ := (x a o ho).2
  exact ⟨_, es, ep, q, hd, r⟩
theorem AtD.keep {h h' : Heap} {D : Addr} {v : Value} (x : AtD h D v) (k : ∀ o, h.get? D = some o → (∀ vs, o.data ≠ .fields vs) → ∃ sl, h'.get? D = some { o with slots := sl }) : AtD h' D v := by
  obtain ⟨o, es, ep, ho, hd, r⟩ := x
  obtain ⟨sl, q⟩ := k o ho fun vs q => by rw [hd] at q; cases q
  exact ⟨_, es, ep, q, hd, r⟩
section
variable {M : Model} {A : Around} {E : Value → Shared → Prop} {s : Shared}
theorem entry_new {base : Heap} {env : Env} {outer : List Env} {L e : Addr} {oe : Obj} {vs : Array Value} {head : Value} {hadNext : Bool} {Q : Unit → Shared → Prop}
    (hfr : A.frames = some (env :: outer)) (hl : s.heap.FunFrames base (env :: outer)) (hf : env.frame = some L) (he : s.heap.get? e = some oe) (hd : oe.data = .fields vs) (hsz : 1 < vs.size)
    (h : ∀ h' T oT ts, (∀ b o, b ≠ e → s.heap.get? b = some o → (b ∉ fsOf (env :: outer) → h'.get? b = some o) ∧ ∃ sl, h'.get? b = some { o with slots := sl }) → s.heap.get? T = none → T ≠ e →
      h'.get? e = some (oe.mapFields (·.setIfInBounds 1 (.ref T))) → h'.get? T = some oT → oT.data = .fields ts → ts[3]? = some (rawInt L) → Q () { s with heap := h' }) :
    wpAny M A (do let a ← frameOf env; let pl ← entryPlaceOf L hadNext; let b ← EntryCells.newEntry head a .none (rawInt L) .none pl; setField (.ref e) 1 b) Q E s := by
  have hne : e ∉ fsOf (env :: outer) := fun hm => by
    obtain ⟨_, o, ho, hnf⟩ := hl.mem hm
    rw [he] at ho; cases ho; exact hnf vs hd
  refine wpAny_bind (wpAny_frameOf_fun hfr hl hf fun h₁ hs₁ => ?_)
  refine wpAny_bind (wpAny_entryPlaceOf fun pl hpl => ?_)
  unfold EntryCells.newEntry newFields
  refine wpAny_bind (wpAny_newObj_type ?_ (hpl.sizeOk5 _ _ _ _ _))
  have he₁ : h₁.get? e = some oe := (hs₁.2.1 e hne).trans he
  have hTn : s.heap.get? h₁.objs.size = none := by
    cases q : s.heap.get? h₁.objs.size with
    | none => rfl
    | some o => obtain ⟨sl, z⟩ := hs₁.2.2 _ o q; exact absurd (Heap.lt_size z) (Nat.lt_irrefl _)
  have hTe : h₁.objs.size ≠ e := Nat.ne_of_gt (Heap.lt_size he₁)
  generalize hob : ({ cls := .type "traceback", dict := none, data := .fields ([head, .ref L, .none, rawInt L, .none] ++ (if pl.isEmpty then List.replicate 6 Value.none else pl)).toArray } : Obj) = ob
  have he₂ := Heap.get?_push_of_some (h := h₁) ob he₁
  refine wpAny_setField he₂ hd hsz (h _ h₁.objs.size ob _ (fun b o hbe hb => ?_) hTn hTe ?_ ?_ (by rw [← hob]) ?_)
  · have up : ∀ o', h₁.get? b = some o' → ((h₁.push ob).update e (Obj.mapFields (·.setIfInBounds 1 (Value.ref h₁.objs.size)))).get? b = some o' := fun o' q => by
      rw [Heap.get?_update_other _ _ (Ne.symm hbe)]; exact Heap.get?_push_of_some _ q
    obtain ⟨sl, z⟩ := hs₁.2.2 b o hb
    exact ⟨fun hb' => up _ ((hs₁.2.1 b hb').trans hb), sl, up _ z⟩
  · exact Heap.get?_update_self _ he₂ (Obj.isFreed_of_fields (Obj.data_mapFields hd _))
  · rw [Heap.get?_update_other _ _ (Ne.symm hTe)]
    exact Heap.get?_push_size h₁ (by rw [← hob]; rfl)
  · first | (simp; done) | (rcases hpl with rfl | ⟨_, _, _, _, _, _, _, rfl⟩ <;> simp)
inductive Fly (F : List Addr) (G : Heap) (e D : Addr) (v : Value) (fl : Value) (h : Heap) : Prop
  | mk (ev : Ev F G h) (g : G.get? e = none ∧ G.get? D = none) (ad : AtD h D v) (oe : Obj) (vs : Array Value) (T : Addr) (oT : Obj) (ts : Array Value) (he : h.get? e = some oe) (hc : oe.cls = .ref 58) (hdct : oe.dict = some D) (hd : oe.data = .fields vs) (h1 : vs[1]? = some (.ref T)) (hTe : T ≠ e) (hGT : G.get? T = none) (hT : h.get? T = some oT) (hdT : oT.data = .fields ts) (h3 : ts[3]? = some fl)
inductive New (F : List Addr) (G : Heap) (e D : Addr) (v : Value) (h : Heap) : Prop
  | mk (ev : Ev F G h) (g : G.get? e = none ∧ G.get? D = none) (ad : AtD h D v) (t : Tok) (he : h.get? e = some (excObj t (some D)))
theorem Fly.ev {F : List Addr} {G : Heap} {e D : Addr} {v : Value} {fl : Value} {h : Heap} (x : Fly F G e D v fl h) : Ev F G h := by cases x; assumption
theorem set_flight {F : List Addr} {G : Heap} {e D : Addr} {v fl : Value} {fr : Option Addr} {Q : Unit → Shared → Prop} (x : Fly F G e D v fl s.heap)
    (h : ∀ h', Fly F G e D v (fr.elim .none fun f => rawInt f) h' → Q () { s with heap := h' }) : wpAny M A (setFlight (.ref e) fr) Q E s := by
  obtain ⟨ev, g, ad, oe, vs, T, oT, ts, he, hc, hdct, hd, h1, hTe, hGT, hT, hdT, h3⟩ := x
  have hsz3 : 3 < ts.size := (Array.getElem?_eq_some_iff.mp h3).1
  unfold setFlight
  refine wpAny_bind (wpAny_field he hd h1 ?_)
  rw [if_pos (show (Value.ref T != Value.none) = true from by simp)]
  refine wpAny_setField hT hdT hsz3 (h _ ?_)
  have other : ∀ b, b ≠ T → (s.heap.update T (Obj.mapFields (·.setIfInBounds 3 (fr.elim .none fun f => rawInt f)))).get? b = s.heap.get? b := fun b hb => Heap.get?_update_other _ _ (Ne.symm hb)
  refine ⟨fun b o hb => ?_, g, ad.keep fun o ho hn => ?_, oe, vs, T, _, _, (other e (Ne.symm hTe)).trans he, hc, hdct, hd, h1, hTe, hGT, Heap.get?_update_self _ hT (Obj.isFreed_of_fields (Obj.data_mapFields hdT _)), Obj.data_mapFields hdT _, by simp [hsz3]⟩
  · have hbT : b ≠ T := fun q => by rw [q, hGT] at hb; cases hb
    obtain ⟨z1, sl, z2⟩ := ev b o hb
    exact ⟨fun q => (other b hbT).trans (z1 q), sl, (other b hbT).trans z2⟩
  · have hDT : D ≠ T := fun q => by rw [q, hT] at ho; cases ho; exact hn ts hdT
    exact ⟨o.slots, (other D hDT).trans ho⟩
theorem note_any {F : List Addr} {G base : Heap} {env : Env} {outer : List Env} {L e D : Addr} {v : Value} {Q : Unit → Shared → Prop} (hfr : A.frames = some (env :: outer)) (hf : env.frame = some L) (hG : G.FunFrames base (env :: outer)) (hF : F = fsOf (env :: outer))
    (x : New F G e D v s.heap ∨ Fly F G e D v .none s.heap ∨ Fly F G e D v (rawInt L) s.heap)
    (h : ∀ h', Fly F G e D v (rawInt L) h' → Q () { s with heap := h' }) : wpAny M A (noteFrame (.ref e) env) Q E s := by
  subst hF
  unfold noteFrame
  simp only [hf]
  rcases x with ⟨ev, g, ad, t, he⟩ | ⟨ev, g, ad, oe, vs, T, oT, ts, he, hc, hdct, hd, h1, hTe, hGT, hT, hdT, h3⟩ | ⟨ev, g, ad, oe, vs, T, oT, ts, he, hc, hdct, hd, h1, hTe, hGT, hT, hdT, h3⟩
  · refine wpAny_bind (wpAny_field he rfl rfl ?_)
    rw [if_neg (by simp)]
    refine entry_new hfr (ev.frames hG) hf he rfl (by simp) fun h' T oT ts k hT hTe he' hT' hdT h3 => h h' ⟨fun b o hb => ?_, g, ad.keep fun o ho hn => ?_, _, _, T, oT, ts, he', rfl, rfl, rfl, by simp, hTe, ?_, hT', hdT, h3⟩
    · have hbe : b ≠ e := fun q => by rw [q, g.1] at hb; cases hb
      obtain ⟨z1, sl, z2⟩ := ev b o hb
      exact ⟨fun q => (k b o hbe (z1 q)).1 q, let ⟨sl', z⟩ := (k b _ hbe z2).2; ⟨sl', z⟩⟩
    · exact (k D o (fun q => by rw [q, he] at ho; cases ho; exact hn _ rfl) ho).2
    · cases q : G.get? T with
      | none => rfl
      | some o => obtain ⟨sl, z⟩ := (ev T o q).2; rw [hT] at z; cases z
  · refine wpAny_bind (wpAny_field he hd h1 ?_)
    rw [if_pos (show (Value.ref T != Value.none) = true from by simp)]
    refine wpAny_bind (wpAny_field hT hdT h3 ?_)
    rw [if_neg (show ¬ ((Value.none == rawInt L) = true) from by simp [rawInt])]
    refine wpAny_bind (wpAny_setField hT hdT (Array.getElem?_eq_some_iff.mp h3).1 ?_)
    have other : ∀ b, b ≠ T → (s.heap.update T (Obj.mapFields (·.setIfInBounds 3 Value.none))).get? b = s.heap.get? b := fun b hb => Heap.get?_update_other _ _ (Ne.symm hb)
    have ev' : Ev (fsOf (env :: outer)) G (s.heap.update T (Obj.mapFields (·.setIfInBounds 3 Value.none))) := fun b o hb => by
      have hbT : b ≠ T := fun q => by rw [q, hGT] at hb; cases hb
      obtain ⟨z1, sl, z2⟩ := ev b o hb
      exact ⟨fun q => (other b hbT).trans (z1 q), sl, (other b hbT).trans z2⟩
    have ad' : AtD (s.heap.update T (Obj.mapFields (·.setIfInBounds 3 Value.none))) D v := ad.keep fun o ho hn => ⟨o.slots, (other D fun q => by rw [q, hT] at ho; cases ho; exact hn ts hdT).trans ho⟩
    have he' := (other e (Ne.symm hTe)).trans he
    refine entry_new hfr (ev'.frames hG) hf he' hd (Array.getElem?_eq_some_iff.mp h1).1 fun h' T' oT' ts' k hT'' hTe' he'' hT' hdT' h3' => h h' ⟨fun b o hb => ?_, g, ad'.keep fun o ho hn => ?_, _, _, T', oT', ts', he'', (Obj.cls_mapFields _ _).trans hc, ?_, Obj.data_mapFields hd _, by simp [(Array.getElem?_eq_some_iff.mp h1).1], hTe', ?_, hT', hdT', h3'⟩
    · have hbe : b ≠ e := fun q => by rw [q, g.1] at hb; cases hb
      obtain ⟨z1, sl, z2⟩ := ev' b o hb
      exact ⟨fun q => (k b o hbe (z1 q)).1 q, let ⟨sl', z⟩ := (k b _ hbe z2).2; ⟨sl', z⟩⟩
    · exact (k D o (fun q => by rw [q, he'] at ho; cases ho; exact hn _ hd) ho).2
    · obtain ⟨oc, od, odt, osl⟩ := oe; cases odt <;> exact hdct
    · cases q : G.get? T' with
      | none => rfl
      | some o => obtain ⟨sl, z⟩ := (ev' T' o q).2; rw [hT''] at z; cases z
  · refine wpAny_bind (wpAny_field he hd h1 ?_)
    rw [if_pos (show (Value.ref T != Value.none) = true from by simp)]
    refine wpAny_bind (wpAny_field hT hdT h3 ?_)
    rw [if_pos (show (rawInt L == rawInt L) = true from by simp [rawInt])]
    exact wpAny_pure (h _ ⟨ev, g, ad, oe, vs, T, oT, ts, he, hc, hdct, hd, h1, hTe, hGT, hT, hdT, h3⟩)
theorem leave_any {F : List Addr} {G base : Heap} {env : Env} {outer : List Env} {L e D : Addr} {v : Value} {Q : Unit → Shared → Prop} (hfr : A.frames = some (env :: outer)) (hf : env.frame = some L) (hG : G.FunFrames base (env :: outer)) (hF : F = fsOf (env :: outer))
    (x : New F G e D v s.heap ∨ Fly F G e D v .none s.heap ∨ Fly F G e D v (rawInt L) s.heap)
    (h : ∀ h', Fly F G e D v .none h' → Q () { s with heap := h' }) : wpAny M A (leaving env (.ref e)) Q E s := by
  unfold leaving
  exact wpAny_bind (note_any hfr hf hG hF x fun h₁ x₁ => set_flight (fr := none) x₁ h)
theorem came_back {F : List Addr} {G : Heap} {env : Env} {L e D : Addr} {v fl : Value} {E' : Value → Shared → Prop} (hf : env.frame = some L) (x : Fly F G e D v fl s.heap)
    (h : ∀ h', Fly F G e D v (rawInt L) h' → E' (.ref e) { s with heap := h' }) : cameBackBy M A env E' (.ref e) s := by
  unfold cameBackBy
  obtain ⟨ev, g, ad, oe, vs, T, oT, ts, he, hc, hdct, hd, h1, r⟩ := id x
  refine wpAny_bind (wpAny_field he hd h1 ?_)
  rw [if_neg (show ¬ (Value.ref T == Value.none) = true from by simp)]
  rw [hf]
  exact set_flight (fr := some L) x h
end
end Mine
end
section
set_option linter.unusedVariables false
namespace Mine
def val (B : Nat) : List Nat → Nat
  | [] => 0
  | x :: xs => x + B * val B xs
def Rng (B : Nat) (xs : List Nat) : Prop := ∀ x ∈ xs, x < B
theorem val_append (B : Nat) : ∀ xs ys : List Nat, val B (xs ++ ys) = val B xs + B ^ xs.length * val B ys
  | [], ys => by simp [val]
  | x :: xs, ys => by
    have e : B * (B ^ xs.length * val B ys) = B ^ xs.length * B * val B ys := by rw [← Nat.mul_assoc, Nat.mul_comm B (B ^ xs.length)]
    rw [List.cons_append, val, val, val_append B xs ys, List.length_cons, Nat.mul_add, Nat.pow_succ, e]
    omega
theorem val_snoc (B : Nat) (xs : List Nat) (y : Nat) : val B (xs ++ [y]) = val B xs + B ^ xs.length * y := by
  rw [val_append]; simp [val]
theorem Rng.append {B : Nat} {xs ys : List Nat} (h : Rng B xs) (k : Rng B ys) : Rng B (xs ++ ys) := fun x hx => (List.mem_append.mp hx).elim (h x) (k x)
theorem Rng.snoc {B : Nat} {xs : List Nat} {y : Nat} (h : Rng B xs) (k : y < B) : Rng B (xs ++ [y]) := h.append fun x hx => by rw [List.mem_singleton.mp hx]; exact k
theorem Rng.nil {B : Nat} : Rng B [] := fun _ h => nomatch h
theorem Rng.take {B : Nat} {xs : List Nat} (h : Rng B xs) (i : Nat) : Rng B (xs.take i) := fun x hx => h x (List.mem_of_mem_take hx)
theorem Rng.drop {B : Nat} {xs : List Nat} (h : Rng B xs) (i : Nat) : Rng B (xs.drop i) := fun x hx => h x (List.mem_of_mem_drop hx)
theorem Rng.get {B : Nat} {xs : List Nat} (h : Rng B xs) {i : Nat} (hi : i < xs.length) : xs[i] < B := h _ (List.getElem_mem hi)
theorem val_lt {B : Nat} : ∀ {xs : List Nat}, Rng B xs → val B xs < B ^ xs.length
  | [], _ => by simp [val]
  | x :: xs, h => by
    have ih := val_lt (xs := xs) fun y hy => h y (.tail _ hy)
    have hx := h x (.head _)
    rw [val, List.length_cons, Nat.pow_succ, Nat.mul_comm (B ^ xs.length)]
    calc x + B * val B xs < B + B * val B xs := by omega
      _ = B * (val B xs + 1) := by rw [Nat.mul_add]; omega
      _ ≤ B * B ^ xs.length := Nat.mul_le_mul_left _ ih
theorem val_take_drop (B : Nat) (xs : List Nat) (i : Nat) : val B xs = val B (xs.take i) + B ^ (xs.take i).length * val B (xs.drop i) := by
  rw [← val_append, List.take_append_drop]
theorem val_take_succ (B : Nat) {xs : List Nat} {i : Nat} (h : i < xs.length) : val B (xs.take (i + 1)) = val B (xs.take i) + B ^ i * xs[i] := by
  rw [List.take_add_one, List.getElem?_eq_getElem h]
  show val B (xs.take i ++ [xs[i]]) = _
  rw [val_snoc, List.length_take, Nat.min_eq_left (Nat.le_of_lt h)]
theorem val_drop_succ (B : Nat) {xs : List Nat} {i : Nat} (h : i < xs.length) : val B (xs.drop i) = xs[i] + B * val B (xs.drop (i + 1)) := by
  rw [List.drop_eq_getElem_cons h, val]
theorem val_replicate (B : Nat) : ∀ n, val B (List.replicate n 0) = 0
  | 0 => rfl
  | n + 1 => by rw [List.replicate_succ, val, val_replicate B n]; simp
theorem Rng.replicate {B : Nat} (h : 0 < B) (n : Nat) : Rng B (List.replicate n 0) := fun x hx => by rw [(List.mem_replicate.mp hx).2]; exact h
theorem val_set (B : Nat) : ∀ {xs : List Nat} {i : Nat} (h : i < xs.length) (y : Nat), val B (xs.set i y) + B ^ i * xs[i] = val B xs + B ^ i * y
  | x :: xs, 0, _, y => by simp [val]; omega
  | x :: xs, i + 1, h, y => by
    have ih := val_set B (xs := xs) (i := i) (by simpa using h) y
    simp only [List.set_cons_succ, val, List.getElem_cons_succ, Nat.pow_succ]
    have e1 : B ^ i * B * xs[i]'(by simpa using h) = B * (B ^ i * xs[i]'(by simpa using h)) := by rw [Nat.mul_comm (B ^ i), Nat.mul_assoc]
    have e2 : B ^ i * B * y = B * (B ^ i * y) := by rw [Nat.mul_comm (B ^ i), Nat.mul_assoc]
    rw [e1, e2, Nat.add_assoc, Nat.add_assoc, ← Nat.mul_add, ← Nat.mul_add, ih]
theorem Rng.set {B : Nat} {xs : List Nat} (h : Rng B xs) (i : Nat) {y : Nat} (hy : y < B) : Rng B (xs.set i y) := fun x hx => (List.mem_or_eq_of_mem_set hx).elim (h x) fun e => e ▸ hy
def limbs (B : Nat) (a : Nat) : List Nat := if h : a = 0 ∨ B < 2 then [] else a % B :: limbs B (a / B)
termination_by a
decreasing_by exact Nat.div_lt_self (by omega) (by omega)
theorem limbs_zero (B : Nat) : limbs B 0 = [] := by rw [limbs]; simp
theorem limbs_pos {B a : Nat} (hB : 2 ≤ B) (ha : 0 < a) : limbs B a = a % B :: limbs B (a / B) := by rw [limbs, dif_neg (by omega)]
theorem val_limbs {B : Nat} (hB : 2 ≤ B) (a : Nat) : val B (limbs B a) = a := by
  induction a using Nat.strongRecOn with
  | ind a ih =>
    rcases Nat.eq_zero_or_pos a with rfl | ha
    · rw [limbs_zero]; rfl
    · rw [limbs_pos hB ha, val, ih _ (Nat.div_lt_self ha (by omega))]
      exact Nat.mod_add_div a B
theorem rng_limbs {B : Nat} (hB : 2 ≤ B) (a : Nat) : Rng B (limbs B a) := by
  induction a using Nat.strongRecOn with
  | ind a ih =>
    rcases Nat.eq_zero_or_pos a with rfl | ha
    · rw [limbs_zero]; exact .nil
    · rw [limbs_pos hB ha]
      intro x hx
      rcases List.mem_cons.mp hx with rfl | hx
      · exact Nat.mod_lt _ (by omega)
      · exact ih _ (Nat.div_lt_self ha (by omega)) x hx
theorem limbs_length_le {B : Nat} (hB : 2 ≤ B) {a k : Nat} (h : a < B ^ k) : (limbs B a).length ≤ k := by
  induction k generalizing a with
  | zero => have : a = 0 := by simpa using h
            subst this; rw [limbs_zero]; simp
  | succ k ih =>
    rcases Nat.eq_zero_or_pos a with rfl | ha
    · rw [limbs_zero]; simp
    · rw [limbs_pos hB ha, List.length_cons]
      have := ih (a := a / B) (by rw [Nat.div_lt_iff_lt_mul (by omega)]; rw [Nat.pow_succ] at h; exact h)
      omega
theorem limbs_lt {B : Nat} (hB : 2 ≤ B) (a : Nat) : a < B ^ (limbs B a).length := by
  have := val_lt (rng_limbs hB a)
  rwa [val_limbs hB] at this
theorem limbs_ge {B : Nat} (hB : 2 ≤ B) {a : Nat} (ha : 0 < a) : B ^ ((limbs B a).length - 1) ≤ a := by
  rcases Nat.lt_or_ge a (B ^ ((limbs B a).length - 1)) with h | h
  · have := limbs_length_le hB h
    have h0 : 0 < (limbs B a).length := by rw [limbs_pos hB ha]; simp
    omega
  · exact h
theorem limbs_eq_nil {B : Nat} (hB : 2 ≤ B) {a : Nat} : limbs B a = [] ↔ a = 0 := ⟨fun h => by have := val_limbs hB a; rw [h] at this; exact this.symm, fun h => by rw [h, limbs_zero]⟩
theorem limbs_length_pos {B : Nat} (hB : 2 ≤ B) {a : Nat} (ha : 0 < a) : 0 < (limbs B a).length := by rw [limbs_pos hB ha]; simp
theorem canon {B : Nat} (hB : 2 ≤ B) : ∀ {xs : List Nat}, Rng B xs → (xs = [] ∨ B ^ (xs.length - 1) ≤ val B xs) → xs = limbs B (val B xs)
  | [], _, _ => by rw [val, limbs_zero]
  | x :: xs, h, hl => by
    have hx := h x (.head _)
    have hr : Rng B xs := fun y hy => h y (.tail _ hy)
    have hl : B ^ xs.length ≤ x + B * val B xs := by rcases hl with e | e; (cases e); simpa [val] using e
    have hp : 0 < x + B * val B xs := Nat.lt_of_lt_of_le (Nat.pow_pos (by omega)) hl
    rw [val, limbs_pos hB hp, Nat.add_mul_mod_self_left, Nat.mod_eq_of_lt hx, Nat.add_mul_div_left _ _ (by omega), Nat.div_eq_of_lt hx, Nat.zero_add]
    congr 1
    refine canon hB hr ?_
    cases xs with
    | nil => exact .inl rfl
    | cons y ys =>
      refine .inr ?_
      simp only [List.length_cons, Nat.add_sub_cancel] at hl ⊢
      rw [Nat.pow_succ] at hl
      rcases Nat.lt_or_ge (val B (y :: ys)) (B ^ ys.length) with hlt | hge
      · have : B * (val B (y :: ys) + 1) ≤ B * B ^ ys.length := Nat.mul_le_mul_left _ hlt
        rw [Nat.mul_add, Nat.mul_comm B (B ^ ys.length)] at this
        omega
      · exact hge
theorem canon' {B : Nat} (hB : 2 ≤ B) {xs : List Nat} {a : Nat} (h : Rng B xs) (hv : val B xs = a) (hl : xs = [] ∨ B ^ (xs.length - 1) ≤ a) : xs = limbs B a := by
  subst hv; exact canon hB h hl
theorem canon_last {B : Nat} (hB : 2 ≤ B) {xs : List Nat} (h : Rng B xs) (hl : ∀ y ∈ xs.getLast?, y ≠ 0) : xs = limbs B (val B xs) := by
  refine canon hB h ?_
  rcases List.eq_nil_or_concat xs with rfl | ⟨ys, y, rfl⟩
  · exact .inl rfl
  · refine .inr ?_
    have hy : y ≠ 0 := hl y (by simp)
    rw [List.concat_eq_append, val_snoc]
    simp only [List.length_append, List.length_cons, List.length_nil, Nat.zero_add, Nat.add_sub_cancel]
    have : B ^ ys.length * 1 ≤ B ^ ys.length * y := Nat.mul_le_mul_left _ (by omega)
    omega
theorem val_take_zero {B : Nat} {xs : List Nat} {e : Nat} (h : ∀ i, e ≤ i → (hi : i < xs.length) → xs[i] = 0) : val B (xs.take e) = val B xs := by
  rw [val_take_drop B xs e]
  have : val B (xs.drop e) = 0 := by
    have hz : ∀ {ys : List Nat}, (∀ y ∈ ys, y = 0) → val B ys = 0 := by
      intro ys
      induction ys with
      | nil => exact fun _ => rfl
      | cons y ys ih => intro h; rw [val, h y (.head _), ih fun z hz => h z (.tail _ hz)]; simp
    refine hz fun y hy => ?_
    obtain ⟨i, hi, rfl⟩ := List.getElem_of_mem hy
    rw [List.getElem_drop]
    exact h _ (by omega) _
  rw [this]; simp
theorem val_take_mod {B : Nat} (hB : 0 < B) {xs : List Nat} (h : Rng B xs) (i : Nat) (hi : i ≤ xs.length) : val B (xs.take i) = val B xs % B ^ i := by
  rw [val_take_drop B xs i, List.length_take, Nat.min_eq_left hi, Nat.add_mul_mod_self_left, Nat.mod_eq_of_lt]
  have := val_lt (h.take i)
  rwa [List.length_take, Nat.min_eq_left hi] at this
theorem val_drop_div {B : Nat} (hB : 0 < B) {xs : List Nat} (h : Rng B xs) (i : Nat) (hi : i ≤ xs.length) : val B (xs.drop i) = val B xs / B ^ i := by
  rw [val_take_drop B xs i, List.length_take, Nat.min_eq_left hi, Nat.add_mul_div_left _ _ (Nat.pow_pos hB), Nat.div_eq_of_lt, Nat.zero_add]
  have := val_lt (h.take i)
  rwa [List.length_take, Nat.min_eq_left hi] at this
end Mine
end
section
open PySem PySem.W PySem.Calls PyProof.Rows
set_option Elab.async false
set_option maxRecDepth 100000
set_option linter.unusedVariables false
namespace Mine
open Builtin
theorem br {p : Prop} [Decidable p] {P R : Prop} (h1 : p → P) (h2 : ¬ p → R) : (decide p = true → P) ∧ (decide p = false → R) := ⟨fun h => h1 (of_decide_eq_true h), fun h => h2 (of_decide_eq_false h)⟩
theorem br' {p : Prop} [Decidable p] {P R : Prop} (h2 : ¬ p → R) (h1 : p → P) : (decide p = false → R) ∧ (decide p = true → P) := ⟨fun h => h2 (of_decide_eq_false h), fun h => h1 (of_decide_eq_true h)⟩
theorem brN {p : Prop} [Decidable p] {P R : Prop} (h1 : ¬ p → P) (h2 : p → R) : ((!decide p) = true → P) ∧ ((!decide p) = false → R) := ⟨fun h => h1 (by simpa using h), fun h => h2 (by simpa using h)⟩
theorem brN' {p : Prop} [Decidable p] {P R : Prop} (h2 : p → R) (h1 : ¬ p → P) : ((!decide p) = false → R) ∧ ((!decide p) = true → P) := ⟨fun h => h2 (by simpa using h), fun h => h1 (by simpa using h)⟩
theorem brT {P R : Prop} (h : P) : (true = true → P) ∧ (true = false → R) := ⟨fun _ => h, fun e => nomatch e⟩
theorem brF {P R : Prop} (h : R) : (false = true → P) ∧ (false = false → R) := ⟨(fun e => nomatch e), fun _ => h⟩
theorem brT' {P R : Prop} (h : P) : (true = false → R) ∧ (true = true → P) := ⟨(fun e => nomatch e), fun _ => h⟩
theorem brF' {P R : Prop} (h : R) : (false = false → R) ∧ (false = true → P) := ⟨fun _ => h, fun e => nomatch e⟩
theorem brB {b : Bool} {P R : Prop} (h1 : b = true → P) (h2 : b = false → R) : (b = true → P) ∧ (b = false → R) := ⟨h1, h2⟩
section
variable {i j : Int} {K : V → Prop} {B : Bool → Prop}
theorem o_add (h : K (.int (i + j))) : binV .Add (.int i) (.int j) K := BinR.add h
theorem o_sub (h : K (.int (i - j))) : binV .Sub (.int i) (.int j) K := BinR.sub h
theorem o_mul (b : i.natAbs < 2 ^ 64) (h : K (.int (i * j))) : binV .Mult (.int i) (.int j) K := BinR.mul b h
theorem o_div (b : 0 < j) (b' : j < 1073741824) (h : K (.int (i / j))) : binV .FloorDiv (.int i) (.int j) K := BinR.div b b' h
theorem o_mod (b : 0 < j) (b' : j < 1073741824) (h : K (.int (i % j))) : binV .Mod (.int i) (.int j) K := BinR.mod b b' h
theorem o_shl (a : 0 ≤ j) (b : j ≤ 1000000) (c : i.natAbs < 2 ^ 64) (h : K (.int (i * 2 ^ j.toNat))) : binV .LShift (.int i) (.int j) K := BinR.shl a b c h
theorem o_shr (a : 0 ≤ j) (h : K (.int (i / 2 ^ j.toNat))) : binV .RShift (.int i) (.int j) K := BinR.shr a h
theorem o_and (h : K (.int (Builtin.bitAnd i j))) : binV .BitAnd (.int i) (.int j) K := BinR.and h
theorem o_or (h : K (.int (Builtin.bitOr i j))) : binV .BitOr (.int i) (.int j) K := BinR.or h
theorem o_pow (a : 0 ≤ j) (b : j ≤ 1000000) (c : i.natAbs < 2 ^ 64) (h : K (.int (i ^ j.toNat))) : binV .Pow (.int i) (.int j) K := BinR.pow a b c h
theorem o_adds {x y : Str} (b : x.length + y.length ≤ 1000000) (h : K (.str (x ++ y))) : binV .Add (.str x) (.str y) K := BinR.adds b h
theorem o_addb {x y : Array UInt8} (b : x.size + y.size ≤ 1000000) (h : K (.bytes (x ++ y))) : binV .Add (.bytes x) (.bytes y) K := BinR.addb b h
theorem c_lt (h : B (decide (i < j))) : cmpV .Lt (.int i) (.int j) B := CmpR.lt h
theorem c_le (h : B (decide (i ≤ j))) : cmpV .LtE (.int i) (.int j) B := CmpR.le h
theorem c_gt (h : B (decide (j < i))) : cmpV .Gt (.int i) (.int j) B := CmpR.gt h
theorem c_ge (h : B (decide (j ≤ i))) : cmpV .GtE (.int i) (.int j) B := CmpR.ge h
theorem c_eq (h : B (decide (i = j))) : cmpV .Eq (.int i) (.int j) B := CmpR.eq h
theorem c_ne (h : B (!decide (i = j))) : cmpV .NotEq (.int i) (.int j) B := CmpR.ne h
theorem c_eqs {x y : Str} (h : B (decide (x = y))) : cmpV .Eq (.str x) (.str y) B := CmpR.eqs h
theorem c_nes {x y : Str} (h : B (!decide (x = y))) : cmpV .NotEq (.str x) (.str y) B := CmpR.nes h
theorem c_isN (h : B true) : cmpV .Is .none .none B := CmpR.isN h
theorem c_isI (h : B false) : cmpV .Is (.int i) .none B := CmpR.isI h
theorem c_notN (h : B false) : cmpV .IsNot .none .none B := CmpR.notN h
theorem c_notI (h : B true) : cmpV .IsNot (.int i) .none B := CmpR.notI h
theorem c_in {b : Array UInt8} (h0 : 0 ≤ i) (h1 : i < 256) (h : B (b.contains i.toNat.toUInt8)) : cmpV .In (.int i) (.bytes b) B := CmpR.isIn h0 h1 h
theorem i_list {xs : List V} {x : V} (h0 : -(xs.length : Int) ≤ i) (hz : xs.length < 2 ^ 62) (hx : xs[placeOf i xs.length]? = some x) (h : K x) : itemV (.list xs) (.int i) K := ItemR.list h0 hz hx h
theorem i_bytes {b : Array UInt8} (h0 : 0 ≤ i) (h1 : i < b.size) (h2 : b.size ≤ 1000000) (h : K (.int (b.toList.getD i.toNat 0).toNat)) : itemV (.bytes b) (.int i) K := ItemR.bytes h0 h1 h2 h
end
end Mine
end
section
open PySem PySem.W PySem.Calls PyProof.Rows
set_option Elab.async false
set_option maxRecDepth 100000
set_option linter.unusedVariables false
namespace Mine
open Builtin
def vN (xs : List Nat) : List V := xs.map fun (x : Nat) => V.int (x : Int)
def L (B a : Nat) : V := .list (vN (limbs B a))
theorem vN_length (xs : List Nat) : (vN xs).length = xs.length := List.length_map ..
theorem vN_append (xs ys : List Nat) : vN (xs ++ ys) = vN xs ++ vN ys := List.map_append ..
theorem vN_snoc (xs : List Nat) (y : Nat) : vN xs ++ [.int (y : Int)] = vN (xs ++ [y]) := by rw [vN_append]; rfl
theorem vN_get (xs : List Nat) (i : Nat) : (vN xs)[i]? = (xs[i]?).map fun (x : Nat) => V.int (x : Int) := List.getElem?_map ..
theorem vN_get_of {xs : List Nat} {i : Nat} (h : i < xs.length) : (vN xs)[i]? = some (.int (xs[i] : Nat)) := by rw [vN_get, List.getElem?_eq_getElem h]; rfl
theorem vN_take (xs : List Nat) (i : Nat) : (vN xs).take i = vN (xs.take i) := by unfold vN; rw [List.map_take]
theorem vN_drop (xs : List Nat) (i : Nat) : (vN xs).drop i = vN (xs.drop i) := by unfold vN; rw [List.map_drop]
theorem vN_reverse (xs : List Nat) : (vN xs).reverse = vN xs.reverse := by unfold vN; rw [List.map_reverse]
theorem vN_set (xs : List Nat) (i y : Nat) : (vN xs).set i (.int (y : Int)) = vN (xs.set i y) := by unfold vN; rw [List.map_set]
theorem vN_replicate (n : Nat) : List.replicate n (V.int 0) = vN (List.replicate n 0) := by unfold vN; rw [List.map_replicate]; rfl
theorem vN_nil : ([] : List V) = vN [] := rfl
theorem place_nat {k : Int} {n j : Nat} (h : k = (j : Int)) : placeOf k n = j := by
  unfold placeOf; rw [h, if_neg (by omega)]; rfl
theorem place_neg {n : Nat} {k : Int} {j : Nat} (hj : 0 < j) (h : k = -(j : Int)) (hn : j ≤ n) : placeOf k n = n - j := by
  unfold placeOf; rw [h, if_pos (by omega)]; omega
theorem i_vN {xs : List Nat} {i : Int} {j : Nat} {K : V → Prop} (hi : i = (j : Int)) (hj : j < xs.length) (hz : xs.length ≤ 1000000) (h : K (.int (xs[j] : Nat))) : itemV (.list (vN xs)) (.int i) K :=
  i_list (by omega) (by rw [vN_length]; omega) (by rw [vN_length, place_nat hi]; exact vN_get_of hj) h
theorem i_vNlast {xs : List Nat} {K : V → Prop} (hj : 0 < xs.length) (hz : xs.length ≤ 1000000) (h : K (.int (xs[xs.length - 1]'(by omega) : Nat))) : itemV (.list (vN xs)) (.int (-1)) K :=
  i_list (by rw [vN_length]; omega) (by rw [vN_length]; omega) (by rw [vN_length, place_neg (k := -1) (j := 1) (by decide) (by rfl) hj]; exact vN_get_of (by omega)) h
theorem pick_upto {xs : List V} {e : Int} {n : Nat} (h : e = (n : Int)) : pick xs none (some e) = xs.take n := by
  unfold pick kms_lo kms_hi
  subst h
  have : ¬ (n : Int) < 0 := by omega
  simp [this, List.take_eq_take_iff]
theorem pick_from {xs : List V} {e : Int} {n : Nat} (h : e = (n : Int)) : pick xs (some e) none = xs.drop n := by
  unfold pick kms_lo kms_hi
  subst h
  have : ¬ (n : Int) < 0 := by omega
  simp only [this, if_false, Int.toNat_natCast]
  rw [List.take_of_length_le (by simp)]
  rcases Nat.le_total n xs.length with h | h
  · rw [Nat.min_eq_left h]
  · rw [Nat.min_eq_right h, List.drop_of_length_le (Nat.le_refl _), List.drop_of_length_le h]
theorem pick_both {xs : List V} {e f : Int} {n m : Nat} (h : e = (n : Int)) (k : f = (m : Int)) (hm : m ≤ xs.length) (hn : n ≤ m) : pick xs (some e) (some f) = (xs.drop n).take (m - n) := by
  unfold pick kms_lo kms_hi
  subst h; subst k
  have h1 : ¬ (n : Int) < 0 := by omega
  have h2 : ¬ (m : Int) < 0 := by omega
  simp only [h1, h2, if_false, Int.toNat_natCast]
  rw [Nat.min_eq_left hm, Nat.min_eq_left (Nat.le_trans hn hm)]
theorem pick_butLast {xs : List V} {e : Int} (h : e = -1) : pick xs none (some e) = xs.take (xs.length - 1) := by
  unfold pick kms_lo kms_hi
  subst h
  simp
theorem pick_all {xs : List V} : pick xs none none = xs := by
  unfold pick kms_lo kms_hi
  simp
theorem shl_nat (x w : Nat) : ((x : Int) * 2 ^ ((w : Int)).toNat) = ((x * 2 ^ w : Nat) : Int) := by
  rw [Int.toNat_natCast]; push_cast; rfl
theorem shl_one (w : Nat) : ((1 : Int) * 2 ^ ((w : Int)).toNat) = ((2 ^ w : Nat) : Int) := by
  rw [Int.toNat_natCast, Int.one_mul]; push_cast; rfl
theorem shr_nat (x w : Nat) : ((x : Int) / 2 ^ ((w : Int)).toNat) = ((x / 2 ^ w : Nat) : Int) := by
  rw [Int.toNat_natCast]; push_cast; rfl
theorem mask_nat (x w : Nat) : Builtin.bitAnd (x : Int) (((2 ^ w : Nat) : Int) - 1) = ((x % 2 ^ w : Nat) : Int) := by
  have h : (((2 ^ w : Nat) : Int) - 1) = ((2 ^ w - 1 : Nat) : Int) := by have := Nat.two_pow_pos w; omega
  rw [h, bitAnd_pp (by omega) (by omega), Int.toNat_natCast, Int.toNat_natCast, Nat.and_two_pow_sub_one_eq_mod]
theorem or_shift (x y w : Nat) (hy : y < 2 ^ w) : Builtin.bitOr ((x * 2 ^ w : Nat) : Int) (y : Int) = ((x * 2 ^ w + y : Nat) : Int) := by
  rw [bitOr_and, bitAnd_pp (by omega) (by omega), Int.toNat_natCast, Int.toNat_natCast]
  have h1 := nat_or_add_and (x * 2 ^ w) y
  have h2 : x * 2 ^ w ||| y = x * 2 ^ w + y := by rw [← Nat.shiftLeft_eq]; exact (Nat.shiftLeft_add_eq_or_of_lt hy x).symm
  have : x * 2 ^ w &&& y = 0 := by omega
  rw [this]; push_cast; omega
theorem or_shift' (x y w : Nat) (hy : y < 2 ^ w) : Builtin.bitOr (y : Int) ((x * 2 ^ w : Nat) : Int) = ((y + x * 2 ^ w : Nat) : Int) := by
  rw [bitOr_comm, or_shift x y w hy]; congr 1; omega
section
variable {G : Gl} {C : Fc} {n : Nat} {σ : List V} {i j : Int} {ys : List V} {Q : V → List V → Prop} {R : Option Int → Option Int → Prop} {R1 : List V → Prop}
theorem wP_none (h : Q .none σ) : wP G C n none Q σ := h
theorem wP_some {e : Expr} (h : wF G C n e Q σ) : wP G C n (some e) Q σ := h
end
structure Wd (w : Nat) : Prop where
  lo : 4 ≤ w
  hi : w ≤ 8
theorem Wd.two {w : Nat} (h : Wd w) : 2 ≤ 2 ^ w := by
  have := Nat.pow_le_pow_right (n := 2) (by decide) h.lo
  omega
theorem Wd.le {w : Nat} (h : Wd w) : 2 ^ w ≤ 256 := Nat.pow_le_pow_right (n := 2) (by decide) h.hi
theorem Wd.ge {w : Nat} (h : Wd w) : 16 ≤ 2 ^ w := Nat.pow_le_pow_right (n := 2) (by decide) h.lo
end Mine
end
section
open PySem PySem.W PySem.Calls PyProof.Rows
set_option Elab.async false
set_option maxRecDepth 100000
set_option linter.unusedVariables false
namespace Mine
open Builtin
theorem upInts_length (lo : Int) (k : Nat) : (upInts lo k).length = k := by unfold upInts; simp
theorem downInts_length (lo : Int) (k : Nat) : (downInts lo k).length = k := by unfold downInts; simp
theorem upInts_get {lo : Int} {k j : Nat} {x : V} (h : (upInts lo k)[j]? = some x) : j < k ∧ x = .int (lo + j) := by
  have hj : j < k := by have := (List.getElem?_eq_some_iff.mp h).1; rwa [upInts_length] at this
  unfold upInts at h
  simp [hj] at h
  exact ⟨hj, h.symm⟩
theorem downInts_get {lo : Int} {k j : Nat} {x : V} (h : (downInts lo k)[j]? = some x) : j < k ∧ x = .int (lo - j) := by
  have hj : j < k := by have := (List.getElem?_eq_some_iff.mp h).1; rwa [downInts_length] at this
  unfold downInts at h
  simp [hj] at h
  exact ⟨hj, h.symm⟩
theorem enumV_length (xs : List V) : (enumV xs).length = xs.length := by unfold enumV; simp
theorem enumV_get {xs : List Nat} {j : Nat} {x : V} (h : (enumV (vN xs))[j]? = some x) : ∃ hj : j < xs.length, x = .tuple [.int j, .int (xs[j] : Nat)] := by
  have hj : j < xs.length := by have := (List.getElem?_eq_some_iff.mp h).1; rwa [enumV_length, vN_length] at this
  unfold enumV at h
  simp only [List.getElem?_map, vN_length, List.getElem?_range hj, Option.map_some, List.getD_eq_getElem?_getD, vN_get_of hj, Option.getD_some] at h
  exact ⟨hj, (Option.some.inj h).symm⟩
section
variable {G : Gl} {C : Fc} {n : Nat} {σ σ2 σ3 σ4 : List V} {x y z : V} {i j l : Nat} {a b c : Str} {Q : Fl → List V → Prop}
inductive kSw2 (C : Fc) (a b : Str) (Q : Fl → List V → Prop) (xs σ1 : List V) : Prop
  | mk (x y : V) (i j : Nat) (σ2 σ3 : List V) (e : xs = [x, y]) (h1 : Put C.names σ1 b j y σ2) (h2 : Put C.names σ2 a i x σ3) (q : Q .next σ3)
inductive kSw3 (C : Fc) (a b c : Str) (Q : Fl → List V → Prop) (xs σ1 : List V) : Prop
  | mk (x y z : V) (i j l : Nat) (σ2 σ3 σ4 : List V) (e : xs = [x, y, z]) (h1 : Put C.names σ1 c l z σ2) (h2 : Put C.names σ2 b j y σ3) (h3 : Put C.names σ3 a i x σ4) (q : Q .next σ4)
theorem kSw2_i (h1 : Put C.names σ b j y σ2) (h2 : Put C.names σ2 a i x σ3) (q : Q .next σ3) : kSw2 C a b Q [x, y] σ := ⟨x, y, i, j, σ2, σ3, rfl, h1, h2, q⟩
theorem kSw3_i (h1 : Put C.names σ c l z σ2) (h2 : Put C.names σ2 b j y σ3) (h3 : Put C.names σ3 a i x σ4) (q : Q .next σ4) : kSw3 C a b c Q [x, y, z] σ := ⟨x, y, z, i, j, l, σ2, σ3, σ4, rfl, h1, h2, h3, q⟩
theorem PI.up {fz keep : Led} {Q Q' : List V → List V → Prop} {vs : List Value} {s : Shared} (h : ∀ xs σ, Q xs σ → Q' xs σ) : PI C fz keep Q vs s → PI C fz keep Q' vs s := fun ⟨xs, σ, f, tl, a, r, i, q⟩ => ⟨xs, σ, f, tl, a, r, i, h xs σ q⟩
theorem wX_swap2 {pa pb p pv pos : Pos} {k kv : Nat} {e1 e2 : Expr}
    (h : wI G C n [e1, e2] (kSw2 C a b Q) σ)
    (hs : Pl (swapsWithSole [.Tuple [.Name a pa, .Name b pb] k p] (.Tuple [e1, e2] kv pv) pos.line C.env = pure false)) (hw : Pl (swappedStores [.Tuple [.Name a pa, .Name b pb] k p] (.Tuple [e1, e2] kv pv) C.env = pure (some [a, b]))) :
    wX G C n (.Assign [.Tuple [.Name a pa, .Name b pb] k p] (.Tuple [e1, e2] kv pv) pos) Q σ :=
  wX_swap (ns := [a, b]) (fun ok fz keep s p i => wpAny_mono (h ok fz keep s p i) (fun _ _ p => p.up fun _ _ ⟨_, _, _, _, _, σ3, e, p1, p2, q⟩ => by subst e; exact ⟨rfl, Nat.le_of_ble_eq_true rfl, σ3, .cons (.cons .nil p1) p2, q⟩) fun _ _ x => x) hs hw
theorem wX_swap3 {pa pb pc p pv pos : Pos} {k kv : Nat} {e1 e2 e3 : Expr}
    (h : wI G C n [e1, e2, e3] (kSw3 C a b c Q) σ)
    (hs : Pl (swapsWithSole [.Tuple [.Name a pa, .Name b pb, .Name c pc] k p] (.Tuple [e1, e2, e3] kv pv) pos.line C.env = pure false)) (hw : Pl (swappedStores [.Tuple [.Name a pa, .Name b pb, .Name c pc] k p] (.Tuple [e1, e2, e3] kv pv) C.env = pure (some [a, b, c]))) :
    wX G C n (.Assign [.Tuple [.Name a pa, .Name b pb, .Name c pc] k p] (.Tuple [e1, e2, e3] kv pv) pos) Q σ :=
  wX_swap (ns := [a, b, c]) (fun ok fz keep s p i => wpAny_mono (h ok fz keep s p i) (fun _ _ p => p.up fun _ _ ⟨_, _, _, _, _, _, _, _, σ4, e, p1, p2, p3, q⟩ => by subst e; exact ⟨rfl, Nat.le_of_ble_eq_true rfl, σ4, .cons (.cons (.cons .nil p1) p2) p3, q⟩) fun _ _ x => x) hs hw
end
end Mine
end
section
open PySem PySem.W PySem.Calls PyProof.Rows
set_option Elab.async false
set_option maxRecDepth 100000
set_option linter.unusedVariables false
namespace Mine
open Builtin
theorem getD_eq {xs : List Nat} {i : Nat} (h : i < xs.length) : xs.getD i 0 = xs[i] := by simp [List.getD, h]
theorem i_at {xs : List Nat} {i : Int} {K : V → Prop} (h0 : 0 ≤ i ∧ i < xs.length ∧ xs.length ≤ 1000000) (h : K (.int ((xs.getD i.toNat 0 : Nat) : Int))) : itemV (.list (vN xs)) (.int i) K := by
  have hj : i.toNat < xs.length := by omega
  refine i_vN (j := i.toNat) (by omega) hj h0.2.2 ?_
  rw [← getD_eq hj]; exact h
theorem i_last {xs : List Nat} {K : V → Prop} (h0 : 0 < xs.length ∧ xs.length ≤ 1000000) (h : K (.int ((xs.getD (xs.length - 1) 0 : Nat) : Int))) : itemV (.list (vN xs)) (.int (-1)) K := by
  refine i_vNlast h0.1 h0.2 ?_
  rw [← getD_eq (by omega)]; exact h
theorem val_take_succ' (B : Nat) {xs : List Nat} {i : Nat} (h : i < xs.length) : val B (xs.take (i + 1)) = val B (xs.take i) + B ^ i * xs.getD i 0 := by rw [getD_eq h, val_take_succ B h]
theorem val_drop_succ' (B : Nat) {xs : List Nat} {i : Nat} (h : i < xs.length) : val B (xs.drop i) = xs.getD i 0 + B * val B (xs.drop (i + 1)) := by rw [getD_eq h, val_drop_succ B h]
theorem Rng.getD {B : Nat} (hB : 0 < B) {xs : List Nat} (h : Rng B xs) (i : Nat) : xs.getD i 0 < B := by
  by_cases hi : i < xs.length
  · rw [getD_eq hi]; exact h.get hi
  · rw [List.getD_eq_getElem?_getD, List.getElem?_eq_none (by omega)]; exact hB
theorem val_set' (B : Nat) {xs : List Nat} {i : Nat} (h : i < xs.length) (y : Nat) : val B (xs.set i y) + B ^ i * xs.getD i 0 = val B xs + B ^ i * y := by rw [getD_eq h]; exact val_set B h y
section
variable {x y w : Nat} {K : V → Prop}
theorem o_addN (h : K (.int ((x + y : Nat) : Int))) : binV .Add (.int (x : Int)) (.int (y : Int)) K := by rw [Int.natCast_add] at h; exact o_add h
theorem o_mulN (b : x < 2 ^ 64) (h : K (.int ((x * y : Nat) : Int))) : binV .Mult (.int (x : Int)) (.int (y : Int)) K := by rw [Int.natCast_mul] at h; exact o_mul (by omega) h
theorem o_shlN (c : w ≤ 1000000 ∧ x < 2 ^ 64) (h : K (.int ((x * 2 ^ w : Nat) : Int))) : binV .LShift (.int (x : Int)) (.int (w : Int)) K := by rw [← shl_nat] at h; exact o_shl (by omega) (by omega) (by omega) h
theorem o_shl1 (c : w ≤ 1000000) (h : K (.int ((2 ^ w : Nat) : Int))) : binV .LShift (.int 1) (.int (w : Int)) K := by rw [← shl_one] at h; exact o_shl (by omega) (by omega) (by omega) h
theorem o_shrN (h : K (.int ((x / 2 ^ w : Nat) : Int))) : binV .RShift (.int (x : Int)) (.int (w : Int)) K := by rw [← shr_nat] at h; exact o_shr (by omega) h
theorem o_andN (h : K (.int ((x % 2 ^ w : Nat) : Int))) : binV .BitAnd (.int (x : Int)) (.int (((2 ^ w : Nat) : Int) - 1)) K := by rw [← mask_nat] at h; exact o_and h
theorem o_orN (c : y < 2 ^ w) (h : K (.int ((x * 2 ^ w + y : Nat) : Int))) : binV .BitOr (.int ((x * 2 ^ w : Nat) : Int)) (.int (y : Int)) K := by rw [← or_shift _ _ _ c] at h; exact o_or h
theorem o_orN' (c : y < 2 ^ w) (h : K (.int ((y + x * 2 ^ w : Nat) : Int))) : binV .BitOr (.int (y : Int)) (.int ((x * 2 ^ w : Nat) : Int)) K := by rw [← or_shift' _ _ _ c] at h; exact o_or h
theorem o_divN (c : 0 < y ∧ y < 1073741824) (h : K (.int ((x / y : Nat) : Int))) : binV .FloorDiv (.int (x : Int)) (.int (y : Int)) K := by rw [Int.natCast_ediv] at h; exact o_div (by omega) (by omega) h
theorem o_modN (c : 0 < y ∧ y < 1073741824) (h : K (.int ((x % y : Nat) : Int))) : binV .Mod (.int (x : Int)) (.int (y : Int)) K := by rw [Int.natCast_emod] at h; exact o_mod (by omega) (by omega) h
end
end Mine
end
section
open PySem PySem.W PySem.Calls PyProof.Rows
set_option Elab.async false
set_option maxRecDepth 100000
set_option linter.unusedVariables false
namespace Mine
open Builtin
theorem vN_get' {xs : List Nat} {i : Nat} {x : V} (h : (vN xs)[i]? = some x) : i < xs.length ∧ x = .int ((xs.getD i 0 : Nat) : Int) := by
  rw [vN_get] at h
  by_cases hi : i < xs.length
  · rw [List.getElem?_eq_getElem hi] at h
    rw [getD_eq hi]
    exact ⟨hi, (Option.some.inj h).symm⟩
  · rw [List.getElem?_eq_none (by omega)] at h; nomatch h
theorem wP2 {P Q : Prop} (h : P ∧ Q) : Q ∧ P := ⟨h.2, h.1⟩
section
variable {G : Gl} {C : Fc} {n : Nat} {σ : List V} {Q : V → List V → Prop}
@[reducible] def kBit (Q : V → List V → Prop) (v : V) (σ1 : List V) : Prop := ∃ i, v = .int i ∧ Q (.int ((Builtin.Int.intBits i : Nat) : Int)) σ1
theorem kBit_i {i : Int} (q : Q (.int ((Builtin.Int.intBits i : Nat) : Int)) σ) : kBit Q (.int i) σ := ⟨i, rfl, q⟩
theorem wF_bitlen (pl : Sem Bool) {e : Expr} {apos pos : Pos} (h : wF G C n e (kBit Q) σ) (hm : Pl (eval (.Call (.Attribute e "bit_length" apos) [] [] pos) C.env = (do
      let ov ← eval e C.env
      standAt apos.atName
      let (f, first) ← holding [ov] (getMethod ov "bit_length" pl)
      callWith pos f first (backTo pos (starEach [] C.env)) []))) : wF G C n (.Call (.Attribute e "bit_length" apos) [] [] pos) Q σ := fun ok fz keep s i => by
  refine MethodCall_ (pl := pl) (wpAny_mono (h ok fz keep s i) (fun v s1 ⟨y, σ1, f1, s1', r, i1, k, e, q⟩ => ?_) fun _ _ x => x) hm
  subst e
  refine r.int_c fun _ => ?_
  refine getMethod_int_bit_length ?_
  refine callWith_method0 (call_int_bit_length ?_)
  exact ⟨_, σ1, f1, s1', .int _ _, i1.tok _, q⟩
end
end Mine
end
section
open PySem PySem.W PySem.Calls PyProof.Rows
set_option Elab.async false
set_option maxRecDepth 100000
set_option linter.unusedVariables false
namespace Mine
open Builtin
section
variable {G : Gl} {n : Nat}
theorem b_min {i j : Int} {K : V → Prop} (h : K (.int (if j < i then j else i))) : Calls G n (.builtin "min") [.int i, .int j] K := fun C fz keep σ s vs ok I r => by
  refine r.cons_c fun _ _ r1 r2 => r2.cons_c fun _ _ r2 r3 => r3.nil_c (r1.int_c fun _ => r2.int_c fun _ => ?_)
  · · refine min_two_ints ok.hh fun h' tk kk => ?_
      have I2 := I.keeps (t := tk) kk
      by_cases hc : j < i
      · rw [if_pos hc] at h ⊢; exact ⟨_, fz, Sub.rfl, .int _ _, I2, h⟩
      · rw [if_neg hc] at h ⊢; exact ⟨_, fz, Sub.rfl, .int _ _, I2, h⟩
theorem b_max {i j : Int} {K : V → Prop} (h : K (.int (if j > i then j else i))) : Calls G n (.builtin "max") [.int i, .int j] K := fun C fz keep σ s vs ok I r => by
  refine r.cons_c fun _ _ r1 r2 => r2.cons_c fun _ _ r2 r3 => r3.nil_c (r1.int_c fun _ => r2.int_c fun _ => ?_)
  · · refine max_two_ints ok.hh fun h' tk kk => ?_
      have I2 := I.keeps (t := tk) kk
      by_cases hc : j > i
      · rw [if_pos hc] at h ⊢; exact ⟨_, fz, Sub.rfl, .int _ _, I2, h⟩
      · rw [if_neg hc] at h ⊢; exact ⟨_, fz, Sub.rfl, .int _ _, I2, h⟩
theorem b_abs {i : Int} {K : V → Prop} (h : K (.int (i.natAbs : Int))) : Calls G n (.builtin "abs") [.int i] K := fun C fz keep σ s vs ok I r => by
  refine r.cons_c fun _ _ r1 r2 => r2.nil_c (r1.int_c fun _ => ?_)
  · refine call_abs_int fun u tk => ?_
    have e : (if i < 0 then -i else i) = (i.natAbs : Int) := by split <;> omega
    rw [e]
    exact ⟨_, fz, Sub.rfl, .int _ _, I.tok _, h⟩
theorem b_int {i : Int} {K : V → Prop} (h : K (.int i)) : Calls G n (.type "int") [.int i] K := fun C fz keep σ s vs ok I r => by
  refine r.cons_c fun _ _ r1 r2 => r2.nil_c (r1.int_c fun _ => ?_)
  · exact call_int_int ⟨_, fz, Sub.rfl, .int _ _, I, h⟩
end
end Mine
end
section
open PySem PySem.W PySem.Calls PyProof.Rows
set_option Elab.async false
set_option maxRecDepth 100000
set_option linter.unusedVariables false
namespace Mine
open Builtin
section
variable {G : Gl} {C : Fc} {n : Nat} {σ : List V} {Q : V → List V → Prop}
inductive OwnFn : Str → Prop
  | a : OwnFn (Str.ofString "take_away")
  | b : OwnFn (Str.ofString "put_back")
  | c : OwnFn (Str.ofString "divide_rows")
  | d : OwnFn (Str.ofString "_law_typed")
theorem wF_callO' {x y : Str} {p py pos : Pos} {es : List Expr} {k : Nat} {a : Addr} {xs : List V} (hx : OwnFn x) (ha0 : At C.names σ y k (.own a xs))
    (h : wF G C n (.Name x p) (kClO G C n y a es Q) σ)
    (he : Pl (starEach (.Name y py :: es) C.env = (false, eval (.Name y py) C.env) :: starEach es C.env)) (hp : Pl ((backTo pos (starEach es C.env)).any (·.1) = false)) : wF G C n (.Call (.Name x p) (.Name y py :: es) [] pos) Q σ := wF_callO (k := k) (a := a) (xs := xs) h he hp
end
end Mine
end
section
open PySem PySem.W PySem.Calls PyProof.Rows
set_option Elab.async false
set_option maxRecDepth 100000
set_option linter.unusedVariables false
namespace Mine
open Builtin
theorem i_fst {a b : V} {K : V → Prop} (h : K a) : itemV (.list [a, b]) (.int 0) K := i_list (x := a) (by simp) (by simp) (by rfl) h
theorem i_snd {a b : V} {K : V → Prop} (h : K b) : itemV (.list [a, b]) (.int 1) K := i_list (x := b) (by simp) (by simp) (by rfl) h
theorem o_pow2 {w : Nat} {K : V → Prop} (c : w ≤ 1000000) (h : K (.int ((2 ^ w : Nat) : Int))) : binV .Pow (.int 2) (.int (w : Int)) K := by
  refine o_pow (by omega) (by omega) (by decide) ?_
  rw [Int.toNat_natCast, show (2 : Int) ^ w = ((2 ^ w : Nat) : Int) by rw [Int.natCast_pow]; rfl]; exact h
end Mine
end
section
open PySem PySem.W PySem.Calls PyProof.Rows
set_option Elab.async false
set_option maxRecDepth 100000
set_option linter.unusedVariables false
namespace Mine
open Builtin
section
variable {x y : Str} {B : Bool → Prop}
theorem c_eqsT (h : B true) : cmpV .Eq (.str x) (.str x) B := c_eqs (by rw [decide_eq_true rfl]; exact h)
theorem c_eqsF (e : x ≠ y) (h : B false) : cmpV .Eq (.str x) (.str y) B := c_eqs (by rw [decide_eq_false e]; exact h)
theorem c_nesT (h : B false) : cmpV .NotEq (.str x) (.str x) B := c_nes (by rw [decide_eq_true rfl]; exact h)
theorem c_nesF (e : x ≠ y) (h : B true) : cmpV .NotEq (.str x) (.str y) B := c_nes (by rw [decide_eq_false e]; exact h)
end
end Mine
end
section
open PySem PySem.W PySem.Calls PyProof.Rows
set_option Elab.async false
set_option maxRecDepth 100000
set_option linter.unusedVariables false
namespace Mine
open Builtin
section
variable {G : Gl} {C : Fc} {n : Nat} {σ : List V} {Q : V → List V → Prop}
inductive MV : Made → V → Prop
  | bool (b) : MV (.val (.bool b)) (.bool b)
  | str (x) : MV (.str x) (.str x)
  | int (i) : MV (.int i) (.int i)
  | bytes (b) : MV (.bytes b) (.bytes b)
theorem MV.post {C : Fc} {fz f1 keep : Led} {σ1 : List V} {s : Shared} {m : Made} {v : V} {Q : V → List V → Prop} (mv : MV m v) (hs : Sub fz f1) (I : In C f1 keep σ1 s) (hz : ∀ b, m = .bytes b → b.size ≤ 1000000) (hx : ∀ x, m = .str x → x.length ≤ 1000000) (h : Q v σ1) : m.post (PF C fz keep Q) s := by
  cases mv with
  | bool b => exact ⟨_, σ1, f1, hs, .bool _, I, h⟩
  | str x => exact ⟨by rw [sizeLine_eq]; have := hx x rfl; omega, _, σ1, f1, hs, .str _ _, I.tok _, h⟩
  | int i => exact ⟨_, σ1, f1, hs, .int _ _, I.tok _, h⟩
  | bytes b => exact ⟨by rw [sizeLine_eq]; have := hz b rfl; omega, _, σ1, f1, hs, .bytes _ _, I.tok _, h⟩
theorem b_chr {i : Int} {K : V → Prop} (h0 : 0 ≤ i ∧ i ≤ 1114111) (h : K (.str ⟨#[i.toNat]⟩)) : Calls G n (.builtin "chr") [.int i] K := fun C fz keep σ s vs ok I r => by
  refine r.cons_c fun _ _ r1 r2 => r2.nil_c (r1.int_c fun _ => ?_)
  · exact chr_of_range h0.1 h0.2 ⟨_, fz, Sub.rfl, .str _ _, I.tok _, h⟩
theorem b_intS {x : Str} {i : Int} {K : V → Prop} (hl : x.length ≤ 640) (hn : PySem.intText? x = some i) (h : K (.int i)) : Calls G n (.type "int") [.str x] K := fun C fz keep σ s vs ok I r => by
  refine r.cons_c fun _ _ r1 r2 => r2.nil_c (r1.str_c fun _ => ?_)
  · refine call_int_1 (KIN.gives_text hl hn).meets ?_
    exact ⟨rfl, ⟨_, fz, Sub.rfl, .int _ _, I.tok _, h⟩⟩
theorem wF_str0 {e : Expr} {nm : Str} {id : String} {Bi : Builtin} {apos pos : Pos} (slot : Slot "str" nm id) (ty : typeOf (.builtin id) = pure (.type "method_descriptor")) (entry : entryFor table id = some Bi) (args : ∀ a, argsOk id ⟨[a], []⟩)
    (h : wF G C n e (fun v σ1 => ∃ x, v = .str x ∧ ∃ m y, (∀ t, Gives (Bi ⟨[.str x t], []⟩) m) ∧ MV m y ∧ (∀ b, m = .bytes b → b.size ≤ 1000000) ∧ (∀ x, m = .str x → x.length ≤ 1000000) ∧ Q y σ1) σ) (pl : Sem Bool) (hm : eval (.Call (.Attribute e nm apos) [] [] pos) C.env = (do
      let ov ← eval e C.env
      standAt apos.atName
      let (f, first) ← holding [ov] (getMethod ov nm pl)
      callWith pos f first (backTo pos (starEach [] C.env)) [])) : wF G C n (.Call (.Attribute e nm apos) [] [] pos) Q σ := fun ok fz keep s i => by
  refine MethodCall_ (pl := pl) (wpAny_mono (h ok fz keep s i) (fun v s1 ⟨y, σ1, f1, s1', r, i1, x, e, m, y', g, mv, hb, hx, q⟩ => ?_) fun _ _ x => x) hm
  subst e
  refine r.str_c fun t => ?_
  · refine getMethod_builtin (typeIs_str _ _ _) PySem.F.plainAttrs_str slot ty (fun _ e => nomatch e) ?_
    exact callWith_method0 (call_gives (rest := []) slot (typeIs_str _ _ _) entry (args _) (g t) (mv.post s1' i1 hb hx q))
theorem wF_isdigit {e : Expr} {apos pos : Pos} (h : wF G C n e (fun v σ1 => ∃ x, v = .str x ∧ Q (.bool (x.length > 0 && x.cps.all Unicode.isDigit)) σ1) σ) (pl : Sem Bool) (hm : eval (.Call (.Attribute e "isdigit" apos) [] [] pos) C.env = (do
      let ov ← eval e C.env
      standAt apos.atName
      let (f, first) ← holding [ov] (getMethod ov "isdigit" pl)
      callWith pos f first (backTo pos (starEach [] C.env)) [])) : wF G C n (.Call (.Attribute e "isdigit" apos) [] [] pos) Q σ :=
  wF_str0 PySem.F.slot_str_isdigit PySem.F.type_str_isdigit PySem.F.entry_str_isdigit PySem.F.args_str_isdigit_1 (fun ok fz keep s i => wpAny_mono (h ok fz keep s i) (fun v s1 ⟨y, σ1, f1, s1', r, i1, x, e, q⟩ => ⟨y, σ1, f1, s1', r, i1, x, e, _, _, fun t => gives_str_isdigit x t, .bool _, (fun _ e => nomatch e), (fun _ e => nomatch e), q⟩) fun _ _ x => x) pl hm
theorem wF_isalpha {e : Expr} {apos pos : Pos} (h : wF G C n e (fun v σ1 => ∃ x, v = .str x ∧ Q (.bool (x.length > 0 && x.cps.all Unicode.isAlpha)) σ1) σ) (pl : Sem Bool) (hm : eval (.Call (.Attribute e "isalpha" apos) [] [] pos) C.env = (do
      let ov ← eval e C.env
      standAt apos.atName
      let (f, first) ← holding [ov] (getMethod ov "isalpha" pl)
      callWith pos f first (backTo pos (starEach [] C.env)) [])) : wF G C n (.Call (.Attribute e "isalpha" apos) [] [] pos) Q σ :=
  wF_str0 PySem.F.slot_str_isalpha PySem.F.type_str_isalpha PySem.F.entry_str_isalpha PySem.F.args_str_isalpha_1 (fun ok fz keep s i => wpAny_mono (h ok fz keep s i) (fun v s1 ⟨y, σ1, f1, s1', r, i1, x, e, q⟩ => ⟨y, σ1, f1, s1', r, i1, x, e, _, _, fun t => gives_str_isalpha x t, .bool _, (fun _ e => nomatch e), (fun _ e => nomatch e), q⟩) fun _ _ x => x) pl hm
end
end Mine
end
section
open PySem PySem.W PySem.Calls PyProof.Rows
set_option Elab.async false
set_option maxRecDepth 100000
set_option linter.unusedVariables false
namespace Mine
open Builtin
section
variable {G : Gl} {C : Fc} {n : Nat} {σ : List V} {Q : V → List V → Prop}
theorem notLong {n : Nat} (h : n ≤ 1000000) : Builtin.Str.tooLong n = false := by
  unfold Builtin.Str.tooLong; rw [sizeLine_eq]; simp; omega
theorem wF_upper {e : Expr} {apos pos : Pos} (h : wF G C n e (fun v σ1 => ∃ x y, v = .str x ∧ y = ⟨placed x fun _ c => Unicode.upperOf c⟩ ∧ Str.length y ≤ 1000000  ∧ Q (.str y) σ1) σ) (pl : Sem Bool) (hm : eval (.Call (.Attribute e "upper" apos) [] [] pos) C.env = (do
      let ov ← eval e C.env
      standAt apos.atName
      let (f, first) ← holding [ov] (getMethod ov "upper" pl)
      callWith pos f first (backTo pos (starEach [] C.env)) [])) : wF G C n (.Call (.Attribute e "upper" apos) [] [] pos) Q σ :=
  wF_str0 PySem.F.slot_str_upper PySem.F.type_str_upper PySem.F.entry_str_upper PySem.F.args_str_upper_1 (fun ok fz keep s i => wpAny_mono (h ok fz keep s i) (fun v s1 ⟨y, σ1, f1, s1', r, i1, x, z, e, ez, hz, q⟩ => ⟨y, σ1, f1, s1', r, i1, x, e, _, _, fun t => gives_str_upper x t (notLong (by rw [ez] at hz; exact hz)), .str _, (fun _ e => nomatch e), (fun _ e => by cases e; rw [← ez]; exact hz), by rw [← ez]; exact q⟩) fun _ _ x => x) pl hm
theorem wF_lower (pl : Sem Bool) {e : Expr} {apos pos : Pos} (h : wF G C n e (fun v σ1 => ∃ x y, v = .str x ∧ y = ⟨placed x fun i _ => Unicode.lowerAt x.cps i⟩ ∧ Str.length y ≤ 1000000  ∧ Q (.str y) σ1) σ) (hm : Pl (eval (.Call (.Attribute e "lower" apos) [] [] pos) C.env = (do
      let ov ← eval e C.env
      standAt apos.atName
      let (f, first) ← holding [ov] (getMethod ov "lower" pl)
      callWith pos f first (backTo pos (starEach [] C.env)) []))) : wF G C n (.Call (.Attribute e "lower" apos) [] [] pos) Q σ :=
  wF_str0 PySem.F.slot_str_lower PySem.F.type_str_lower PySem.F.entry_str_lower PySem.F.args_str_lower_1 (fun ok fz keep s i => wpAny_mono (h ok fz keep s i) (fun v s1 ⟨y, σ1, f1, s1', r, i1, x, z, e, ez, hz, q⟩ => ⟨y, σ1, f1, s1', r, i1, x, e, _, _, fun t => gives_str_lower x t (notLong (by rw [ez] at hz; exact hz)), .str _, (fun _ e => nomatch e), (fun _ e => by cases e; rw [← ez]; exact hz), by rw [← ez]; exact q⟩) fun _ _ x => x) pl hm
theorem wF_index {o e : Expr} {apos pos : Pos} (h : wF G C n o (fun v σ1 => ∃ x, v = .str x ∧ wF G C n e (fun u σ2 => ∃ y i rest, u = .str y ∧ Builtin.Str.occurrences x y 0 x.length 1 = i :: rest ∧ Q (.int (i : Int)) σ2) σ1) σ) (he : starEach [e] C.env = [(false, eval e C.env)]) (pl : Sem Bool) (hm : eval (.Call (.Attribute o "index" apos) [e] [] pos) C.env = (do
      let ov ← eval o C.env
      standAt apos.atName
      let (f, first) ← holding [ov] (getMethod ov "index" pl)
      callWith pos f first (backTo pos (starEach [e] C.env)) [])) : wF G C n (.Call (.Attribute o "index" apos) [e] [] pos) Q σ := fun ok fz keep s i => by
  refine MethodCall_ (pl := pl) (wpAny_mono (h ok fz keep s i) (fun v s1 ⟨y, σ1, f1, s1', r, i1, x, ex, q⟩ => ?_) fun _ _ x => x) hm
  subst ex
  refine r.str_c fun t => ?_
  · refine getMethod_builtin (typeIs_str _ _ _) PySem.F.plainAttrs_str PySem.F.slot_str_index PySem.F.type_str_index (fun _ e => nomatch e) ?_
    refine callWith_method1 (wpAny_items_cons (wpAny_mono (q ok f1 keep s1 i1) (fun v s2 ⟨y, σ2, f2, s2', r, i2, z, k, rest, ez, ho, q⟩ => wpAny_items_nil ?_) fun _ _ x => x) he) he rfl
    subst ez
    refine r.str_c fun u => ?_
    · exact call_gives (rest := [.str z u]) PySem.F.slot_str_index (typeIs_str _ _ _) PySem.F.entry_str_index (PySem.F.args_str_index_2 _ _) (gives_str_index x z t u k rest ho) ⟨_, σ2, f2, s1'.trans s2', .int _ _, i2.tok _, q⟩
end
end Mine
end
section
open PySem PySem.W PySem.Calls PyProof.Rows
set_option Elab.async false
set_option maxRecDepth 100000
set_option linter.unusedVariables false
namespace Mine
open Builtin
def asc (o : Nat) : Str := ⟨#[o]⟩
def upo (o : Nat) : Nat := if 97 ≤ o ∧ o ≤ 122 then o - 32 else o
theorem asc_digit {o : Nat} (h : o < 128) : (decide ((asc o).length > 0) && (asc o).cps.all Unicode.isDigit) = decide (48 ≤ o ∧ o ≤ 57) := by
  have : ∀ o : Fin 128, (decide ((asc o.val).length > 0) && (asc o.val).cps.all Unicode.isDigit) = decide (48 ≤ o.val ∧ o.val ≤ 57) := by decide +kernel
  exact this ⟨o, h⟩
theorem asc_alpha {o : Nat} (h : o < 128) : (decide ((asc o).length > 0) && (asc o).cps.all Unicode.isAlpha) = decide ((65 ≤ o ∧ o ≤ 90) ∨ (97 ≤ o ∧ o ≤ 122)) := by
  have : ∀ o : Fin 128, (decide ((asc o.val).length > 0) && (asc o.val).cps.all Unicode.isAlpha) = decide ((65 ≤ o.val ∧ o.val ≤ 90) ∨ (97 ≤ o.val ∧ o.val ≤ 122)) := by decide +kernel
  exact this ⟨o, h⟩
theorem asc_upper {o : Nat} (h : o < 128) : (⟨placed (asc o) fun _ c => Unicode.upperOf c⟩ : Str) = asc (upo o) := by
  have : ∀ o : Fin 128, (⟨placed (asc o.val) fun _ c => Unicode.upperOf c⟩ : Str) = asc (upo o.val) := by decide +kernel
  exact this ⟨o, h⟩
theorem asc_int {o : Nat} (h : 48 ≤ o ∧ o ≤ 57) : PySem.intText? (asc o) = some ((o - 48 : Nat) : Int) := by
  have : ∀ o : Fin 10, PySem.intText? (asc (o.val + 48)) = some ((o.val : Nat) : Int) := by decide +kernel
  have := this ⟨o - 48, by omega⟩
  simpa [Nat.sub_add_cancel h.1] using this
def abcS : Str := Str.ofString "ABCDEFGHIJKLMNOPQRSTUVWXYZ"
theorem asc_index {o : Nat} (h : 65 ≤ o ∧ o ≤ 90) : ∃ rest, Builtin.Str.occurrences abcS (asc o) 0 abcS.length 1 = (o - 65) :: rest := by
  have : ∀ o : Fin 26, (Builtin.Str.occurrences abcS (asc (o.val + 65)) 0 abcS.length 1).head? = some o.val := by decide +kernel
  have := this ⟨o - 65, by omega⟩
  simp only [Nat.sub_add_cancel h.1] at this
  cases hc : Builtin.Str.occurrences abcS (asc o) 0 abcS.length 1 with
  | nil => rw [hc] at this; nomatch this
  | cons x xs => rw [hc] at this; cases this; exact ⟨xs, rfl⟩
theorem asc_inj {a b : Nat} : (asc a = asc b) ↔ a = b := by simp [asc]
end Mine
end
section
open PySem PySem.W PySem.Calls PyProof.Rows
set_option Elab.async false
set_option maxRecDepth 100000
set_option linter.unusedVariables false
namespace Mine
open Builtin
section
variable {G : Gl} {C : Fc} {n : Nat} {σ : List V} {Q : V → List V → Prop}
theorem b_chrA {o : Nat} {K : V → Prop} (h0 : o ≤ 1114111) (h : K (.str (asc o))) : Calls G n (.builtin "chr") [.int (o : Int)] K := b_chr (by omega) (by rw [Int.toNat_natCast]; exact h)
theorem b_intA {o : Nat} {K : V → Prop} (h0 : 48 ≤ o ∧ o ≤ 57) (h : K (.int ((o - 48 : Nat) : Int))) : Calls G n (.type "int") [.str (asc o)] K := b_intS (show 1 ≤ 640 by decide) (asc_int h0) h
theorem wF_mono {e : Expr} {Q' : V → List V → Prop} (h : wF G C n e Q σ) (hq : ∀ v σ, Q v σ → Q' v σ) : wF G C n e Q' σ := fun ok fz keep s i => wpAny_mono (h ok fz keep s i) (fun v s1 ⟨y, σ1, f1, s1', r, i1, q⟩ => ⟨y, σ1, f1, s1', r, i1, hq _ _ q⟩) fun _ _ x => x
@[reducible] def kChr (f : Nat → V) (Q : V → List V → Prop) (v : V) (σ1 : List V) : Prop := ∃ o, v = .str (asc o) ∧ o < 128 ∧ Q (f o) σ1
theorem kChr_i {f : Nat → V} {o : Nat} (h : o < 128) (q : Q (f o) σ) : kChr f Q (.str (asc o)) σ := ⟨o, rfl, h, q⟩
@[reducible] def kUp (Q : V → List V → Prop) (u : V) (σ2 : List V) : Prop := ∃ k, u = .str (asc k) ∧ (65 ≤ k ∧ k ≤ 90) ∧ Q (.int ((k - 65 : Nat) : Int)) σ2
@[reducible] def kAbc (G : Gl) (C : Fc) (n : Nat) (e : Expr) (Q : V → List V → Prop) (v : V) (σ1 : List V) : Prop := v = .str abcS ∧ wF G C n e (kUp Q) σ1
theorem kUp_i {k : Nat} (h : 65 ≤ k ∧ k ≤ 90) (q : Q (.int ((k - 65 : Nat) : Int)) σ) : kUp Q (.str (asc k)) σ := ⟨k, rfl, h, q⟩
theorem kAbc_i {e : Expr} {x : Str} (h : Pl (x = abcS)) (q : wF G C n e (kUp Q) σ) : kAbc G C n e Q (.str x) σ := ⟨congrArg V.str h, q⟩
theorem wF_isdigitA (pl : Sem Bool) {e : Expr} {apos pos : Pos} (h : wF G C n e (kChr (fun o => .bool (decide (48 ≤ o ∧ o ≤ 57))) Q) σ) (hm : Pl (eval (.Call (.Attribute e "isdigit" apos) [] [] pos) C.env = (do
      let ov ← eval e C.env
      standAt apos.atName
      let (f, first) ← holding [ov] (getMethod ov "isdigit" pl)
      callWith pos f first (backTo pos (starEach [] C.env)) []))) : wF G C n (.Call (.Attribute e "isdigit" apos) [] [] pos) Q σ :=
  wF_isdigit (wF_mono h fun v σ ⟨o, e, ho, q⟩ => ⟨_, e, by rw [asc_digit ho]; exact q⟩) pl hm
theorem wF_isalphaA (pl : Sem Bool) {e : Expr} {apos pos : Pos} (h : wF G C n e (kChr (fun o => .bool (decide ((65 ≤ o ∧ o ≤ 90) ∨ (97 ≤ o ∧ o ≤ 122)))) Q) σ) (hm : Pl (eval (.Call (.Attribute e "isalpha" apos) [] [] pos) C.env = (do
      let ov ← eval e C.env
      standAt apos.atName
      let (f, first) ← holding [ov] (getMethod ov "isalpha" pl)
      callWith pos f first (backTo pos (starEach [] C.env)) []))) : wF G C n (.Call (.Attribute e "isalpha" apos) [] [] pos) Q σ :=
  wF_isalpha (wF_mono h fun v σ ⟨o, e, ho, q⟩ => ⟨_, e, by rw [asc_alpha ho]; exact q⟩) pl hm
theorem wF_upperA (pl : Sem Bool) {e : Expr} {apos pos : Pos} (h : wF G C n e (kChr (fun o => .str (asc (upo o))) Q) σ) (hm : Pl (eval (.Call (.Attribute e "upper" apos) [] [] pos) C.env = (do
      let ov ← eval e C.env
      standAt apos.atName
      let (f, first) ← holding [ov] (getMethod ov "upper" pl)
      callWith pos f first (backTo pos (starEach [] C.env)) []))) : wF G C n (.Call (.Attribute e "upper" apos) [] [] pos) Q σ :=
  wF_upper (wF_mono h fun v σ ⟨o, e, ho, q⟩ => ⟨_, asc (upo o), e, (asc_upper ho).symm, (show 1 ≤ 1000000 by decide), q⟩) pl hm
theorem wF_indexA (pl : Sem Bool) {o e : Expr} {apos pos : Pos} (h : wF G C n o (kAbc G C n e Q) σ) (he : Pl (starEach [e] C.env = [(false, eval e C.env)])) (hm : Pl (eval (.Call (.Attribute o "index" apos) [e] [] pos) C.env = (do
      let ov ← eval o C.env
      standAt apos.atName
      let (f, first) ← holding [ov] (getMethod ov "index" pl)
      callWith pos f first (backTo pos (starEach [e] C.env)) []))) : wF G C n (.Call (.Attribute o "index" apos) [e] [] pos) Q σ :=
  wF_index (wF_mono h fun v σ ⟨e1, h1⟩ => ⟨_, e1, wF_mono h1 fun u σ ⟨k, e, hk, q⟩ => let ⟨rest, ho⟩ := asc_index hk; ⟨_, _, rest, e, ho, q⟩⟩) he pl hm
theorem c_nesA {a b : Nat} {B : Bool → Prop} (h : B (!decide (a = b))) : cmpV .NotEq (.str (asc a)) (.str (asc b)) B := c_nes (by rw [show decide (asc a = asc b) = decide (a = b) from decide_eq_decide.mpr asc_inj]; exact h)
end
end Mine
end
section
open PySem PySem.W PySem.Calls PyProof.Rows
set_option Elab.async false
set_option maxRecDepth 100000
set_option linter.unusedVariables false
namespace Mine
open Builtin
theorem c_sp {o : Nat} {B : Bool → Prop} (h : o < 256) (hB : B (decide (o = 32 ∨ o = 9))) : cmpV .In (.int (o : Int)) (.bytes ([32, 9] : List UInt8).toArray) B :=
  c_in (by omega) (by omega) (by
    have e : ∀ o : Fin 256, ([32, 9] : List UInt8).toArray.contains o.val.toUInt8 = decide (o.val = 32 ∨ o.val = 9) := by decide +kernel
    rw [Int.toNat_natCast, e ⟨o, h⟩]; exact hB)
end Mine
end
section
open PySem PySem.W PySem.Calls PyProof.Rows
set_option Elab.async false
set_option maxRecDepth 100000
set_option linter.unusedVariables false
namespace Mine
open Builtin
section
variable {G : Gl} {C : Fc} {n : Nat} {σ : List V} {Q : V → List V → Prop}
theorem wF_itemS {value slice : Expr} {pos : Pos} (h : wF G C n value (fun o σ1 => wF G C n slice (fun i σ2 => ∃ x k c, o = .str x ∧ i = .int k ∧ 0 ≤ k ∧ k < 2 ^ 60 ∧ x.cps[k.toNat]? = some c ∧ Q (.str ⟨#[c]⟩) σ2) σ1) σ) (hs : Pl (subscripted slice false = fun o i => operate [o, i] (getItem o i))) : wF G C n (.Subscript value slice pos) Q σ := fun ok fz keep s i => by
  refine Subscript_ (wpAny_mono (h ok fz keep s i) (fun v s1 ⟨a, σ1, f1, s1', ra, i1, q1⟩ => ?_) fun _ _ x => x)
  refine wpAny_mono (q1 ok f1 keep s1 i1) (fun w s2 ⟨b, σ2, f2, s2', rb, i2, x, k, c, ea, eb, h0, h1, hc, q⟩ => ?_) fun _ _ x => x
  subst ea; subst eb
  refine ra.str_c fun t => rb.int_c fun u => ?_
  · · have hlt : k.toNat < x.length := (Array.getElem?_eq_some_iff.mp hc).1
      refine tail_any (typeIs_str _ _ _) slot_str_getitem.lookup (PyProof.Rows.getItem_str (c := c) ?_ ?_ ?_) (Pl.f2 hs _ _)
      · have a1 : ¬ k < -(2 ^ 63 : Int) := by omega
        have a2 : ¬ k ≥ 2 ^ 63 := by omega
        rw [decide_eq_false a1, decide_eq_false a2]; rfl
      · have : seqIndex? k x.length = some k.toNat := by
          have hn : ¬ k < 0 := by omega
          have hkl : k < (x.length : Int) := by omega
          simp [seqIndex?, hn, h0, hkl]
        rw [this]; exact hc
      · exact ⟨_, σ2, f2, s1'.trans s2', .str _ _, i2.tok _, q⟩
end
end Mine
end
section
open PySem PySem.W PySem.Calls PyProof.Rows
set_option Elab.async false
set_option maxRecDepth 100000
set_option linter.unusedVariables false
namespace Mine
open Builtin
def st (xs : List Nat) : Str := ⟨xs.toArray⟩
def lo (c : Nat) : Nat := if 65 ≤ c ∧ c ≤ 90 then c + 32 else c
theorem lowerOf_asc {c : Nat} (h : c < 128) : Unicode.lowerOf c = [lo c] := by
  have : ∀ c : Fin 128, Unicode.lowerOf c.val = [lo c.val] := by decide +kernel
  exact this ⟨c, h⟩
theorem flatten_single (f : Nat → Nat) (xs : List Nat) : (xs.toArray.map fun c => #[f c]).flatten = (xs.map f).toArray := by
  apply Array.ext'
  simp [Array.toList_flatten]
  induction xs <;> simp_all
theorem lower_st {xs : List Nat} (h : ∀ c ∈ xs, c < 128) : placed (st xs) (fun i _ => Unicode.lowerAt (st xs).cps i) = (xs.map lo).toArray := by
  unfold placed
  have e : (st xs).cps.mapIdx (fun i _ => (Unicode.lowerAt (st xs).cps i).toArray) = xs.toArray.map fun c => #[lo c] := by
    apply Array.ext
    · simp [st]
    · intro i h1 h2
      have hi : i < xs.length := by simpa [st] using h1
      have hc := h _ (List.getElem_mem hi)
      have hne : (xs[i] == 0x3A3) = false := by simp; omega
      simp [st, Unicode.lowerAt, hi, lowerOf_asc hc]
      intro h3; omega
  rw [e, flatten_single]
theorem st_append (xs ys : List Nat) : st xs ++ st ys = st (xs ++ ys) := by
  show (⟨_⟩ : Str) = _
  simp [st]
end Mine
end
section
open PySem PySem.W PySem.Calls PyProof.Rows
set_option Elab.async false
set_option maxRecDepth 100000
set_option maxHeartbeats 4000000
set_option linter.unusedVariables false
set_option linter.unusedSimpArgs false
namespace Mine
open Builtin
set_option hygiene false
set_option compiler.extract_closed false
local macro_rules | `(tactic| k_subL) => `(tactic| first | with_reducible assumption | with_reducible exact Nat.le_refl _ | with_reducible exact Nat.le_add_right _ _ | lia | omega)
local macro_rules | `(tactic| one_item) => `(tactic| first | refine b_len_list ?_ ?_ | refine b_len_bytes ?_ ?_ | refine b_min ?_ | refine b_max ?_ | refine b_abs ?_ | refine b_int ?_ | refine b_chrA ?_ ?_ | refine b_intA ?_ ?_)
local macro_rules | `(tactic| kt_at_item) => `(tactic| first | exact At.i0 | exact At.i1 | exact At.i2 | exact At.i3 | exact At.i4 | exact At.i5 | exact At.i6 | exact At.i7 | exact At.i8 | exact At.i9 | exact At.i10 | exact At.i11 | exact At.i12 | exact At.i13)
local macro_rules | `(tactic| kt_at_get) => `(tactic| first | exact Put.i0 | exact Put.i1 | exact Put.i2 | exact Put.i3 | exact Put.i4 | exact Put.i5 | exact Put.i6 | exact Put.i7 | exact Put.i8 | exact Put.i9 | exact Put.i10 | exact Put.i11 | exact Put.i12 | exact Put.i13)
local macro_rules | `(tactic| top_name) => `(tactic| first | refine o_addN ?_ | refine o_add ?_ | refine o_adds ?_ ?_ | refine o_addb ?_ ?_ | refine o_sub ?_ | refine o_andN ?_ | refine o_and ?_ | refine o_shl1 ?_ ?_ | refine o_shlN ?_ ?_ | refine o_shl ?_ ?_ ?_ ?_ | refine o_shrN ?_ | refine o_shr ?_ ?_ | refine o_mulN ?_ ?_ | refine o_mul ?_ ?_ | refine o_divN ?_ ?_ | refine o_div ?_ ?_ ?_ | refine o_modN ?_ ?_ | refine o_mod ?_ ?_ ?_ | refine o_orN ?_ ?_ | refine o_orN' ?_ ?_ | refine o_or ?_ | refine o_pow2 ?_ ?_ | refine o_pow ?_ ?_ ?_ ?_)
local macro_rules | `(tactic| top_args) => `(tactic| first | refine c_lt ?_ | refine c_le ?_ | refine c_gt ?_ | refine c_ge ?_ | refine c_eq ?_ | refine c_ne ?_ | refine c_nesA ?_ | refine c_eqsT ?_ | refine c_eqsF (by decide +kernel) ?_ | refine c_nesT ?_ | refine c_nesF (by decide +kernel) ?_ | refine c_eqs ?_ | refine c_nes ?_ | refine c_isN ?_ | refine c_isI ?_ | refine c_notN ?_ | refine c_notI ?_ | refine c_blank ?_ ?_ | refine c_sp ?_ ?_ | refine c_in ?_ ?_ ?_)
local macro_rules | `(tactic| top_raise0) => `(tactic| first | refine wF_own (by kt_at_item) (by kt_at_get) ?_ | refine wF_local (by kt_at_item) ?_ ?_ | refine nm_g (by constructor) ?_ ?_ | refine wF_int ?_ | refine wF_mulL ?_ | refine wF_addL ?_ | refine wF_addA ?_ | refine wF_bin ?_ | refine wF_cmp ?_ ?_ | refine wF_sliceO (by kt_at_item) (by kt_at_get) ?_ ?_ | refine wF_slice ?_ | refine wF_rev ?_ | ((show wF _ _ _ (Expr.Subscript (Expr.Name (Str.ofString "signs") _) _ _) _ _); refine wF_itemS ?_ ?_) | refine wF_itemO (by kt_at_item) ?_ ?_ | refine wF_item ?_ ?_ | refine wF_callO' (by constructor) (by kt_at_item) ?_ ?_ ?_ | refine wF_lenG (by kt_at_item) ?_ ?_ ?_ ?_ | refine wF_call ?_ ?_ ?_ | refine wF_append ?_ (by kt_at_item) ?_ ?_ ?_ | refine wF_isdigitA ?_ ?_ ?_ | refine wF_isalphaA ?_ ?_ ?_ | refine wF_upperA ?_ ?_ ?_ | refine wF_lower ?_ ?_ ?_ | refine wF_indexA ?_ ?_ ?_ ?_ | refine wF_reverse ?_ (by kt_at_item) ?_ (by kt_at_get) ?_ ?_ | refine wF_bitlen ?_ ?_ ?_ | refine wF_listL ?_ | refine wF_bool ?_ | refine wF_none ?_ | refine wF_str ?_ | refine wF_bytes ?_ | refine wF_neg ?_ | refine wF_if ?_ | refine wF_tuple ?_ | refine wF_and2 ?_)
local macro_rules | `(tactic| kt_at_in) => `(tactic| first | refine wT_cmp ?_ ?_ | refine wT_cmp2 ?_ ?_ | refine wT_not ?_ | refine wT_and ?_ | refine wT_or ?_ | refine wT_name ?_ | refine wT_call ?_)
local macro_rules | `(tactic| kt_at_notin) => `(tactic| first | refine wX_assignL ?_ ?_ | refine wX_assignM ?_ ?_ | refine wX_assignA ?_ ?_ | refine wX_assign ?_ ?_ | refine wX_ret ?_ | refine wX_if ?_ | refine wX_swap2 ?_ ?_ ?_ | refine wX_swap3 ?_ ?_ ?_ | refine wX_unpack ?_ ?_ ?_ | refine wX_setitem ?_ ?_ | refine wX_aug (by kt_at_item) ?_ ?_ | refine wX_expr ?_ ?_ | refine wX_cont ?_ | refine wX_pass ?_)
local macro_rules | `(tactic| top_reprB) => `(tactic| (dsimp only [List.cons_append, List.nil_append]; (try dsimp only [List.map]); refine wS_cons ?_))
local macro_rules | `(tactic| top_strB) => `(tactic| with_reducible repeat' (first | ((show wF _ _ _ _ _ _); top_raise0) | ((show wX _ _ _ _ _ _); kt_at_notin) | ((show Pl _); with_unfolding_all exact Pl.r) | ((show wT _ _ _ _ _ _); kt_at_in) | ((show binV _ _ _ _); top_name) | ((show cmpV _ _ _ _); top_args) | exact ce_g (by constructor) | refine wI_ownL ?_ ?_ | refine wI_ownM ?_ ?_ | refine wI_val ?_ ?_ | refine wI_nil ?_ | refine wS_cons ?_ | refine wS_nil ?_ | refine wA_cons ?_ ?_ | refine wA_nil ?_ | refine wAnd_nil ?_ | refine wOr_nil ?_ | refine wAnd_cons ?_ | refine wOr_cons ?_ | refine wP_none ?_ | refine wP_some ?_ | refine i_fst ?_ | refine i_snd ?_ | refine i_last ?_ ?_ | refine i_at ?_ ?_ | refine wG_name (by kt_at_get) ?_ | refine wG_tuple ?_ ?_ ?_ | refine wGs_cons ?_ ?_ | refine wGs_nil ?_ | refine kAsg_i (by kt_at_get) ?_ | refine kAsgO_i (by kt_at_get) ?_ | refine kAug2_i (by kt_at_get) ?_ | refine kCl_i ?_ ?_ | refine kClO_i ?_ (by kt_at_item) (by kt_at_get) ?_ | refine kClO3_i (by kt_at_item) (by kt_at_get) ?_ | refine kIfS_p (fun _ => ?_) (fun _ => ?_) | refine kIfS_n (fun _ => ?_) (fun _ => ?_) | refine kIfS_t ?_ | refine kIfS_f ?_ | refine kSl_i ?_ ?_ | refine kSl3_nn ?_ | refine kSl3_ni ?_ | refine kSl3_in ?_ | refine kSl3_ii ?_ | refine kRev_i ?_ ?_ | refine kBk_i (by kt_at_item) (by kt_at_get) ?_ | refine kItO_i (by kt_at_item) ?_ | refine kTup_i ?_ ?_ | refine kLst_i ?_ (fun _ => ?_) | refine kMul_i ?_ (fun _ => ?_) | refine kCat_i ?_ (fun _ => ?_) | refine kDrp_i ?_ | refine kApp_i (by kt_at_item) ?_ (by kt_at_get) ?_ | refine kSet_i (by kt_at_item) ?_ | refine kSet2_i (by kt_at_item) ?_ (by kt_at_get) ?_ | refine kR1f_i ?_ | refine kR2f_i ?_ | refine kR3f_i ?_ | refine kR1_i ?_ ?_ | refine kR2_i ?_ ?_ | refine kR3_i ?_ ?_ | refine kLs_i ?_ | refine kEnf_i ?_ | refine kEn_i ?_ | refine kSw2_i (by kt_at_get) (by kt_at_get) ?_ | refine kSw3_i (by kt_at_get) (by kt_at_get) (by kt_at_get) ?_ | refine kVal_i ?_ | refine kAnd2_i ?_ | refine kBit_i ?_ | refine kChr_i ?_ ?_ | refine kUp_i ?_ ?_ | refine kAbc_i ?_ ?_ | refine kClF_i ?_ ?_ | refine kFl_i ?_ ?_ | refine br (fun _ => ?_) (fun _ => ?_) | refine brN (fun _ => ?_) (fun _ => ?_) | refine br' (fun _ => ?_) (fun _ => ?_) | refine brN' (fun _ => ?_) (fun _ => ?_) | refine brT ?_ | refine brF ?_ | refine brT' ?_ | refine brF' ?_ | refine ⟨fun _ => ?_, fun _ => ?_⟩ | ((show Calls _ _ _ _ _); one_item)))
local macro_rules | `(tactic| top_raiseB0) => `(tactic| with_reducible (refine wX_for' ?_ ?_ ?_ <;> (try first | refine wIt_range3 ?_ ?_ ?_ ?_ | refine wIt_range2 ?_ ?_ ?_ | refine wIt_range1 ?_ ?_ | refine wIt_enum ?_ ?_ | refine wIt_list ?_) <;> try ((show Pl _); with_unfolding_all exact Pl.r)))
section
variable {prog : Program} {W : World} {p : Program} {loose : List Str} {mean : ExcName → Option Value} {mg mb : Str → Option Value}
theorem limbs_62 {w n : Nat} (hw : Wd w) (h : n < 2 ^ 62) : (limbs (2 ^ w) n).length ≤ 62 :=
  limbs_length_le hw.two (Nat.lt_of_lt_of_le h (Nat.pow_le_pow_left hw.two 62))
theorem t_nat_of {w n : Nat} (hw : Wd w) (hn : n < 2 ^ 62) {K : V → Prop} (hK : K (L (2 ^ w) n)) : Calls (GG prog W p loose mean mg mb) 1 (.ref 86) [.int (n : Int), .int (w : Int)] K := by
  have hB := hw.two
  have h8 := hw.hi
  have hl := limbs_62 hw hn
  refine calls_of_body d_nat_of rfl fun D => ?_
  top_reprB
  top_strB <;> (try ((with_reducible first | show _ ≤ _ | show _ < _ | show (_ : Int) ≤ _ ∧ _ | show (_ : Nat) ≤ _ ∧ _ | show (_ : Int) < _ ∧ _ | show (_ : Nat) < _ ∧ _ | show (_ : Nat) = _ | show (_ : Int) = _); first | k_subL | (simp only [vN_length, List.length_append, List.length_cons, List.length_nil, List.length_replicate, List.length_set, List.length_take, List.length_drop, List.length_reverse] at * <;> k_subL)))
  · k_subL
  rename_i a
  refine wX_while (by rfl) (fun k σ => ∃ (m : Nat) (f : List Nat), σ = [.int (m : Int), .int (w : Int), .own a (vN f), .int (((2 ^ w : Nat) : Int) - 1)] ∧ limbs (2 ^ w) n = f ++ limbs (2 ^ w) m ∧ k = m) ?_ n ⟨n, [], rfl, rfl, rfl⟩
  rintro k σ ⟨m, f, rfl, he, rfl⟩
  have hf : f.length ≤ 62 := by have := congrArg List.length he; rw [List.length_append] at this; k_subL
  top_strB <;> (try ((with_reducible first | show _ ≤ _ | show _ < _ | show (_ : Int) ≤ _ ∧ _ | show (_ : Nat) ≤ _ ∧ _ | show (_ : Int) < _ ∧ _ | show (_ : Nat) < _ ∧ _ | show (_ : Nat) = _ | show (_ : Int) = _); first | k_subL | (simp only [vN_length, List.length_append, List.length_cons, List.length_nil, List.length_replicate, List.length_set, List.length_take, List.length_drop, List.length_reverse] at * <;> k_subL)))
  · rename_i hk
    refine ⟨k / 2 ^ w, Nat.div_lt_self (by k_subL) hB, k / 2 ^ w, f ++ [k % 2 ^ w], by rw [vN_snoc], ?_, rfl⟩
    rw [he, limbs_pos hB (by k_subL), List.append_assoc]; rfl
  · rename_i hk
    have : k = 0 := by k_subL
    subst this
    rw [limbs_zero, List.append_nil] at he
    rw [L, he] at hK; exact hK
end
section
variable {prog : Program} {W : World} {p : Program} {loose : List Str} {mean : ExcName → Option Value} {mg mb : Str → Option Value}
structure SumRows (B : Nat) (xs ys : List Nat) (s : Nat) : Prop where
  hx : Rng B xs
  hy : Rng B ys
  hl : ys.length ≤ xs.length
  hz : xs.length ≤ 1000
  hv : val B xs + val B ys = s
  hc : xs = [] ∨ B ^ (xs.length - 1) ≤ s
theorem step_val {B : Nat} (hB : 0 < B) (f : List Nat) (t : Nat) : val B (f ++ [t % B]) + B ^ (f.length + 1) * (t / B) = val B f + B ^ f.length * t := by
  rw [val_snoc, Nat.pow_succ, Nat.mul_assoc, Nat.add_assoc, ← Nat.mul_add, Nat.mod_add_div]
theorem limbs_hc {B : Nat} (hB : 2 ≤ B) (a s : Nat) (h : a ≤ s) : limbs B a = [] ∨ B ^ ((limbs B a).length - 1) ≤ s := by
  rcases Nat.eq_zero_or_pos a with rfl | h0
  · exact .inl (limbs_zero B)
  · exact .inr (Nat.le_trans (limbs_ge hB h0) h)
@[reducible] def kAfter (G : Gl) (C : Fc) (n : Nat) (ss : List Stmt) (Q : Fl → List V → Prop) (σ : List V) : Prop := match ss with
  | s :: ss => wX G C n s (kSeq G C n ss Q) σ
  | [] => True
theorem kAfter_i {G : Gl} {C : Fc} {n : Nat} {s : Stmt} {ss : List Stmt} {Q : Fl → List V → Prop} {σ : List V} (h : wX G C n s (kSeq G C n ss Q) σ) : kAfter G C n (s :: ss) Q σ := h
theorem add_main {w s : Nat} (hw : Wd w) {xs ys : List Nat} (F : SumRows (2 ^ w) xs ys s) {K : V → Prop} (hK : K (L (2 ^ w) s)) {D : Fc} {A : Addr} :
    kAfter (GG prog W p loose mean mg mb) (frm D (Str.ofString "add") s_add [Str.ofString "a", Str.ofString "b", Str.ofString "w", Str.ofString "at", Str.ofString "found", Str.ofString "carry", Str.ofString "mask"]) 0 (b_add.drop 2) (kFin K)
      [V.list (vN xs), V.list (vN ys), V.int (w : Int), V.undef, V.own A [], V.int 0, V.int (((2 ^ w : Nat) : Int) - 1)] := by
  have hB := hw.two
  have hB0 : 0 < 2 ^ w := by k_subL
  have h8 := hw.hi
  have h256 := hw.le
  unfold L at hK
  refine kAfter_i ?_
  obtain ⟨hx, hy, hl, hz, hv, hc⟩ := F
  top_raiseB0
  top_strB <;> (try ((with_reducible first | show _ ≤ _ | show _ < _ | show (_ : Int) ≤ _ ∧ _ | show (_ : Nat) ≤ _ ∧ _ | show (_ : Int) < _ ∧ _ | show (_ : Nat) < _ ∧ _ | show (_ : Nat) = _ | show (_ : Int) = _); first | k_subL | (simp only [vN_length, List.length_append, List.length_cons, List.length_nil, List.length_replicate, List.length_set, List.length_take, List.length_drop, List.length_reverse] at * <;> k_subL)))
  refine ⟨fun k σ => ∃ (f : List Nat) (c : Nat) (y : V), σ = [.list (vN xs), .list (vN ys), .int (w : Int), y, .own A (vN f), .int (c : Int), .int (((2 ^ w : Nat) : Int) - 1)] ∧ f.length = k ∧ Rng (2 ^ w) f ∧ c ≤ 1 ∧ val (2 ^ w) f + (2 ^ w) ^ k * c = val (2 ^ w) (xs.take k) + val (2 ^ w) (ys.take k), ⟨[], 0, _, rfl, rfl, Rng.nil, by k_subL, by simp [val]⟩, ?_, ?_⟩
  · rintro k x σ hk0 ⟨f, c, y, rfl, rfl, hf, hc1, hval⟩
    obtain ⟨hk, rfl⟩ := upInts_get hk0
    simp only [vN_length] at hk
    have hk' : f.length < ys.length := by k_subL
    top_strB <;> (try ((with_reducible first | show _ ≤ _ | show _ < _ | show (_ : Int) ≤ _ ∧ _ | show (_ : Nat) ≤ _ ∧ _ | show (_ : Int) < _ ∧ _ | show (_ : Nat) < _ ∧ _ | show (_ : Nat) = _ | show (_ : Int) = _); first | k_subL | (simp only [vN_length, List.length_append, List.length_cons, List.length_nil, List.length_replicate, List.length_set, List.length_take, List.length_drop, List.length_reverse] at * <;> k_subL)))
    have e1 : ((0 : Int) + (f.length : Int)).toNat = f.length := by k_subL
    rw [e1]
    have h1 := hx.getD hB0 f.length
    have h2 := hy.getD hB0 f.length
    refine ⟨f ++ [(c + (xs.getD f.length 0 + ys.getD f.length 0)) % 2 ^ w], (c + (xs.getD f.length 0 + ys.getD f.length 0)) / 2 ^ w, _, by rw [vN_snoc], by simp, hf.snoc (Nat.mod_lt _ hB0), ?_, ?_⟩
    · exact Nat.le_of_lt_succ ((Nat.div_lt_iff_lt_mul hB0).mpr (by k_subL))
    · rw [step_val hB0, val_take_succ' _ hk', val_take_succ' _ (by k_subL : f.length < xs.length), Nat.mul_add, Nat.mul_add]; k_subL
  · rintro σ ⟨f, c, y, rfl, hfl, hf, hc1, hval⟩
    rw [upInts_length, vN_length] at hfl hval
    have hfl' : f.length = ys.length := by k_subL
    have e0 : ((ys.length : Int)).toNat = ys.length := by k_subL
    rw [e0] at hval
    top_strB
    top_raiseB0
    top_strB <;> (try ((with_reducible first | show _ ≤ _ | show _ < _ | show (_ : Int) ≤ _ ∧ _ | show (_ : Nat) ≤ _ ∧ _ | show (_ : Int) < _ ∧ _ | show (_ : Nat) < _ ∧ _ | show (_ : Nat) = _ | show (_ : Int) = _); first | k_subL | (simp only [vN_length, List.length_append, List.length_cons, List.length_nil, List.length_replicate, List.length_set, List.length_take, List.length_drop, List.length_reverse] at * <;> k_subL)))
    refine ⟨fun k σ => ∃ (f : List Nat) (c : Nat) (y : V), σ = [.list (vN xs), .list (vN ys), .int (w : Int), y, .own A (vN f), .int (c : Int), .int (((2 ^ w : Nat) : Int) - 1)] ∧ f.length = ys.length + k ∧ Rng (2 ^ w) f ∧ c ≤ 1 ∧ val (2 ^ w) f + (2 ^ w) ^ f.length * c = val (2 ^ w) (xs.take f.length) + val (2 ^ w) ys, ⟨f, c, _, rfl, hfl', hf, hc1, by rw [hfl', hval, List.take_length]⟩, ?_, ?_⟩
    · clear hval hf hfl hfl' hc1
      rintro k x σ hk0 ⟨f, c, y, rfl, hfl, hf, hc1, hval⟩
      obtain ⟨hk, rfl⟩ := upInts_get hk0
      simp only [vN_length] at hk
      have hk' : f.length < xs.length := by k_subL
      top_strB <;> (try ((with_reducible first | show _ ≤ _ | show _ < _ | show (_ : Int) ≤ _ ∧ _ | show (_ : Nat) ≤ _ ∧ _ | show (_ : Int) < _ ∧ _ | show (_ : Nat) < _ ∧ _ | show (_ : Nat) = _ | show (_ : Int) = _); first | k_subL | (simp only [vN_length, List.length_append, List.length_cons, List.length_nil, List.length_replicate, List.length_set, List.length_take, List.length_drop, List.length_reverse] at * <;> k_subL)))
      have e1 : (((vN ys).length : Int) + (k : Int)).toNat = f.length := by rw [vN_length]; k_subL
      rw [e1]
      have h1 := hx.getD hB0 f.length
      refine ⟨f ++ [(c + xs.getD f.length 0) % 2 ^ w], (c + xs.getD f.length 0) / 2 ^ w, _, by rw [vN_snoc], by simp; k_subL, hf.snoc (Nat.mod_lt _ hB0), ?_, ?_⟩
      · exact Nat.le_of_lt_succ ((Nat.div_lt_iff_lt_mul hB0).mpr (by k_subL))
      · rw [List.length_append, List.length_singleton, step_val hB0, val_take_succ' _ hk', Nat.mul_add]; k_subL
    · rintro σ ⟨f', c', y', rfl, hfl2, hf2, hc2, hval2⟩
      rw [upInts_length, vN_length, vN_length] at hfl2
      have hfl2' : f'.length = xs.length := by k_subL
      rw [hfl2', List.take_length, hv] at hval2
      top_strB <;> (try ((with_reducible first | show _ ≤ _ | show _ < _ | show (_ : Int) ≤ _ ∧ _ | show (_ : Nat) ≤ _ ∧ _ | show (_ : Int) < _ ∧ _ | show (_ : Nat) < _ ∧ _ | show (_ : Nat) = _ | show (_ : Int) = _); first | k_subL | (simp only [vN_length, List.length_append, List.length_cons, List.length_nil, List.length_replicate, List.length_set, List.length_take, List.length_drop, List.length_reverse] at * <;> k_subL)))
      · rename_i hpos
        have : c' = 1 := by k_subL
        subst this
        show K (.list (vN f' ++ [V.int ((1 : Nat) : Int)]))
        have e := canon' (a := s) hB (hf2.snoc (by k_subL : 1 < 2 ^ w)) (by rw [val_snoc, hfl2']; exact hval2) (.inr (by rw [List.length_append, List.length_singleton, hfl2']; simp only [Nat.add_sub_cancel]; k_subL))
        rw [vN_snoc, e]
        exact hK
      · rename_i hpos
        have : c' = 0 := by k_subL
        subst this
        rw [Nat.mul_zero, Nat.add_zero] at hval2
        show K (.list (vN f'))
        rw [canon' hB hf2 hval2 (by rw [hfl2']; exact hc.imp (fun e => by subst e; exact List.length_eq_zero_iff.mp hfl2') id)]
        exact hK
theorem t_add {w a b : Nat} (hw : Wd w) (ha : (limbs (2 ^ w) a).length ≤ 1000) (hb : (limbs (2 ^ w) b).length ≤ 1000) {K : V → Prop} (hK : K (L (2 ^ w) (a + b))) : Calls (GG prog W p loose mean mg mb) 1 (.ref 100) [L (2 ^ w) a, L (2 ^ w) b, .int (w : Int)] K := by
  have hB := hw.two
  have hB0 : 0 < 2 ^ w := by k_subL
  have h8 := hw.hi
  have h256 := hw.le
  unfold L
  refine calls_of_body d_add rfl fun D => ?_
  top_reprB
  top_strB <;> (try ((with_reducible first | show _ ≤ _ | show _ < _ | show (_ : Int) ≤ _ ∧ _ | show (_ : Nat) ≤ _ ∧ _ | show (_ : Int) < _ ∧ _ | show (_ : Nat) < _ ∧ _ | show (_ : Nat) = _ | show (_ : Int) = _); first | k_subL | (simp only [vN_length, List.length_append, List.length_cons, List.length_nil, List.length_replicate, List.length_set, List.length_take, List.length_drop, List.length_reverse] at * <;> k_subL)))
  · rename_i h A
    have F : SumRows (2 ^ w) (limbs (2 ^ w) b) (limbs (2 ^ w) a) (a + b) := ⟨rng_limbs hB b, rng_limbs hB a, by ((with_reducible first | show _ ≤ _ | show _ < _ | show (_ : Int) ≤ _ ∧ _ | show (_ : Nat) ≤ _ ∧ _ | show (_ : Int) < _ ∧ _ | show (_ : Nat) < _ ∧ _ | show (_ : Nat) = _ | show (_ : Int) = _); first | k_subL | (simp only [vN_length, List.length_append, List.length_cons, List.length_nil, List.length_replicate, List.length_set, List.length_take, List.length_drop, List.length_reverse] at * <;> k_subL)), hb, by rw [val_limbs hB, val_limbs hB, Nat.add_comm], limbs_hc hB _ _ (by k_subL)⟩
    exact add_main hw F hK
  · rename_i h A
    have F : SumRows (2 ^ w) (limbs (2 ^ w) a) (limbs (2 ^ w) b) (a + b) := ⟨rng_limbs hB a, rng_limbs hB b, by ((with_reducible first | show _ ≤ _ | show _ < _ | show (_ : Int) ≤ _ ∧ _ | show (_ : Nat) ≤ _ ∧ _ | show (_ : Int) < _ ∧ _ | show (_ : Nat) < _ ∧ _ | show (_ : Nat) = _ | show (_ : Int) = _); first | k_subL | (simp only [vN_length, List.length_append, List.length_cons, List.length_nil, List.length_replicate, List.length_set, List.length_take, List.length_drop, List.length_reverse] at * <;> k_subL)), ha, by rw [val_limbs hB, val_limbs hB], limbs_hc hB _ _ (by k_subL)⟩
    exact add_main hw F hK
end
section
variable {prog : Program} {W : World} {p : Program} {loose : List Str} {mean : ExcName → Option Value} {mg mb : Str → Option Value}
def cmpI (a b : Nat) : Int := if a < b then -1 else if a = b then 0 else 1
theorem cmp_at {B : Nat} (hB : 2 ≤ B) {xs ys : List Nat} (hx : Rng B xs) (hy : Rng B ys) (hl : xs.length = ys.length) {i : Nat} (hi : i < xs.length) (hd : xs.drop (i + 1) = ys.drop (i + 1)) (hlt : xs[i] < ys[i]'(hl ▸ hi)) : val B xs < val B ys := by
  have hi' : i < ys.length := hl ▸ hi
  rw [val_take_drop B xs i, val_take_drop B ys i, val_drop_succ B hi, val_drop_succ B hi', hd, List.length_take, List.length_take, Nat.min_eq_left (Nat.le_of_lt hi), Nat.min_eq_left (Nat.le_of_lt hi')]
  have h1 : val B (xs.take i) < B ^ i := by have := val_lt (hx.take i); rwa [List.length_take, Nat.min_eq_left (Nat.le_of_lt hi)] at this
  have h2 : B ^ i * (xs[i] + B * val B (ys.drop (i + 1))) + B ^ i ≤ B ^ i * (ys[i] + B * val B (ys.drop (i + 1))) := by
    rw [← Nat.mul_succ]; exact Nat.mul_le_mul_left _ (by k_subL)
  k_subL
theorem len_lt_val {B : Nat} (hB : 2 ≤ B) {a b : Nat} (h : (limbs B a).length < (limbs B b).length) : a < b := by
  rcases Nat.lt_or_ge a b with h' | h'
  · exact h'
  · have := limbs_length_le hB (Nat.lt_of_le_of_lt h' (limbs_lt hB a))
    k_subL
theorem t_compare {B : Nat} (hB : 2 ≤ B) {a b : Nat} (ha : (limbs B a).length ≤ 1000) (hb : (limbs B b).length ≤ 1000) {K : V → Prop} (hK : K (.int (cmpI a b))) : Calls (GG prog w p loose mean mg mb) 1 (.ref 93) [L B a, L B b] K := by
  unfold L
  refine calls_of_body d_compare rfl fun D => ?_
  top_reprB
  top_strB <;> (try ((with_reducible first | show _ ≤ _ | show _ < _ | show (_ : Int) ≤ _ ∧ _ | show (_ : Nat) ≤ _ ∧ _ | show (_ : Int) < _ ∧ _ | show (_ : Nat) < _ ∧ _ | show (_ : Nat) = _ | show (_ : Int) = _); first | k_subL | (simp only [vN_length, List.length_append, List.length_cons, List.length_nil, List.length_replicate, List.length_set, List.length_take, List.length_drop, List.length_reverse] at * <;> k_subL)))
  · rename_i h1 h2
    have := len_lt_val hB (a := a) (b := b) (by ((with_reducible first | show _ ≤ _ | show _ < _ | show (_ : Int) ≤ _ ∧ _ | show (_ : Nat) ≤ _ ∧ _ | show (_ : Int) < _ ∧ _ | show (_ : Nat) < _ ∧ _ | show (_ : Nat) = _ | show (_ : Int) = _); first | k_subL | (simp only [vN_length, List.length_append, List.length_cons, List.length_nil, List.length_replicate, List.length_set, List.length_take, List.length_drop, List.length_reverse] at * <;> k_subL)))
    rw [cmpI, if_pos this] at hK; exact hK
  · rename_i h1 h2
    have := len_lt_val hB (a := b) (b := a) (by ((with_reducible first | show _ ≤ _ | show _ < _ | show (_ : Int) ≤ _ ∧ _ | show (_ : Nat) ≤ _ ∧ _ | show (_ : Int) < _ ∧ _ | show (_ : Nat) < _ ∧ _ | show (_ : Nat) = _ | show (_ : Int) = _); first | k_subL | (simp only [vN_length, List.length_append, List.length_cons, List.length_nil, List.length_replicate, List.length_set, List.length_take, List.length_drop, List.length_reverse] at * <;> k_subL)))
    rw [cmpI, if_neg (by k_subL), if_neg (by k_subL)] at hK; exact hK
  · rename_i h1
    have hl : (limbs B a).length = (limbs B b).length := by ((with_reducible first | show _ ≤ _ | show _ < _ | show (_ : Int) ≤ _ ∧ _ | show (_ : Nat) ≤ _ ∧ _ | show (_ : Int) < _ ∧ _ | show (_ : Nat) < _ ∧ _ | show (_ : Nat) = _ | show (_ : Int) = _); first | k_subL | (simp only [vN_length, List.length_append, List.length_cons, List.length_nil, List.length_replicate, List.length_set, List.length_take, List.length_drop, List.length_reverse] at * <;> k_subL))
    top_raiseB0
    top_strB <;> (try ((with_reducible first | show _ ≤ _ | show _ < _ | show (_ : Int) ≤ _ ∧ _ | show (_ : Nat) ≤ _ ∧ _ | show (_ : Int) < _ ∧ _ | show (_ : Nat) < _ ∧ _ | show (_ : Nat) = _ | show (_ : Int) = _); first | k_subL | (simp only [vN_length, List.length_append, List.length_cons, List.length_nil, List.length_replicate, List.length_set, List.length_take, List.length_drop, List.length_reverse] at * <;> k_subL)))
    refine ⟨fun k σ => (∃ x, σ = [.list (vN (limbs B a)), .list (vN (limbs B b)), x]) ∧ (limbs B a).drop ((limbs B a).length - k) = (limbs B b).drop ((limbs B a).length - k), ⟨⟨_, rfl⟩, ?_⟩, ?_, ?_⟩
    · rw [Nat.sub_zero, hl, List.drop_length, ← hl, List.drop_length]
    · rintro k x σ hx0 ⟨⟨y, rfl⟩, hd⟩
      obtain ⟨hk, rfl⟩ := downInts_get hx0
      simp only [vN_length] at hk ⊢
      have hk' : k < (limbs B a).length := by k_subL
      have e1 : (((limbs B a).length : Int) - 1 - (k : Int)).toNat = (limbs B a).length - 1 - k := by k_subL
      have e2 : (limbs B a).length - k = (limbs B a).length - 1 - k + 1 := by k_subL
      have hi : (limbs B a).length - 1 - k < (limbs B a).length := by k_subL
      have hi' : (limbs B a).length - 1 - k < (limbs B b).length := by k_subL
      have ga := getD_eq hi
      have gb := getD_eq hi'
      rw [e2] at hd
      top_strB <;> (try ((with_reducible first | show _ ≤ _ | show _ < _ | show (_ : Int) ≤ _ ∧ _ | show (_ : Nat) ≤ _ ∧ _ | show (_ : Int) < _ ∧ _ | show (_ : Nat) < _ ∧ _ | show (_ : Nat) = _ | show (_ : Int) = _); first | k_subL | (simp only [vN_length, List.length_append, List.length_cons, List.length_nil, List.length_replicate, List.length_set, List.length_take, List.length_drop, List.length_reverse] at * <;> k_subL)))
      · rename_i h2 h3
        rw [e1, ga, gb] at h3
        have := cmp_at hB (rng_limbs hB a) (rng_limbs hB b) hl hi hd (by k_subL)
        rw [val_limbs hB, val_limbs hB] at this
        rw [cmpI, if_pos this] at hK; exact hK
      · rename_i h2 h3
        rw [e1, ga, gb] at h2 h3
        have := cmp_at hB (rng_limbs hB b) (rng_limbs hB a) hl.symm hi' hd.symm (by k_subL)
        rw [val_limbs hB, val_limbs hB] at this
        rw [cmpI, if_neg (by k_subL), if_neg (by k_subL)] at hK; exact hK
      · rename_i h2
        rw [e1, ga, gb] at h2
        refine ⟨⟨_, rfl⟩, ?_⟩
        rw [show (limbs B a).length - (k + 1) = (limbs B a).length - 1 - k by k_subL, List.drop_eq_getElem_cons hi, List.drop_eq_getElem_cons hi', hd]
        congr 1; k_subL
    · rintro σ ⟨⟨y, rfl⟩, hd⟩
      simp only [vN_length, downInts_length] at hd
      rw [show (limbs B a).length - (((limbs B a).length : Int) - 1 - -1).toNat = 0 by k_subL, List.drop_zero, List.drop_zero] at hd
      have e : a = b := by rw [← val_limbs hB a, hd, val_limbs hB]
      top_strB <;> (try ((with_reducible first | show _ ≤ _ | show _ < _ | show (_ : Int) ≤ _ ∧ _ | show (_ : Nat) ≤ _ ∧ _ | show (_ : Int) < _ ∧ _ | show (_ : Nat) < _ ∧ _ | show (_ : Nat) = _ | show (_ : Int) = _); first | k_subL | (simp only [vN_length, List.length_append, List.length_cons, List.length_nil, List.length_replicate, List.length_set, List.length_take, List.length_drop, List.length_reverse] at * <;> k_subL)))
      rw [cmpI, if_neg (by k_subL), if_pos e] at hK; exact hK
end
section
variable {prog : Program} {W : World} {p : Program} {loose : List Str} {mean : ExcName → Option Value} {mg mb : Str → Option Value}
theorem t_normal {B : Nat} (hB : 2 ≤ B) {xs : List Nat} (h : Rng B xs) (hz : xs.length ≤ 1000) {K : V → Prop} (hK : K (L B (val B xs))) : Calls (GG prog w p loose mean mg mb) 1 (.ref 79) [.list (vN xs)] K := by
  have fin : ∀ e : Nat, e ≤ xs.length → (∀ i, e ≤ i → (hi : i < xs.length) → xs[i] = 0) → (e = 0 ∨ ∃ h : e - 1 < xs.length, xs[e - 1] ≠ 0) → V.list (pick (vN xs) none (some (e : Int))) = L B (val B xs) := fun e he hzero hl => by
    rw [pick_upto rfl, vN_take, L]
    congr 2
    rw [← val_take_zero hzero]
    refine canon_last hB (h.take e) fun y hy => ?_
    rcases hl with rfl | ⟨h1, h2⟩
    · simp at hy
    · rw [List.getLast?_eq_getElem?, List.length_take, Nat.min_eq_left he] at hy
      have he0 : e ≠ 0 := fun e0 => by subst e0; simp at hy
      rw [List.getElem?_take_of_lt (by k_subL), List.getElem?_eq_getElem h1] at hy
      cases hy; exact h2
  refine calls_of_body d_normal rfl fun D => ?_
  top_reprB
  top_strB
  · rw [vN_length]; k_subL
  refine wX_while (by rfl) (fun k σ => ∃ e : Nat, σ = [.list (vN xs), .int e] ∧ e ≤ xs.length ∧ k = e ∧ (∀ i, e ≤ i → (hi : i < xs.length) → xs[i] = 0)) ?_ xs.length ⟨xs.length, by rw [vN_length], by k_subL, rfl, fun i h1 h2 => absurd h2 (by k_subL)⟩
  rintro k σ ⟨e, rfl, he, rfl, hzero⟩
  top_strB
  · rw [vN_length]; k_subL
  · rename_i hk
    have hk0 : k = 0 := by k_subL
    show K _
    rw [fin k he hzero (.inl hk0)]; exact hK
  · k_subL
  · rw [vN_length]; k_subL
  · rename_i hk hne
    have e1 : ((k : Int) - 1).toNat = k - 1 := by k_subL
    rw [e1, getD_eq (show k - 1 < xs.length by k_subL)] at hne
    show K _
    rw [fin k he hzero (.inr ⟨by k_subL, by k_subL⟩)]; exact hK
  · rename_i hk heq
    have e1 : ((k : Int) - 1).toNat = k - 1 := by k_subL
    rw [e1, getD_eq (show k - 1 < xs.length by k_subL)] at heq
    refine ⟨k - 1, by k_subL, k - 1, ?_, by k_subL, rfl, fun i h1 h2 => ?_⟩
    · have : (k : Int) - 1 = ((k - 1 : Nat) : Int) := by k_subL
      rw [this]
    · rcases Nat.lt_or_ge i k with hlt | hge
      · have : i = k - 1 := by k_subL
        subst this; k_subL
      · exact hzero i hge h2
end
section
variable {prog : Program} {W : World} {p : Program} {loose : List Str} {mean : ExcName → Option Value} {mg mb : Str → Option Value}
theorem mul_step {B : Nat} (hB : 0 < B) {xs f : List Nat} {c m k : Nat} (hk : f.length = k) (hk' : k < xs.length) (hv : val B f + B ^ k * c = val B (xs.take k) * m) : val B (f ++ [(c + xs.getD k 0 * m) % B]) + B ^ (k + 1) * ((c + xs.getD k 0 * m) / B) = val B (xs.take (k + 1)) * m := by
  subst hk
  rw [step_val hB, val_take_succ' _ hk', Nat.mul_add, Nat.add_mul, Nat.mul_assoc]; k_subL
theorem mul_carry {B c x m : Nat} (hx : x < B) (hc : c < m) : (c + x * m) / B < m := by
  rw [Nat.div_lt_iff_lt_mul (by k_subL)]
  have : (x + 1) * m ≤ B * m := Nat.mul_le_mul_right _ hx
  rw [Nat.add_mul, Nat.one_mul] at this
  rw [Nat.mul_comm m B]; k_subL
theorem mul_end {B : Nat} (hB : 2 ≤ B) {a m : Nat} (hm : 0 < m) {f : List Nat} {c : Nat} (hf : Rng B f) (hl : f.length = (limbs B a).length) (hc : c < B) (hv : val B f + B ^ f.length * c = a * m) : (0 < c → f ++ [c] = limbs B (a * m)) ∧ (c = 0 → f = limbs B (a * m)) := by
  constructor
  · intro h0
    refine canon' hB (hf.snoc hc) (by rw [val_snoc]; exact hv) (.inr ?_)
    rw [List.length_append, List.length_singleton, Nat.add_sub_cancel, ← hv]
    exact Nat.le_trans (Nat.le_mul_of_pos_right _ h0) (Nat.le_add_left _ _)
  · rintro rfl
    refine canon' hB hf (by simpa using hv) ?_
    rcases limbs_hc hB a (a * m) (Nat.le_mul_of_pos_right _ hm) with h | h
    · rw [h] at hl; exact .inl (List.length_eq_zero_iff.mp hl)
    · exact .inr (hl ▸ h)
theorem t_mul_limb {w a m : Nat} (hw : Wd w) (ha : (limbs (2 ^ w) a).length ≤ 1000) (hm : 0 < m ∧ m < 2 ^ w) {K : V → Prop} (hK : K (L (2 ^ w) (a * m))) : Calls (GG prog W p loose mean mg mb) 1 (.ref 107) [L (2 ^ w) a, .int (m : Int), .int (w : Int)] K := by
  have hB := hw.two
  have hB0 : 0 < 2 ^ w := by k_subL
  have h8 := hw.hi
  have h256 := hw.le
  have hx := rng_limbs hB a
  unfold L
  refine calls_of_body d_mul_limb rfl fun D => ?_
  top_reprB
  top_strB <;> (try ((with_reducible first | show _ ≤ _ | show _ < _ | show (_ : Int) ≤ _ ∧ _ | show (_ : Nat) ≤ _ ∧ _ | show (_ : Int) < _ ∧ _ | show (_ : Nat) < _ ∧ _ | show (_ : Nat) = _ | show (_ : Int) = _); first | k_subL | (simp only [vN_length, List.length_append, List.length_cons, List.length_nil, List.length_replicate, List.length_set, List.length_take, List.length_drop, List.length_reverse] at * <;> k_subL)))
  · k_subL
  rename_i hne A
  top_raiseB0
  top_strB <;> (try ((with_reducible first | show _ ≤ _ | show _ < _ | show (_ : Int) ≤ _ ∧ _ | show (_ : Nat) ≤ _ ∧ _ | show (_ : Int) < _ ∧ _ | show (_ : Nat) < _ ∧ _ | show (_ : Nat) = _ | show (_ : Int) = _); first | k_subL | (simp only [vN_length, List.length_append, List.length_cons, List.length_nil, List.length_replicate, List.length_set, List.length_take, List.length_drop, List.length_reverse] at * <;> k_subL)))
  refine ⟨fun k σ => ∃ (f : List Nat) (c : Nat) (y : V), σ = [.list (vN (limbs (2 ^ w) a)), .int (m : Int), .int (w : Int), y, .own A (vN f), .int (c : Int), .int (((2 ^ w : Nat) : Int) - 1)] ∧ f.length = k ∧ Rng (2 ^ w) f ∧ c < m ∧ val (2 ^ w) f + (2 ^ w) ^ k * c = val (2 ^ w) ((limbs (2 ^ w) a).take k) * m, ⟨[], 0, _, rfl, rfl, Rng.nil, by k_subL, by simp [val]⟩, ?_, ?_⟩
  · rintro k x σ hk0 ⟨f, c, y, rfl, hfk, hf, hc1, hval⟩
    obtain ⟨hk, rfl⟩ := vN_get' hk0
    have h1 := hx.getD hB0 k
    top_strB <;> (try ((with_reducible first | show _ ≤ _ | show _ < _ | show (_ : Int) ≤ _ ∧ _ | show (_ : Nat) ≤ _ ∧ _ | show (_ : Int) < _ ∧ _ | show (_ : Nat) < _ ∧ _ | show (_ : Nat) = _ | show (_ : Int) = _); first | k_subL | (simp only [vN_length, List.length_append, List.length_cons, List.length_nil, List.length_replicate, List.length_set, List.length_take, List.length_drop, List.length_reverse] at * <;> k_subL)))
    refine ⟨f ++ [(c + (limbs (2 ^ w) a).getD k 0 * m) % 2 ^ w], (c + (limbs (2 ^ w) a).getD k 0 * m) / 2 ^ w, _, by rw [vN_snoc], by simp [hfk], hf.snoc (Nat.mod_lt _ hB0), mul_carry h1 hc1, mul_step hB0 hfk hk hval⟩
  · rintro σ ⟨f, c, y, rfl, hfl, hf, hc1, hval⟩
    rw [vN_length] at hfl
    rw [vN_length, List.take_length, val_limbs hB, ← hfl] at hval
    have E := mul_end hB hm.1 hf hfl (by k_subL) hval
    top_strB <;> (try ((with_reducible first | show _ ≤ _ | show _ < _ | show (_ : Int) ≤ _ ∧ _ | show (_ : Nat) ≤ _ ∧ _ | show (_ : Int) < _ ∧ _ | show (_ : Nat) < _ ∧ _ | show (_ : Nat) = _ | show (_ : Int) = _); first | k_subL | (simp only [vN_length, List.length_append, List.length_cons, List.length_nil, List.length_replicate, List.length_set, List.length_take, List.length_drop, List.length_reverse] at * <;> k_subL)))
    · rename_i hpos
      show K (.list (vN f ++ [V.int (c : Int)]))
      rw [vN_snoc, E.1 (by k_subL)]; exact hK
    · rename_i hpos
      show K (.list (vN f))
      rw [E.2 (by k_subL)]; exact hK
end
section
variable {prog : Program} {W : World} {p : Program} {loose : List Str} {mean : ExcName → Option Value} {mg mb : Str → Option Value}
theorem div_step {B m : Nat} (hB : 0 < B) (hm : 0 < m) {xs f : List Nat} {r i : Nat} (hi : i < xs.length) (hf : f.length = xs.length) (hv : val B (xs.drop (i + 1)) = val B (f.drop (i + 1)) * m + r) (t : Nat) (ht : t = r * B + xs.getD i 0) : val B (xs.drop i) = val B ((f.set i (t / m)).drop i) * m + t % m := by
  have hi' : i < (f.set i (t / m)).length := by rw [List.length_set]; k_subL
  rw [val_drop_succ' _ hi, val_drop_succ' _ hi', List.drop_set_of_lt (by k_subL), hv]
  have : (f.set i (t / m)).getD i 0 = t / m := by rw [getD_eq hi']; simp
  rw [this, Nat.add_mul, Nat.mul_add, Nat.mul_assoc, Nat.mul_comm B r]
  have h2 := Nat.div_add_mod t m
  rw [Nat.mul_comm] at h2
  k_subL
theorem t_divrem_limb {w a m : Nat} (hw : Wd w) (ha : (limbs (2 ^ w) a).length ≤ 1000) (hm : 0 < m ∧ m < 2 ^ w) {K : V → Prop} (hK : K (.tuple [L (2 ^ w) (a / m), .int ((a % m : Nat) : Int)])) : Calls (GG prog W p loose mean mg mb) 2 (.ref 114) [L (2 ^ w) a, .int (m : Int), .int (w : Int)] K := by
  have hB := hw.two
  have hB0 : 0 < 2 ^ w := by k_subL
  have h8 := hw.hi
  have h256 := hw.le
  have hx := rng_limbs hB a
  generalize hxs : limbs (2 ^ w) a = xs at *
  have hva : val (2 ^ w) xs = a := by rw [← hxs, val_limbs hB]
  unfold L
  rw [hxs]
  refine calls_of_body d_divrem_limb rfl fun D => ?_
  top_reprB
  top_strB <;> (try ((with_reducible first | show _ ≤ _ | show _ < _ | show (_ : Int) ≤ _ ∧ _ | show (_ : Nat) ≤ _ ∧ _ | show (_ : Int) < _ ∧ _ | show (_ : Nat) < _ ∧ _ | show (_ : Nat) = _ | show (_ : Int) = _); first | k_subL | (simp only [vN_length, List.length_append, List.length_cons, List.length_nil, List.length_replicate, List.length_set, List.length_take, List.length_drop, List.length_reverse] at * <;> k_subL)))
  · k_subL
  rename_i hne A
  top_raiseB0
  top_strB <;> (try ((with_reducible first | show _ ≤ _ | show _ < _ | show (_ : Int) ≤ _ ∧ _ | show (_ : Nat) ≤ _ ∧ _ | show (_ : Int) < _ ∧ _ | show (_ : Nat) < _ ∧ _ | show (_ : Nat) = _ | show (_ : Int) = _); first | k_subL | (simp only [vN_length, List.length_append, List.length_cons, List.length_nil, List.length_replicate, List.length_set, List.length_take, List.length_drop, List.length_reverse] at * <;> k_subL)))
  refine ⟨fun k σ => ∃ (f : List Nat) (r : Nat) (y : V), σ = [.list (vN xs), .int (m : Int), .int (w : Int), y, .own A (vN f), .int (r : Int)] ∧ f.length = xs.length ∧ Rng (2 ^ w) f ∧ r < m ∧ val (2 ^ w) (xs.drop (xs.length - k)) = val (2 ^ w) (f.drop (xs.length - k)) * m + r, ⟨List.replicate xs.length 0, 0, _, by rw [vN_length]; simp only [Int.toNat_natCast]; rw [vN_replicate]; rfl, by simp, Rng.replicate hB0 _, by k_subL, by simp [val]⟩, ?_, ?_⟩
  · rintro k x σ hk0 ⟨f, r, y, rfl, hfk, hf, hr, hval⟩
    obtain ⟨hk, rfl⟩ := downInts_get hk0
    simp only [vN_length] at hk
    have hk' : k < xs.length := by k_subL
    have h1 := hx.getD hB0 (xs.length - 1 - k)
    have e1 : ((xs.length : Int) - 1 - (k : Int)).toNat = xs.length - 1 - k := by k_subL
    have e2 : xs.length - k = xs.length - 1 - k + 1 := by k_subL
    have e3 : xs.length - (k + 1) = xs.length - 1 - k := by k_subL
    rw [e2] at hval
    simp only [vN_length]
    top_strB <;> (try ((with_reducible first | show _ ≤ _ | show _ < _ | show (_ : Int) ≤ _ ∧ _ | show (_ : Nat) ≤ _ ∧ _ | show (_ : Int) < _ ∧ _ | show (_ : Nat) < _ ∧ _ | show (_ : Nat) = _ | show (_ : Int) = _); first | k_subL | (simp only [vN_length, List.length_append, List.length_cons, List.length_nil, List.length_replicate, List.length_set, List.length_take, List.length_drop, List.length_reverse] at * <;> k_subL)))
    rw [e1]
    have hq : (r * 2 ^ w + xs.getD (xs.length - 1 - k) 0) / m < 2 ^ w := by
      rw [Nat.div_lt_iff_lt_mul hm.1]
      have : (r + 1) * 2 ^ w ≤ m * 2 ^ w := Nat.mul_le_mul_right _ hr
      rw [Nat.mul_comm (2 ^ w) m]; rw [Nat.add_mul] at this; k_subL
    refine ⟨f.set (xs.length - 1 - k) ((r * 2 ^ w + xs.getD (xs.length - 1 - k) 0) / m), (r * 2 ^ w + xs.getD (xs.length - 1 - k) 0) % m, _, by rw [vN_set], by simp [hfk], hf.set _ hq, Nat.mod_lt _ hm.1, ?_⟩
    rw [e3]
    exact div_step hB0 hm.1 (by k_subL) hfk hval _ rfl
  · rintro σ ⟨f, r, y, rfl, hfl, hf, hr, hval⟩
    simp only [vN_length, downInts_length] at hval
    have e0 : xs.length - ((xs.length : Int) - 1 - -1).toNat = 0 := by k_subL
    rw [e0, List.drop_zero, List.drop_zero, hva] at hval
    top_strB <;> (try ((with_reducible first | show _ ≤ _ | show _ < _ | show (_ : Int) ≤ _ ∧ _ | show (_ : Nat) ≤ _ ∧ _ | show (_ : Int) < _ ∧ _ | show (_ : Nat) < _ ∧ _ | show (_ : Nat) = _ | show (_ : Int) = _); first | k_subL | (simp only [vN_length, List.length_append, List.length_cons, List.length_nil, List.length_replicate, List.length_set, List.length_take, List.length_drop, List.length_reverse] at * <;> k_subL)))
    refine t_normal hB hf (by k_subL) ?_
    top_strB <;> (try ((with_reducible first | show _ ≤ _ | show _ < _ | show (_ : Int) ≤ _ ∧ _ | show (_ : Nat) ≤ _ ∧ _ | show (_ : Int) < _ ∧ _ | show (_ : Nat) < _ ∧ _ | show (_ : Nat) = _ | show (_ : Int) = _); first | k_subL | (simp only [vN_length, List.length_append, List.length_cons, List.length_nil, List.length_replicate, List.length_set, List.length_take, List.length_drop, List.length_reverse] at * <;> k_subL)))
    have e4 : val (2 ^ w) f = a / m := by rw [hval, Nat.add_comm, Nat.add_mul_div_right _ _ hm.1, Nat.div_eq_of_lt hr, Nat.zero_add]
    have e5 : r = a % m := by rw [hval, Nat.add_comm, Nat.add_mul_mod_self_right, Nat.mod_eq_of_lt hr]
    show K (.tuple [L (2 ^ w) (val (2 ^ w) f), .int (r : Int)])
    rw [e4, e5]; exact hK
theorem t_shift_left {w a n : Nat} (hw : Wd w) (ha : (limbs (2 ^ w) a).length ≤ 1000) (hn : n < w) {K : V → Prop} (hK : K (L (2 ^ w) (a * 2 ^ n))) : Calls (GG prog W p loose mean mg mb) 1 (.ref 121) [L (2 ^ w) a, .int (n : Int), .int (w : Int)] K := by
  have hB := hw.two
  have hB0 : 0 < 2 ^ w := by k_subL
  have h8 := hw.hi
  have h256 := hw.le
  have hx := rng_limbs hB a
  have h2n : 2 ^ n < 2 ^ w := Nat.pow_lt_pow_right (by k_subL) hn
  have h1n : 0 < 2 ^ n := Nat.two_pow_pos n
  unfold L
  refine calls_of_body d_shift_left rfl fun D => ?_
  top_reprB
  top_strB <;> (try ((with_reducible first | show _ ≤ _ | show _ < _ | show (_ : Int) ≤ _ ∧ _ | show (_ : Nat) ≤ _ ∧ _ | show (_ : Int) < _ ∧ _ | show (_ : Nat) < _ ∧ _ | show (_ : Nat) = _ | show (_ : Int) = _); first | k_subL | (simp only [vN_length, List.length_append, List.length_cons, List.length_nil, List.length_replicate, List.length_set, List.length_take, List.length_drop, List.length_reverse] at * <;> k_subL)))
  · rename_i h0 A
    have : a = 0 := (limbs_eq_nil hB).mp (List.length_eq_zero_iff.mp (by rw [vN_length] at h0; k_subL))
    subst this
    rw [Nat.zero_mul, L, limbs_zero] at hK; exact hK
  · rw [Nat.div_eq_of_lt hn]; simp
  rename_i hne A
  simp only [Nat.div_eq_of_lt hn, Nat.mod_eq_of_lt hn]
  top_raiseB0
  top_strB <;> (try ((with_reducible first | show _ ≤ _ | show _ < _ | show (_ : Int) ≤ _ ∧ _ | show (_ : Nat) ≤ _ ∧ _ | show (_ : Int) < _ ∧ _ | show (_ : Nat) < _ ∧ _ | show (_ : Nat) = _ | show (_ : Int) = _); first | k_subL | (simp only [vN_length, List.length_append, List.length_cons, List.length_nil, List.length_replicate, List.length_set, List.length_take, List.length_drop, List.length_reverse] at * <;> k_subL)))
  refine ⟨fun k σ => ∃ (f : List Nat) (c : Nat) (y : V), σ = [.list (vN (limbs (2 ^ w) a)), .int (n : Int), .int (w : Int), y, .int ((0 : Nat) : Int), .int (n : Int), .own A (vN f), .int (c : Int), .int (((2 ^ w : Nat) : Int) - 1)] ∧ f.length = k ∧ Rng (2 ^ w) f ∧ c < 2 ^ n ∧ val (2 ^ w) f + (2 ^ w) ^ k * c = val (2 ^ w) ((limbs (2 ^ w) a).take k) * 2 ^ n, ⟨[], 0, _, rfl, rfl, Rng.nil, by k_subL, by simp [val]⟩, ?_, ?_⟩
  · rintro k x σ hk0 ⟨f, c, y, rfl, hfk, hf, hc1, hval⟩
    obtain ⟨hk, rfl⟩ := vN_get' hk0
    have h1 := hx.getD hB0 k
    top_strB <;> (try ((with_reducible first | show _ ≤ _ | show _ < _ | show (_ : Int) ≤ _ ∧ _ | show (_ : Nat) ≤ _ ∧ _ | show (_ : Int) < _ ∧ _ | show (_ : Nat) < _ ∧ _ | show (_ : Nat) = _ | show (_ : Int) = _); first | k_subL | (simp only [vN_length, List.length_append, List.length_cons, List.length_nil, List.length_replicate, List.length_set, List.length_take, List.length_drop, List.length_reverse] at * <;> k_subL)))
    refine ⟨f ++ [(c + (limbs (2 ^ w) a).getD k 0 * 2 ^ n) % 2 ^ w], (c + (limbs (2 ^ w) a).getD k 0 * 2 ^ n) / 2 ^ w, _, by rw [vN_snoc], by simp [hfk], hf.snoc (Nat.mod_lt _ hB0), mul_carry h1 hc1, mul_step hB0 hfk hk hval⟩
  · rintro σ ⟨f, c, y, rfl, hfl, hf, hc1, hval⟩
    rw [vN_length] at hfl
    rw [vN_length, List.take_length, val_limbs hB, ← hfl] at hval
    have E := mul_end hB h1n hf hfl (by k_subL) hval
    top_strB <;> (try ((with_reducible first | show _ ≤ _ | show _ < _ | show (_ : Int) ≤ _ ∧ _ | show (_ : Nat) ≤ _ ∧ _ | show (_ : Int) < _ ∧ _ | show (_ : Nat) < _ ∧ _ | show (_ : Nat) = _ | show (_ : Int) = _); first | k_subL | (simp only [vN_length, List.length_append, List.length_cons, List.length_nil, List.length_replicate, List.length_set, List.length_take, List.length_drop, List.length_reverse] at * <;> k_subL)))
    · rename_i hpos
      show K (.list (vN f ++ [V.int (c : Int)]))
      rw [vN_snoc, E.1 (by k_subL)]; exact hK
    · rename_i hpos
      show K (.list (vN f))
      rw [E.2 (by k_subL)]; exact hK
end
section
variable {prog : Program} {W : World} {p : Program} {loose : List Str} {mean : ExcName → Option Value} {mg mb : Str → Option Value}
theorem t_plain_of {w a : Nat} (hw : Wd w) (ha : a < 2 ^ 62) {K : V → Prop} (hK : K (.int (a : Int))) : Calls (GG prog W p loose mean mg mb) 1 (.ref 142) [L (2 ^ w) a, .int (w : Int)] K := by
  have hB := hw.two
  have hB0 : 0 < 2 ^ w := by k_subL
  have h8 := hw.hi
  have hl := limbs_62 hw ha
  have hx := rng_limbs hB a
  generalize hxs : limbs (2 ^ w) a = xs at *
  have hva : val (2 ^ w) xs = a := by rw [← hxs, val_limbs hB]
  unfold L
  rw [hxs]
  have hd : ∀ i, i ≤ xs.length → val (2 ^ w) (xs.drop i) ≤ a := fun i hi => by rw [val_drop_div hB0 hx i hi, hva]; exact Nat.div_le_self _ _
  refine calls_of_body d_plain_of rfl fun D => ?_
  top_reprB
  top_strB <;> (try ((with_reducible first | show _ ≤ _ | show _ < _ | show (_ : Int) ≤ _ ∧ _ | show (_ : Nat) ≤ _ ∧ _ | show (_ : Int) < _ ∧ _ | show (_ : Nat) < _ ∧ _ | show (_ : Nat) = _ | show (_ : Int) = _); first | k_subL | (simp only [vN_length, List.length_append, List.length_cons, List.length_nil, List.length_replicate, List.length_set, List.length_take, List.length_drop, List.length_reverse] at * <;> k_subL)))
  top_raiseB0
  top_strB <;> (try ((with_reducible first | show _ ≤ _ | show _ < _ | show (_ : Int) ≤ _ ∧ _ | show (_ : Nat) ≤ _ ∧ _ | show (_ : Int) < _ ∧ _ | show (_ : Nat) < _ ∧ _ | show (_ : Nat) = _ | show (_ : Int) = _); first | k_subL | (simp only [vN_length, List.length_append, List.length_cons, List.length_nil, List.length_replicate, List.length_set, List.length_take, List.length_drop, List.length_reverse] at * <;> k_subL)))
  rw [vN_reverse]
  refine ⟨fun k σ => ∃ (y : V), σ = [.list (vN xs), .int (w : Int), .int ((val (2 ^ w) (xs.drop (xs.length - k)) : Nat) : Int), y], ⟨V.undef, by simp [val]⟩, ?_, ?_⟩
  · rintro k x σ hk0 ⟨y, rfl⟩
    obtain ⟨hk, rfl⟩ := vN_get' hk0
    rw [List.length_reverse] at hk
    have h1 := hd (xs.length - k) (by k_subL)
    top_strB <;> (try ((with_reducible first | show _ ≤ _ | show _ < _ | show (_ : Int) ≤ _ ∧ _ | show (_ : Nat) ≤ _ ∧ _ | show (_ : Int) < _ ∧ _ | show (_ : Nat) < _ ∧ _ | show (_ : Nat) = _ | show (_ : Int) = _); first | k_subL | (simp only [vN_length, List.length_append, List.length_cons, List.length_nil, List.length_replicate, List.length_set, List.length_take, List.length_drop, List.length_reverse] at * <;> k_subL)))
    refine ⟨.int ((xs.reverse.getD k 0 : Nat) : Int), ?_⟩
    have e2 : xs.length - k = xs.length - (k + 1) + 1 := by k_subL
    have e3 : xs.reverse.getD k 0 = xs.getD (xs.length - (k + 1)) 0 := by
      rw [getD_eq (by simp; k_subL), getD_eq (by k_subL), List.getElem_reverse]
      congr 1; k_subL
    rw [e3, val_drop_succ' _ (by k_subL : xs.length - (k + 1) < xs.length), ← e2, Nat.mul_comm (2 ^ w), Nat.add_comm (xs.getD _ _)]
  · rintro σ ⟨y, rfl⟩
    simp only [vN_length, List.length_reverse, Nat.sub_self, List.drop_zero, hva]
    top_strB <;> (try ((with_reducible first | show _ ≤ _ | show _ < _ | show (_ : Int) ≤ _ ∧ _ | show (_ : Nat) ≤ _ ∧ _ | show (_ : Int) < _ ∧ _ | show (_ : Nat) < _ ∧ _ | show (_ : Nat) = _ | show (_ : Int) = _); first | k_subL | (simp only [vN_length, List.length_append, List.length_cons, List.length_nil, List.length_replicate, List.length_set, List.length_take, List.length_drop, List.length_reverse] at * <;> k_subL)))
    exact hK
theorem t_bits {w t : Nat} {K : V → Prop} (hK : K (.int ((Builtin.Int.intBits (t : Int) : Nat) : Int))) : Calls (GG prog W p loose mean mg mb) 1 (.ref 135) [.list (vN [t]), .int (w : Int)] K := by
  refine calls_of_body d_bits rfl fun D => ?_
  top_reprB
  top_strB <;> (try ((with_reducible first | show _ ≤ _ | show _ < _ | show (_ : Int) ≤ _ ∧ _ | show (_ : Nat) ≤ _ ∧ _ | show (_ : Int) < _ ∧ _ | show (_ : Nat) < _ ∧ _ | show (_ : Nat) = _ | show (_ : Int) = _); first | k_subL | (simp only [vN_length, List.length_append, List.length_cons, List.length_nil, List.length_replicate, List.length_set, List.length_take, List.length_drop, List.length_reverse] at * <;> k_subL)))
  · have e : ((↑(vN [t]).length : Int) - 1) * (w : Int) = 0 := by rw [vN_length]; simp
    rw [e, Int.zero_add]; exact hK
  · rename_i h; exact absurd (by rw [vN_length]; simp) h
theorem shr_digit {w n x y : Nat} (hn : n ≤ w) (hx : x < 2 ^ w) : Builtin.bitAnd (Builtin.bitOr ((x / 2 ^ n : Nat) : Int) ((y : Int) * 2 ^ ((w : Int) - (n : Int)).toNat)) (((2 ^ w : Nat) : Int) - 1) = (((x / 2 ^ n + y * 2 ^ (w - n)) % 2 ^ w : Nat) : Int) := by
  have e1 : ((w : Int) - (n : Int)).toNat = w - n := by k_subL
  have e2 : (y : Int) * 2 ^ (w - n) = ((y * 2 ^ (w - n) : Nat) : Int) := by push_cast; rfl
  have h3 : x / 2 ^ n < 2 ^ (w - n) := by
    rw [Nat.div_lt_iff_lt_mul (Nat.two_pow_pos n), ← Nat.pow_add]
    rwa [Nat.sub_add_cancel hn]
  rw [e1, e2, or_shift' _ _ _ h3, mask_nat]
theorem shr_digit0 {w n x : Nat} (hn : n ≤ w) (hx : x < 2 ^ w) : Builtin.bitAnd (Builtin.bitOr ((x / 2 ^ n : Nat) : Int) (0 * 2 ^ ((w : Int) - (n : Int)).toNat)) (((2 ^ w : Nat) : Int) - 1) = (((x / 2 ^ n + 0 * 2 ^ (w - n)) % 2 ^ w : Nat) : Int) := by
  have h := shr_digit (y := 0) hn hx
  rwa [Int.natCast_zero] at h
theorem shr_step {w n k : Nat} (hn : n ≤ w) {xs : List Nat} (hx : Rng (2 ^ w) xs) (hk : k < xs.length) : val (2 ^ w) (xs.drop k) / 2 ^ n = (xs.getD k 0 / 2 ^ n + xs.getD (k + 1) 0 * 2 ^ (w - n)) % 2 ^ w + 2 ^ w * (val (2 ^ w) (xs.drop (k + 1)) / 2 ^ n) := by
  have eB : 2 ^ w = 2 ^ n * 2 ^ (w - n) := by rw [← Nat.pow_add, Nat.add_sub_cancel' hn]
  have hn0 := Nat.two_pow_pos n
  have hw0 := Nat.two_pow_pos w
  rw [val_drop_succ' _ hk]
  generalize hY : val (2 ^ w) (xs.drop (k + 1)) = Y
  have hYm : Y % 2 ^ w = xs.getD (k + 1) 0 % 2 ^ w := by
    rcases Nat.lt_or_ge (k + 1) xs.length with h | h
    · rw [← hY, val_drop_succ' _ h, Nat.add_mul_mod_self_left]
    · rw [← hY, List.drop_eq_nil_of_le h, List.getD_eq_getElem?_getD, List.getElem?_eq_none h]; rfl
  have e1 : (xs.getD k 0 + 2 ^ w * Y) / 2 ^ n = xs.getD k 0 / 2 ^ n + 2 ^ (w - n) * Y := by
    rw [eB, Nat.mul_assoc, Nat.add_mul_div_left _ _ hn0]
  have e2 : (xs.getD k 0 / 2 ^ n + xs.getD (k + 1) 0 * 2 ^ (w - n)) % 2 ^ w = (xs.getD k 0 / 2 ^ n + 2 ^ (w - n) * Y) % 2 ^ w := by
    rw [Nat.add_mod, Nat.add_mod _ (2 ^ (w - n) * Y), Nat.mul_mod, Nat.mul_mod (2 ^ (w - n)), hYm, Nat.mul_comm (_ % _)]
  have h3 : xs.getD k 0 / 2 ^ n < 2 ^ (w - n) := by
    rw [Nat.div_lt_iff_lt_mul hn0, Nat.mul_comm, ← eB]; exact hx.getD hw0 k
  have e3 : (xs.getD k 0 / 2 ^ n + 2 ^ (w - n) * Y) / 2 ^ w = Y / 2 ^ n := by
    rw [eB, Nat.mul_comm (2 ^ n), ← Nat.div_div_eq_div_mul, Nat.add_mul_div_left _ _ (Nat.two_pow_pos _), Nat.div_eq_of_lt h3, Nat.zero_add]
  rw [e1, e2, ← e3, Nat.mod_add_div]
theorem t_shift_right {w a n : Nat} (hw : Wd w) (ha : (limbs (2 ^ w) a).length ≤ 1000) (hn : n < w) {K : V → Prop} (hK : K (L (2 ^ w) (a / 2 ^ n))) : Calls (GG prog W p loose mean mg mb) 2 (.ref 128) [L (2 ^ w) a, .int (n : Int), .int (w : Int)] K := by
  have hB := hw.two
  have hB0 : 0 < 2 ^ w := by k_subL
  have h8 := hw.hi
  have h256 := hw.le
  have hx := rng_limbs hB a
  have h1n : 0 < 2 ^ n := Nat.two_pow_pos n
  generalize hxs : limbs (2 ^ w) a = xs at *
  have hva : val (2 ^ w) xs = a := by rw [← hxs, val_limbs hB]
  unfold L
  rw [hxs]
  refine calls_of_body d_shift_right rfl fun D => ?_
  top_reprB
  top_strB <;> (try ((with_reducible first | show _ ≤ _ | show _ < _ | show (_ : Int) ≤ _ ∧ _ | show (_ : Nat) ≤ _ ∧ _ | show (_ : Int) < _ ∧ _ | show (_ : Nat) < _ ∧ _ | show (_ : Nat) = _ | show (_ : Int) = _); first | k_subL | (simp only [vN_length, List.length_append, List.length_cons, List.length_nil, List.length_replicate, List.length_set, List.length_take, List.length_drop, List.length_reverse] at * <;> k_subL)))
  rename_i A
  simp only [Nat.div_eq_of_lt hn, Nat.mod_eq_of_lt hn]
  top_raiseB0
  top_strB <;> (try ((with_reducible first | show _ ≤ _ | show _ < _ | show (_ : Int) ≤ _ ∧ _ | show (_ : Nat) ≤ _ ∧ _ | show (_ : Int) < _ ∧ _ | show (_ : Nat) < _ ∧ _ | show (_ : Nat) = _ | show (_ : Int) = _); first | k_subL | (simp only [vN_length, List.length_append, List.length_cons, List.length_nil, List.length_replicate, List.length_set, List.length_take, List.length_drop, List.length_reverse] at * <;> k_subL)))
  refine ⟨fun k σ => ∃ (f : List Nat) (y z : V), σ = [.list (vN xs), .int (n : Int), .int (w : Int), y, .int ((0 : Nat) : Int), .int (n : Int), .own A (vN f), .int (((2 ^ w : Nat) : Int) - 1), z] ∧ f.length = k ∧ Rng (2 ^ w) f ∧ val (2 ^ w) f + (2 ^ w) ^ k * (val (2 ^ w) (xs.drop k) / 2 ^ n) = a / 2 ^ n, ⟨[], _, _, rfl, rfl, Rng.nil, by simp [val, hva]⟩, ?_, ?_⟩
  · rintro k x σ hk0 ⟨f, y, z, rfl, hfk, hf, hval⟩
    obtain ⟨hk, rfl⟩ := upInts_get hk0
    simp only [vN_length] at hk
    have hk' : k < xs.length := by k_subL
    have h1 := hx.getD hB0 k
    have e1 : (((0 : Nat) : Int) + (k : Int)).toNat = k := by k_subL
    have e2 : (((0 : Nat) : Int) + (k : Int) + 1).toNat = k + 1 := by k_subL
    have fin : val (2 ^ w) (f ++ [(xs.getD k 0 / 2 ^ n + xs.getD (k + 1) 0 * 2 ^ (w - n)) % 2 ^ w]) + (2 ^ w) ^ (k + 1) * (val (2 ^ w) (xs.drop (k + 1)) / 2 ^ n) = a / 2 ^ n := by
      rw [val_snoc, hfk, ← hval, shr_step (Nat.le_of_lt hn) hx hk', Nat.pow_succ, Nat.mul_assoc, Nat.mul_add, Nat.add_assoc]
    top_strB <;> (try ((with_reducible first | show _ ≤ _ | show _ < _ | show (_ : Int) ≤ _ ∧ _ | show (_ : Nat) ≤ _ ∧ _ | show (_ : Int) < _ ∧ _ | show (_ : Nat) < _ ∧ _ | show (_ : Nat) = _ | show (_ : Int) = _); first | k_subL | (simp only [vN_length, List.length_append, List.length_cons, List.length_nil, List.length_replicate, List.length_set, List.length_take, List.length_drop, List.length_reverse] at * <;> k_subL)))
    · rw [e2]; have := hx.getD hB0 (k + 1); k_subL
    · rw [e1, e2, shr_digit (Nat.le_of_lt hn) h1]
      exact ⟨f ++ [_], _, _, by rw [vN_snoc], by simp [hfk], hf.snoc (Nat.mod_lt _ hB0), fin⟩
    · rename_i hlast
      have h0 : xs.getD (k + 1) 0 = 0 := by rw [List.getD_eq_getElem?_getD, List.getElem?_eq_none (by simp only [vN_length] at hlast; k_subL)]; rfl
      rw [e1, shr_digit0 (Nat.le_of_lt hn) h1]
      rw [h0] at fin
      exact ⟨f ++ [_], _, _, by rw [vN_snoc], by simp [hfk], hf.snoc (Nat.mod_lt _ hB0), fin⟩
  · rintro σ ⟨f, y, z, rfl, hfl, hf, hval⟩
    simp only [vN_length, upInts_length] at hfl hval
    have e0 : ((xs.length : Int) - ((0 : Nat) : Int)).toNat = xs.length := by k_subL
    rw [e0] at hfl hval
    rw [List.drop_length, val, Nat.zero_div, Nat.mul_zero, Nat.add_zero] at hval
    top_strB <;> (try ((with_reducible first | show _ ≤ _ | show _ < _ | show (_ : Int) ≤ _ ∧ _ | show (_ : Nat) ≤ _ ∧ _ | show (_ : Int) < _ ∧ _ | show (_ : Nat) < _ ∧ _ | show (_ : Nat) = _ | show (_ : Int) = _); first | k_subL | (simp only [vN_length, List.length_append, List.length_cons, List.length_nil, List.length_replicate, List.length_set, List.length_take, List.length_drop, List.length_reverse] at * <;> k_subL)))
    refine t_normal hB hf (by k_subL) ?_
    rw [hval]; exact hK
end
section
variable {prog : Program} {W : World} {p : Program} {loose : List Str} {mean : ExcName → Option Value} {mg mb : Str → Option Value}
theorem enumV_get' {xs : List Nat} {j : Nat} {x : V} (h : (enumV (vN xs))[j]? = some x) : j < xs.length ∧ x = .tuple [.int (j : Int), .int ((xs.getD j 0 : Nat) : Int)] := by
  obtain ⟨hj, rfl⟩ := enumV_get h
  exact ⟨hj, by rw [getD_eq hj]⟩
theorem getD_set {xs : List Nat} {i j y : Nat} (h : i < xs.length) : (xs.set i y).getD j 0 = if i = j then y else xs.getD j 0 := by
  rw [List.getD_eq_getElem?_getD, List.getD_eq_getElem?_getD, List.getElem?_set]
  by_cases e : i = j
  · subst e; simp [h]
  · simp [e]
theorem mul_carry2 {B t : Nat} (hB : 0 < B) {c f x y : Nat} (hc : c < B) (hf : f < B) (hx : x < B) (hy : y < B) : (c + (f + x * y)) / B < B := by
  rw [Nat.div_lt_iff_lt_mul hB]
  have h1 : x * y ≤ (B - 1) * (B - 1) := Nat.mul_le_mul (by k_subL) (by k_subL)
  have h2 : (B - 1) * (B - 1) + 2 * (B - 1) + 1 = B * B := by
    obtain ⟨d, rfl⟩ : ∃ d, B = d + 1 := ⟨B - 1, by k_subL⟩
    rw [Nat.add_sub_cancel, Nat.mul_add, Nat.add_mul]; k_subL
  k_subL
theorem mul_inner {B : Nat} (hB : 0 < B) {f : List Nat} {i t c x : Nat} (hi : i < f.length) (ht : t = c + (f.getD i 0 + x)) : val B (f.set i (t % B)) + B ^ (i + 1) * (t / B) = val B f + B ^ i * (c + x) := by
  have h1 := val_set' B hi (t % B)
  have h2 : B ^ i * (t % B) + B ^ (i + 1) * (t / B) = B ^ i * t := by rw [Nat.pow_succ, Nat.mul_assoc, ← Nat.mul_add, Nat.mod_add_div]
  have h3 : B ^ i * t = B ^ i * (c + x) + B ^ i * f.getD i 0 := by rw [ht, ← Nat.mul_add]; congr 1; k_subL
  k_subL
theorem t_mul_school {w a b : Nat} (hw : Wd w) (ha : (limbs (2 ^ w) a).length ≤ 500) (hb : (limbs (2 ^ w) b).length ≤ 500) {K : V → Prop} (hK : K (L (2 ^ w) (a * b))) : Calls (GG prog W p loose mean mg mb) 2 (.ref 273) [L (2 ^ w) a, L (2 ^ w) b, .int (w : Int)] K := by
  have hB := hw.two
  have hB0 : 0 < 2 ^ w := by k_subL
  have h8 := hw.hi
  have h256 := hw.le
  have hx := rng_limbs hB a
  have hy := rng_limbs hB b
  unfold L
  have hva : val (2 ^ w) (limbs (2 ^ w) a) = a := val_limbs hB a
  have hvb : val (2 ^ w) (limbs (2 ^ w) b) = b := val_limbs hB b
  generalize limbs (2 ^ w) a = xs at *
  generalize limbs (2 ^ w) b = ys at *
  refine calls_of_body d_mul_school rfl fun D => ?_
  top_reprB
  top_strB <;> (try ((with_reducible first | show _ ≤ _ | show _ < _ | show (_ : Int) ≤ _ ∧ _ | show (_ : Nat) ≤ _ ∧ _ | show (_ : Int) < _ ∧ _ | show (_ : Nat) < _ ∧ _ | show (_ : Nat) = _ | show (_ : Int) = _); first | k_subL | (simp only [vN_length, List.length_append, List.length_cons, List.length_nil, List.length_replicate, List.length_set, List.length_take, List.length_drop, List.length_reverse] at * <;> k_subL)))
  rename_i A
  top_raiseB0
  top_strB
  refine ⟨fun k σ => ∃ (f : List Nat) (y1 y2 y3 y4 y5 : V), σ = [.list (vN xs), .list (vN ys), .int (w : Int), .own A (vN f), .int (((2 ^ w : Nat) : Int) - 1), y1, y2, y3, y4, y5] ∧ f.length = xs.length + ys.length ∧ Rng (2 ^ w) f ∧ (∀ i, k + ys.length ≤ i → f.getD i 0 = 0) ∧ val (2 ^ w) f = val (2 ^ w) (xs.take k) * val (2 ^ w) ys, ⟨List.replicate (xs.length + ys.length) 0, _, _, _, _, _, by simp only [vN_length]; rw [Int.toNat_natCast, vN_replicate], by simp, Rng.replicate hB0 _, fun i _ => by rw [List.getD_eq_getElem?_getD, List.getElem?_replicate]; split <;> rfl, by simp [val, val_replicate]⟩, ?_, ?_⟩
  · rintro k x σ hk0 ⟨f0, y1, y2, y3, y4, y5, rfl, hfl0, hf0, hz0, hval0⟩
    obtain ⟨hk, rfl⟩ := enumV_get' hk0
    have h1 := hx.getD hB0 k
    top_strB
    top_raiseB0
    top_strB
    refine ⟨fun j σ => ∃ (f : List Nat) (c : Nat) (y4 y5 : V), σ = [.list (vN xs), .list (vN ys), .int (w : Int), .own A (vN f), .int (((2 ^ w : Nat) : Int) - 1), .int (k : Int), .int ((xs.getD k 0 : Nat) : Int), .int (c : Int), y4, y5] ∧ f.length = xs.length + ys.length ∧ Rng (2 ^ w) f ∧ c < 2 ^ w ∧ (∀ i, k + ys.length ≤ i → f.getD i 0 = 0) ∧ val (2 ^ w) f + (2 ^ w) ^ (k + j) * c = val (2 ^ w) f0 + (2 ^ w) ^ k * (xs.getD k 0 * val (2 ^ w) (ys.take j)), ⟨f0, 0, _, _, rfl, hfl0, hf0, hB0, hz0, by simp [val]⟩, ?_, ?_⟩
    · rintro j x σ hj0 ⟨f, c, y4, y5, rfl, hfl, hf, hc, hz, hval⟩
      obtain ⟨hj, rfl⟩ := enumV_get' hj0
      have h2 := hy.getD hB0 j
      have h3 := hf.getD hB0 (k + j)
      have e1 : ((k : Int) + (j : Int)).toNat = k + j := by k_subL
      top_strB <;> (try ((with_reducible first | show _ ≤ _ | show _ < _ | show (_ : Int) ≤ _ ∧ _ | show (_ : Nat) ≤ _ ∧ _ | show (_ : Int) < _ ∧ _ | show (_ : Nat) < _ ∧ _ | show (_ : Nat) = _ | show (_ : Int) = _); first | k_subL | (simp only [vN_length, List.length_append, List.length_cons, List.length_nil, List.length_replicate, List.length_set, List.length_take, List.length_drop, List.length_reverse] at * <;> k_subL)))
      simp only [Int.toNat_natCast] at *
      have hi : k + j < f.length := by k_subL
      refine ⟨f.set (k + j) ((c + (f.getD (k + j) 0 + xs.getD k 0 * ys.getD j 0)) % 2 ^ w), (c + (f.getD (k + j) 0 + xs.getD k 0 * ys.getD j 0)) / 2 ^ w, _, _, by rw [vN_set], by simp [hfl], hf.set _ (Nat.mod_lt _ hB0), mul_carry2 (t := 0) hB0 hc h3 h1 h2, fun i hi' => by rw [getD_set hi, if_neg (by k_subL)]; exact hz i hi', ?_⟩
      rw [show k + (j + 1) = k + j + 1 from rfl, mul_inner hB0 hi rfl, val_take_succ' _ hj, Nat.mul_add, ← Nat.add_assoc, hval, Nat.mul_add (xs.getD k 0), Nat.mul_add ((2 ^ w) ^ k), Nat.add_assoc]
      congr 2
      rw [Nat.pow_add, Nat.mul_assoc]; congr 1; exact Nat.mul_left_comm _ _ _
    · rintro σ ⟨f, c, y4, y5, rfl, hfl, hf, hc, hz, hval⟩
      simp only [enumV_length, vN_length, List.take_length] at hval
      top_strB <;> (try ((with_reducible first | show _ ≤ _ | show _ < _ | show (_ : Int) ≤ _ ∧ _ | show (_ : Nat) ≤ _ ∧ _ | show (_ : Int) < _ ∧ _ | show (_ : Nat) < _ ∧ _ | show (_ : Nat) = _ | show (_ : Int) = _); first | k_subL | (simp only [vN_length, List.length_append, List.length_cons, List.length_nil, List.length_replicate, List.length_set, List.length_take, List.length_drop, List.length_reverse] at * <;> k_subL)))
      simp only [vN_length, Int.toNat_natCast] at *
      have hi : k + ys.length < f.length := by k_subL
      refine ⟨f.set (k + ys.length) c, _, _, _, _, _, by rw [vN_set], by simp [hfl], hf.set _ hc, fun i hi' => by rw [getD_set hi, if_neg (by k_subL)]; exact hz i (by k_subL), ?_⟩
      have h5 := val_set' (2 ^ w) hi c
      rw [hz _ (Nat.le_refl _), Nat.mul_zero, Nat.add_zero] at h5
      rw [h5, hval, hval0, val_take_succ' _ hk, Nat.add_mul, Nat.mul_assoc]
  · rintro σ ⟨f, y1, y2, y3, y4, y5, rfl, hfl, hf, hz, hval⟩
    simp only [enumV_length, vN_length, List.take_length, hva, hvb] at hval
    top_strB <;> (try ((with_reducible first | show _ ≤ _ | show _ < _ | show (_ : Int) ≤ _ ∧ _ | show (_ : Nat) ≤ _ ∧ _ | show (_ : Int) < _ ∧ _ | show (_ : Nat) < _ ∧ _ | show (_ : Nat) = _ | show (_ : Int) = _); first | k_subL | (simp only [vN_length, List.length_append, List.length_cons, List.length_nil, List.length_replicate, List.length_set, List.length_take, List.length_drop, List.length_reverse] at * <;> k_subL)))
    refine t_normal hB hf (by k_subL) ?_
    top_strB
    rw [hval]; exact hK
end
section
variable {prog : Program} {W : World} {p : Program} {loose : List Str} {mean : ExcName → Option Value} {mg mb : Str → Option Value}
theorem limbs_one {B m : Nat} (hm : 0 < m ∧ m < B) : limbs B m = [m] := by
  rw [limbs_pos (by k_subL) hm.1, Nat.mod_eq_of_lt hm.2, Nat.div_eq_of_lt hm.2, limbs_zero]
theorem t_divrem_small {w a m : Nat} (hw : Wd w) (ha : (limbs (2 ^ w) a).length ≤ 1000) (hm : 0 < m ∧ m < 2 ^ w) {K : V → Prop} (hK : K (.tuple [L (2 ^ w) (a / m), L (2 ^ w) (a % m)])) : Calls (GG prog W p loose mean mg mb) 3 (.ref 280) [L (2 ^ w) a, L (2 ^ w) m, .int (w : Int)] K := by
  have e : L (2 ^ w) m = .list (vN [m]) := by rw [L, limbs_one hm]
  rw [e]
  refine calls_of_body d_divrem_small rfl fun D => ?_
  top_reprB
  unfold L
  top_strB <;> (try ((with_reducible first | show _ ≤ _ | show _ < _ | show (_ : Int) ≤ _ ∧ _ | show (_ : Nat) ≤ _ ∧ _ | show (_ : Int) < _ ∧ _ | show (_ : Nat) < _ ∧ _ | show (_ : Nat) = _ | show (_ : Int) = _); first | k_subL | (simp only [vN_length, List.length_append, List.length_cons, List.length_nil, List.length_replicate, List.length_set, List.length_take, List.length_drop, List.length_reverse] at * <;> k_subL)))
  show Calls _ _ _ [_, .int (m : Int), _] _
  refine t_divrem_limb hw ha hm ?_
  top_strB <;> (try ((with_reducible first | show _ ≤ _ | show _ < _ | show (_ : Int) ≤ _ ∧ _ | show (_ : Nat) ≤ _ ∧ _ | show (_ : Int) < _ ∧ _ | show (_ : Nat) < _ ∧ _ | show (_ : Nat) = _ | show (_ : Int) = _); first | k_subL | (simp only [vN_length, List.length_append, List.length_cons, List.length_nil, List.length_replicate, List.length_set, List.length_take, List.length_drop, List.length_reverse] at * <;> k_subL)))
  · rename_i h
    have h1 := Nat.mod_lt a hm.1
    have e2 : L (2 ^ w) (a % m) = .list (vN [a % m]) := by rw [L, limbs_one (by k_subL)]
    rw [e2] at hK
    exact hK
  · rename_i h
    have e2 : L (2 ^ w) (a % m) = .list [] := by rw [L, show a % m = 0 by k_subL, limbs_zero]; rfl
    rw [e2] at hK
    exact hK
theorem t_guessed_limb {w t0 t1 t2 v1 v2 : Nat} (hw : Wd w) (h0 : t0 < 2 ^ w) (h1 : t1 < 2 ^ w) (h2 : t2 < 2 ^ w) (hv1 : 0 < v1 ∧ v1 < 2 ^ w) (hv2 : v2 < 2 ^ w) {K : V → Prop} (hK : K (.int ((min ((t2 * 2 ^ w * 2 ^ w + t1 * 2 ^ w + t0) / (v1 * 2 ^ w + v2)) (2 ^ w - 1) : Nat) : Int))) : Calls (GG prog W p loose mean mg mb) 1 (.ref 287) [.list (vN [t0, t1, t2]), .int (v1 : Int), .int (v2 : Int), .int (w : Int)] K := by
  have hB := hw.two
  have hB0 : 0 < 2 ^ w := by k_subL
  have h8 := hw.hi
  have h256 := hw.le
  have g0 : [t0, t1, t2].getD (Int.toNat 0) 0 = t0 := rfl
  have g1 : [t0, t1, t2].getD (Int.toNat 1) 0 = t1 := rfl
  have g2 : [t0, t1, t2].getD (Int.toNat 2) 0 = t2 := rfl
  have hhi : t2 * 2 ^ w + t1 < 256 * 256 := by
    have : (t2 + 1) * 2 ^ w ≤ 256 * 256 := Nat.mul_le_mul (by k_subL) h256
    rw [Nat.add_mul] at this; k_subL
  generalize hH : t2 * 2 ^ w * 2 ^ w + t1 * 2 ^ w + t0 = H at hK
  generalize hhigh : t2 * 2 ^ w + t1 = high at hhi
  have hH' : H = high * 2 ^ w + t0 := by rw [← hH, ← hhigh, Nat.add_mul]
  generalize hD : v1 * 2 ^ w + v2 = D at hK
  have hD0 : 0 < D := by have := Nat.mul_pos hv1.1 hB0; k_subL
  generalize hT : min (H / D) (2 ^ w - 1) = T at hK
  have hq0 : T ≤ min (high / v1) (2 ^ w - 1) := by
    rw [← hT]
    refine Nat.le_min.mpr ⟨Nat.le_trans (Nat.min_le_left _ _) ?_, Nat.min_le_right _ _⟩
    rw [Nat.le_div_iff_mul_le hv1.1]
    have h3 := Nat.div_mul_le_self H D
    have h4 : H / D * v1 * 2 ^ w ≤ high * 2 ^ w + t0 := by
      rw [← hH']; refine Nat.le_trans ?_ h3; rw [← hD, Nat.mul_add, Nat.mul_assoc]; exact Nat.le_add_right _ _
    rcases Nat.lt_or_ge high (H / D * v1) with h | h
    · have h5 : (high + 1) * 2 ^ w ≤ H / D * v1 * 2 ^ w := Nat.mul_le_mul_right _ h
      rw [Nat.add_mul] at h5; k_subL
    · exact h
  have eE : (if (((2 ^ w : Nat) : Int) - 1) < ((high / v1 : Nat) : Int) then (((2 ^ w : Nat) : Int) - 1) else ((high / v1 : Nat) : Int)) = ((min (high / v1) (2 ^ w - 1) : Nat) : Int) := by
    rw [Nat.min_def]; split <;> split <;> k_subL
  generalize hq : min (high / v1) (2 ^ w - 1) = q0 at hq0 eE
  have hq1 : q0 * v1 ≤ high := Nat.le_trans (Nat.mul_le_mul_right _ (by rw [← hq]; exact Nat.min_le_left _ _)) (Nat.div_mul_le_self _ _)
  have hq2 : q0 ≤ 2 ^ w - 1 := by rw [← hq]; exact Nat.min_le_right _ _
  refine calls_of_body d_guessed_limb rfl fun D' => ?_
  top_reprB
  top_strB <;> (try ((with_reducible first | show _ ≤ _ | show _ < _ | show (_ : Int) ≤ _ ∧ _ | show (_ : Nat) ≤ _ ∧ _ | show (_ : Int) < _ ∧ _ | show (_ : Nat) < _ ∧ _ | show (_ : Nat) = _ | show (_ : Int) = _); first | k_subL | (simp only [vN_length, List.length_append, List.length_cons, List.length_nil, List.length_replicate, List.length_set, List.length_take, List.length_drop, List.length_reverse] at * <;> k_subL)))
  rw [g1, g2, hhigh, eE, show ((high : Int) - (q0 : Int) * (v1 : Int)) = ((high - q0 * v1 : Nat) : Int) by rw [Int.ofNat_sub hq1]; rfl]
  refine wX_while (by rfl) (fun k σ => ∃ (q r : Nat), σ = [.list (vN [t0, t1, t2]), .int (v1 : Int), .int (v2 : Int), .int (w : Int), .int (q : Int), .int (r : Int), .int (high : Int), .int ((2 ^ w : Nat) : Int)] ∧ k = q ∧ q ≤ 2 ^ w - 1 ∧ T ≤ q ∧ r + q * v1 = high) ?_ q0 ⟨q0, high - q0 * v1, rfl, rfl, hq2, hq0, by k_subL⟩
  rintro k σ ⟨q, r, rfl, rfl, hqB, hTq, hr⟩
  have hHr : H = r * 2 ^ w + t0 + k * v1 * 2 ^ w := by rw [hH', ← hr, Nat.add_mul]; k_subL
  have hkD : k * D = k * v1 * 2 ^ w + k * v2 := by rw [← hD, Nat.mul_add, Nat.mul_assoc]
  have exit : k * v2 ≤ r * 2 ^ w + t0 → k = T := fun hx => by
    have h1 : k ≤ H / D := (Nat.le_div_iff_mul_le hD0).mpr (by k_subL)
    have h2 : k ≤ T := by rw [← hT]; exact Nat.le_min.mpr ⟨h1, hqB⟩
    k_subL
  top_strB <;> (try ((with_reducible first | show _ ≤ _ | show _ < _ | show (_ : Int) ≤ _ ∧ _ | show (_ : Nat) ≤ _ ∧ _ | show (_ : Int) < _ ∧ _ | show (_ : Nat) < _ ∧ _ | show (_ : Nat) = _ | show (_ : Int) = _); first | k_subL | (simp only [vN_length, List.length_append, List.length_cons, List.length_nil, List.length_replicate, List.length_set, List.length_take, List.length_drop, List.length_reverse] at * <;> k_subL)))
  · rename_i hr1
    have : k * v2 ≤ r * 2 ^ w := Nat.mul_le_mul (by k_subL) (by k_subL)
    have e := exit (by k_subL)
    subst e; exact hK
  · rename_i hr1 hr2
    rw [g0] at hr2
    have e := exit (by k_subL)
    subst e; exact hK
  · rename_i hr1 hr2
    rw [g0] at hr2
    have hlt : r * 2 ^ w + t0 < k * v2 := by k_subL
    have h1 : H / D < k := (Nat.div_lt_iff_lt_mul hD0).mpr (by k_subL)
    have h2 : T ≤ H / D := by rw [← hT]; exact Nat.min_le_left _ _
    obtain ⟨m, rfl⟩ : ∃ m, k = m + 1 := ⟨k - 1, by k_subL⟩
    refine ⟨m, by k_subL, m, r + v1, by rw [show ((m + 1 : Nat) : Int) - 1 = (m : Int) by k_subL], rfl, by k_subL, by k_subL, ?_⟩
    rw [Nat.add_mul] at hr; k_subL
end
section
variable {prog : Program} {W : World} {p : Program} {loose : List Str} {mean : ExcName → Option Value} {mg mb : Str → Option Value}
structure Kept (B : Nat) (at_ n : Nat) (f f' : List Nat) : Prop where
  hl : f'.length = f.length
  hr : Rng B f'
  ht : f'.take at_ = f.take at_
  hd : f'.drop (at_ + n + 1) = f.drop (at_ + n + 1)
theorem Kept.set {B at_ n : Nat} {f f' : List Nat} (k : Kept B at_ n f f') {i y : Nat} (h1 : at_ ≤ i) (h2 : i ≤ at_ + n) (hy : y < B) : Kept B at_ n f (f'.set i y) :=
  ⟨by rw [List.length_set]; exact k.hl, k.hr.set _ hy, by rw [List.take_set_of_le (by k_subL)]; exact k.ht, by rw [List.drop_set_of_lt (by k_subL)]; exact k.hd⟩
theorem away_step {B : Nat} (hB : 2 ≤ B) {f : List Nat} {i c q y : Nat} (hi : i < f.length) (hc : c < B) (hf : f.getD i 0 < B) (hq : q < B) (hy : y < B) :
    (q * y + c) % B ≤ f.getD i 0 ∧ (q * y + c) / B < B ∧ val B (f.set i (f.getD i 0 - (q * y + c) % B)) + B ^ i * (q * y + c) = val B f + B ^ (i + 1) * ((q * y + c) / B) ∨
    f.getD i 0 < (q * y + c) % B ∧ (q * y + c) / B + 1 < B ∧ f.getD i 0 + B - (q * y + c) % B < B ∧ val B (f.set i (f.getD i 0 + B - (q * y + c) % B)) + B ^ i * (q * y + c) = val B f + B ^ (i + 1) * ((q * y + c) / B + 1) := by
  generalize ht : q * y + c = t
  have hB0 : 0 < B := by k_subL
  have htm := Nat.mod_lt t hB0
  have hdm := Nat.div_add_mod t B
  have htB : t ≤ (B - 1) * B := by
    have h1 : q * y ≤ (B - 1) * (B - 1) := Nat.mul_le_mul (by k_subL) (by k_subL)
    obtain ⟨d, rfl⟩ : ∃ d, B = d + 1 := ⟨B - 1, by k_subL⟩
    rw [Nat.add_sub_cancel] at *; rw [Nat.mul_add]; k_subL
  have hd1 : t / B ≤ B - 1 := by rw [← Nat.lt_succ_iff, Nat.div_lt_iff_lt_mul hB0, Nat.succ_mul]; k_subL
  have e1 : B ^ i * t = B ^ (i + 1) * (t / B) + B ^ i * (t % B) := by rw [Nat.pow_succ, Nat.mul_assoc, ← Nat.mul_add, hdm]
  rcases Nat.lt_or_ge (f.getD i 0) (t % B) with h | h
  · right
    have hne : t / B ≠ B - 1 := fun e => by
      have : t = B * (B - 1) + t % B := by rw [← e]; exact hdm.symm
      rw [Nat.mul_comm] at this; k_subL
    refine ⟨h, by k_subL, by k_subL, ?_⟩
    have h1 := val_set' B hi (f.getD i 0 + B - t % B)
    have e2 : B ^ i * (f.getD i 0 + B - t % B) + B ^ i * (t % B) = B ^ i * f.getD i 0 + B ^ (i + 1) := by rw [← Nat.mul_add, Nat.sub_add_cancel (by k_subL), Nat.mul_add, Nat.pow_succ]
    rw [Nat.mul_add, Nat.mul_one]; k_subL
  · left
    refine ⟨h, by k_subL, ?_⟩
    have h1 := val_set' B hi (f.getD i 0 - t % B)
    have e2 : B ^ i * (f.getD i 0 - t % B) + B ^ i * (t % B) = B ^ i * f.getD i 0 := by rw [← Nat.mul_add, Nat.sub_add_cancel h]
    k_subL
theorem away_sum {B a j q y c c' vt vg vg' vf : Nat} (h : vg + B ^ a * (q * vt) = vf + B ^ (a + j) * c) (S : vg' + B ^ (a + j) * (q * y + c) = vg + B ^ (a + j + 1) * c') : vg' + B ^ a * (q * (vt + B ^ j * y)) = vf + B ^ (a + (j + 1)) * c' := by
  have e : B ^ a * (q * (vt + B ^ j * y)) = B ^ a * (q * vt) + B ^ (a + j) * (q * y) := by rw [Nat.mul_add q, Nat.mul_add, Nat.pow_add, Nat.mul_left_comm q, Nat.mul_assoc]
  rw [Nat.mul_add] at S
  rw [e, show a + (j + 1) = a + j + 1 from rfl]; k_subL
theorem t_take_away {w q at_ : Nat} {f ys : List Nat} (hw : Wd w) (hf : Rng (2 ^ w) f) (hy : Rng (2 ^ w) ys) (hq : q < 2 ^ w) (hat : at_ + ys.length < f.length) (hz : f.length ≤ 1000) {K : V → List V → Prop}
    (hK : ∀ (f' : List Nat) (r : Nat), r ≤ 1 → Kept (2 ^ w) at_ ys.length f f' → val (2 ^ w) f' + (2 ^ w) ^ at_ * (q * val (2 ^ w) ys) = val (2 ^ w) f + (2 ^ w) ^ (at_ + ys.length + 1) * r → K (.int (r : Int)) (vN f')) : CallsO (GG prog W p loose mean mg mb) 1 (.ref 294) (vN f) [.list (vN ys), .int (q : Int), .int (at_ : Int), .int (w : Int)] K := by
  have hB := hw.two
  have hB0 : 0 < 2 ^ w := by k_subL
  have h8 := hw.hi
  have h256 := hw.le
  refine callsO_of_body d_take_away rfl fun D A => ?_
  top_reprB
  top_strB <;> (try ((with_reducible first | show _ ≤ _ | show _ < _ | show (_ : Int) ≤ _ ∧ _ | show (_ : Nat) ≤ _ ∧ _ | show (_ : Int) < _ ∧ _ | show (_ : Nat) < _ ∧ _ | show (_ : Nat) = _ | show (_ : Int) = _); first | k_subL | (simp only [vN_length, List.length_append, List.length_cons, List.length_nil, List.length_replicate, List.length_set, List.length_take, List.length_drop, List.length_reverse] at * <;> k_subL)))
  top_raiseB0
  top_strB <;> (try ((with_reducible first | show _ ≤ _ | show _ < _ | show (_ : Int) ≤ _ ∧ _ | show (_ : Nat) ≤ _ ∧ _ | show (_ : Int) < _ ∧ _ | show (_ : Nat) < _ ∧ _ | show (_ : Nat) = _ | show (_ : Int) = _); first | k_subL | (simp only [vN_length, List.length_append, List.length_cons, List.length_nil, List.length_replicate, List.length_set, List.length_take, List.length_drop, List.length_reverse] at * <;> k_subL)))
  refine ⟨fun j σ => ∃ (g : List Nat) (c : Nat) (y1 y2 y3 : V), σ = [.own A (vN g), .list (vN ys), .int (q : Int), .int (at_ : Int), .int (w : Int), y1, .int (c : Int), .int ((2 ^ w : Nat) : Int), y2, y3] ∧ Kept (2 ^ w) at_ ys.length f g ∧ c < 2 ^ w ∧ val (2 ^ w) g + (2 ^ w) ^ at_ * (q * val (2 ^ w) (ys.take j)) = val (2 ^ w) f + (2 ^ w) ^ (at_ + j) * c, ⟨f, 0, _, _, _, rfl, ⟨rfl, hf, rfl, rfl⟩, hB0, by simp [val]⟩, ?_, ?_⟩
  · rintro j x σ hj0 ⟨g, c, y1, y2, y3, rfl, hk, hc, hval⟩
    obtain ⟨hj, rfl⟩ := enumV_get' hj0
    have hl := hk.hl
    have hi : at_ + j < g.length := by k_subL
    have h2 := hy.getD hB0 j
    have h3 := hk.hr.getD hB0 (at_ + j)
    have S := away_step hB hi hc h3 hq h2
    have hmod := Nat.mod_lt (q * ys.getD j 0 + c) hB0
    generalize hB2 : 2 ^ w = B at *
    top_strB <;> (try ((with_reducible first | show _ ≤ _ | show _ < _ | show (_ : Int) ≤ _ ∧ _ | show (_ : Nat) ≤ _ ∧ _ | show (_ : Int) < _ ∧ _ | show (_ : Nat) < _ ∧ _ | show (_ : Nat) = _ | show (_ : Int) = _); first | k_subL | (simp only [vN_length, List.length_append, List.length_cons, List.length_nil, List.length_replicate, List.length_set, List.length_take, List.length_drop, List.length_reverse] at * <;> k_subL)))
    · rename_i u v
      simp only [Int.toNat_natCast] at *
      obtain ⟨a1, a2, a3, a4⟩ := S.resolve_left fun h => by have := h.1; k_subL
      rw [show ((g.getD (at_ + j) 0 : Nat) : Int) - (((q * ys.getD j 0 + c) % B : Nat) : Int) + (B : Int) = ((g.getD (at_ + j) 0 + B - (q * ys.getD j 0 + c) % B : Nat) : Int) by k_subL]
      refine ⟨g.set (at_ + j) (g.getD (at_ + j) 0 + B - (q * ys.getD j 0 + c) % B), (q * ys.getD j 0 + c) / B + 1, _, _, _, by rw [vN_set]; rfl, hk.set (by k_subL) (by k_subL) a3, a2, ?_⟩
      rw [val_take_succ' _ hj]; exact away_sum hval a4
    · exact absurd ‹_ < (0 : Int)› ‹_›
    · exact absurd ‹_ < (0 : Int)› ‹_›
    · rename_i u v
      simp only [Int.toNat_natCast] at *
      obtain ⟨a1, a2, a3⟩ := S.resolve_right fun h => by have := h.1; k_subL
      rw [show ((g.getD (at_ + j) 0 : Nat) : Int) - (((q * ys.getD j 0 + c) % B : Nat) : Int) = ((g.getD (at_ + j) 0 - (q * ys.getD j 0 + c) % B : Nat) : Int) by k_subL, show (((q * ys.getD j 0 + c) / B : Nat) : Int) + 0 = (((q * ys.getD j 0 + c) / B : Nat) : Int) by k_subL]
      refine ⟨g.set (at_ + j) (g.getD (at_ + j) 0 - (q * ys.getD j 0 + c) % B), (q * ys.getD j 0 + c) / B, _, _, _, by rw [vN_set], hk.set (by k_subL) (by k_subL) (by k_subL), a2, ?_⟩
      rw [val_take_succ' _ hj]; exact away_sum hval a3
  · rintro σ ⟨g, c, y1, y2, y3, rfl, hk, hc, hval⟩
    simp only [enumV_length, vN_length, List.take_length] at hval
    have hl := hk.hl
    have h3 := hk.hr.getD hB0 (at_ + ys.length)
    have hi : at_ + ys.length < g.length := by k_subL
    have hv := val_set' (2 ^ w) hi
    generalize hB2 : 2 ^ w = B at *
    top_strB <;> (try ((with_reducible first | show _ ≤ _ | show _ < _ | show (_ : Int) ≤ _ ∧ _ | show (_ : Nat) ≤ _ ∧ _ | show (_ : Int) < _ ∧ _ | show (_ : Nat) < _ ∧ _ | show (_ : Nat) = _ | show (_ : Int) = _); first | k_subL | (simp only [vN_length, List.length_append, List.length_cons, List.length_nil, List.length_replicate, List.length_set, List.length_take, List.length_drop, List.length_reverse] at * <;> k_subL)))
    · rename_i u v
      simp only [vN_length, Int.toNat_natCast] at *
      rw [show ((g.getD (at_ + ys.length) 0 : Nat) : Int) - (c : Int) + (B : Int) = ((g.getD (at_ + ys.length) 0 + B - c : Nat) : Int) by k_subL]
      refine ⟨vN (g.set (at_ + ys.length) (g.getD (at_ + ys.length) 0 + B - c)), by rw [vN_set]; rfl, ?_⟩
      refine hK _ 1 (by k_subL) (hk.set (by k_subL) (by k_subL) (by k_subL)) ?_
      have e1 := hv (g.getD (at_ + ys.length) 0 + B - c)
      have e2 : B ^ (at_ + ys.length) * (g.getD (at_ + ys.length) 0 + B - c) + B ^ (at_ + ys.length) * c = B ^ (at_ + ys.length) * g.getD (at_ + ys.length) 0 + B ^ (at_ + ys.length + 1) := by rw [← Nat.mul_add, Nat.sub_add_cancel (by k_subL), Nat.mul_add, Nat.pow_succ]
      k_subL
    · exact absurd ‹_ < (0 : Int)› ‹_›
    · exact absurd ‹_ < (0 : Int)› ‹_›
    · rename_i u v
      simp only [vN_length, Int.toNat_natCast] at *
      rw [show ((g.getD (at_ + ys.length) 0 : Nat) : Int) - (c : Int) = ((g.getD (at_ + ys.length) 0 - c : Nat) : Int) by k_subL]
      refine ⟨vN (g.set (at_ + ys.length) (g.getD (at_ + ys.length) 0 - c)), by rw [vN_set]; rfl, ?_⟩
      refine hK _ 0 (by k_subL) (hk.set (by k_subL) (by k_subL) (by k_subL)) ?_
      have e1 := hv (g.getD (at_ + ys.length) 0 - c)
      have e2 : B ^ (at_ + ys.length) * (g.getD (at_ + ys.length) 0 - c) + B ^ (at_ + ys.length) * c = B ^ (at_ + ys.length) * g.getD (at_ + ys.length) 0 := by rw [← Nat.mul_add, Nat.sub_add_cancel (by k_subL)]
      k_subL
theorem back_sum {B a j y c c' vt vg vg' vf : Nat} (h : vg + B ^ (a + j) * c = vf + B ^ a * vt) (S : vg' + B ^ (a + j + 1) * c' = vg + B ^ (a + j) * (c + y)) : vg' + B ^ (a + (j + 1)) * c' = vf + B ^ a * (vt + B ^ j * y) := by
  have e : B ^ a * (vt + B ^ j * y) = B ^ a * vt + B ^ (a + j) * y := by rw [Nat.mul_add, Nat.pow_add, Nat.mul_assoc]
  rw [Nat.mul_add] at S
  rw [e, show a + (j + 1) = a + j + 1 from rfl]; k_subL
theorem t_put_back {w at_ : Nat} {f ys : List Nat} (hw : Wd w) (hf : Rng (2 ^ w) f) (hy : Rng (2 ^ w) ys) (hat : at_ + ys.length < f.length) (hz : f.length ≤ 1000) {K : V → List V → Prop}
    (hK : ∀ (f' : List Nat) (r : Nat), r ≤ 1 → Kept (2 ^ w) at_ ys.length f f' → val (2 ^ w) f' + (2 ^ w) ^ (at_ + ys.length + 1) * r = val (2 ^ w) f + (2 ^ w) ^ at_ * val (2 ^ w) ys → K .none (vN f')) : CallsO (GG prog W p loose mean mg mb) 1 (.ref 301) (vN f) [.list (vN ys), .int (at_ : Int), .int (w : Int)] K := by
  have hB := hw.two
  have hB0 : 0 < 2 ^ w := by k_subL
  have h8 := hw.hi
  have h256 := hw.le
  refine callsO_of_body d_put_back rfl fun D A => ?_
  top_reprB
  top_strB <;> (try ((with_reducible first | show _ ≤ _ | show _ < _ | show (_ : Int) ≤ _ ∧ _ | show (_ : Nat) ≤ _ ∧ _ | show (_ : Int) < _ ∧ _ | show (_ : Nat) < _ ∧ _ | show (_ : Nat) = _ | show (_ : Int) = _); first | k_subL | (simp only [vN_length, List.length_append, List.length_cons, List.length_nil, List.length_replicate, List.length_set, List.length_take, List.length_drop, List.length_reverse] at * <;> k_subL)))
  top_raiseB0
  top_strB <;> (try ((with_reducible first | show _ ≤ _ | show _ < _ | show (_ : Int) ≤ _ ∧ _ | show (_ : Nat) ≤ _ ∧ _ | show (_ : Int) < _ ∧ _ | show (_ : Nat) < _ ∧ _ | show (_ : Nat) = _ | show (_ : Int) = _); first | k_subL | (simp only [vN_length, List.length_append, List.length_cons, List.length_nil, List.length_replicate, List.length_set, List.length_take, List.length_drop, List.length_reverse] at * <;> k_subL)))
  refine ⟨fun j σ => ∃ (g : List Nat) (c : Nat) (y2 y3 : V), σ = [.own A (vN g), .list (vN ys), .int (at_ : Int), .int (w : Int), .int (c : Int), .int (((2 ^ w : Nat) : Int) - 1), y2, y3] ∧ Kept (2 ^ w) at_ ys.length f g ∧ c ≤ 1 ∧ val (2 ^ w) g + (2 ^ w) ^ (at_ + j) * c = val (2 ^ w) f + (2 ^ w) ^ at_ * val (2 ^ w) (ys.take j), ⟨f, 0, _, _, rfl, ⟨rfl, hf, rfl, rfl⟩, by k_subL, by simp [val]⟩, ?_, ?_⟩
  · rintro j x σ hj0 ⟨g, c, y2, y3, rfl, hk, hc, hval⟩
    obtain ⟨hj, rfl⟩ := enumV_get' hj0
    have hl := hk.hl
    have hi : at_ + j < g.length := by k_subL
    have h2 := hy.getD hB0 j
    have h3 := hk.hr.getD hB0 (at_ + j)
    top_strB <;> (try ((with_reducible first | show _ ≤ _ | show _ < _ | show (_ : Int) ≤ _ ∧ _ | show (_ : Nat) ≤ _ ∧ _ | show (_ : Int) < _ ∧ _ | show (_ : Nat) < _ ∧ _ | show (_ : Nat) = _ | show (_ : Int) = _); first | k_subL | (simp only [vN_length, List.length_append, List.length_cons, List.length_nil, List.length_replicate, List.length_set, List.length_take, List.length_drop, List.length_reverse] at * <;> k_subL)))
    simp only [Int.toNat_natCast] at *
    refine ⟨g.set (at_ + j) ((c + (g.getD (at_ + j) 0 + ys.getD j 0)) % 2 ^ w), (c + (g.getD (at_ + j) 0 + ys.getD j 0)) / 2 ^ w, _, _, by rw [vN_set], hk.set (by k_subL) (by k_subL) (Nat.mod_lt _ hB0), ?_, ?_⟩
    · exact Nat.le_of_lt_succ ((Nat.div_lt_iff_lt_mul hB0).mpr (by k_subL))
    · rw [val_take_succ' _ hj]; exact back_sum hval (mul_inner hB0 hi rfl)
  · rintro σ ⟨g, c, y2, y3, rfl, hk, hc, hval⟩
    simp only [enumV_length, vN_length, List.take_length] at hval
    have hl := hk.hl
    have h3 := hk.hr.getD hB0 (at_ + ys.length)
    have hi : at_ + ys.length < g.length := by k_subL
    have hv := val_set' (2 ^ w) hi
    top_strB <;> (try ((with_reducible first | show _ ≤ _ | show _ < _ | show (_ : Int) ≤ _ ∧ _ | show (_ : Nat) ≤ _ ∧ _ | show (_ : Int) < _ ∧ _ | show (_ : Nat) < _ ∧ _ | show (_ : Nat) = _ | show (_ : Int) = _); first | k_subL | (simp only [vN_length, List.length_append, List.length_cons, List.length_nil, List.length_replicate, List.length_set, List.length_take, List.length_drop, List.length_reverse] at * <;> k_subL)))
    simp only [vN_length, Int.toNat_natCast] at *
    refine ⟨vN (g.set (at_ + ys.length) ((g.getD (at_ + ys.length) 0 + c) % 2 ^ w)), by rw [vN_set]; rfl, ?_⟩
    refine hK _ ((g.getD (at_ + ys.length) 0 + c) / 2 ^ w) (Nat.le_of_lt_succ ((Nat.div_lt_iff_lt_mul hB0).mpr (by k_subL))) (hk.set (by k_subL) (by k_subL) (Nat.mod_lt _ hB0)) ?_
    have e := mul_inner (t := g.getD (at_ + ys.length) 0 + c) (c := c) (x := 0) hB0 hi (by k_subL)
    rw [e]; exact hval
end
section
variable {prog : Program} {W : World} {p : Program} {loose : List Str} {mean : ExcName → Option Value} {mg mb : Str → Option Value}
theorem guess_ok {B c H D U0 V0 : Nat} (hB : 2 ≤ B) (hc : 0 < c) (hU0 : U0 < c) (hV0 : V0 < c) (hD : B ≤ D) (hq : (H * c + U0) / (D * c + V0) < B) :
    (H * c + U0) / (D * c + V0) ≤ min (H / D) (B - 1) ∧ min (H / D) (B - 1) ≤ (H * c + U0) / (D * c + V0) + 1 := by
  have hD0 : 0 < D := by k_subL
  have hDc : 0 < D * c := Nat.mul_pos hD0 hc
  have hV : 0 < D * c + V0 := by k_subL
  generalize hqq : (H * c + U0) / (D * c + V0) = q at *
  have h1 : q * (D * c + V0) ≤ H * c + U0 := by rw [← hqq]; exact Nat.div_mul_le_self _ _
  have h2 : H * c + U0 < (q + 1) * (D * c + V0) := by rw [← hqq, Nat.add_mul, Nat.one_mul]; exact Nat.lt_div_mul_add hV
  constructor
  · refine Nat.le_min.mpr ⟨?_, by k_subL⟩
    rw [Nat.le_div_iff_mul_le hD0]
    rcases Nat.lt_or_ge H (q * D) with h | h
    · have h3 : (H + 1) * c ≤ q * D * c := Nat.mul_le_mul_right _ h
      rw [Nat.mul_add, ← Nat.mul_assoc] at h1
      rw [Nat.add_mul] at h3; k_subL
    · exact h
  · refine Nat.le_of_not_lt fun h => ?_
    generalize hg : min (H / D) (B - 1) = s at h
    have hsB : s ≤ B - 1 := by rw [← hg]; exact Nat.min_le_right _ _
    have hsD : s * D ≤ H := by rw [← Nat.le_div_iff_mul_le hD0, ← hg]; exact Nat.min_le_left _ _
    obtain ⟨d, rfl⟩ : ∃ d, s = q + 1 + 1 + d := ⟨s - (q + 2), by k_subL⟩
    have h4 : (q + 1 + 1 + d) * D * c ≤ H * c := Nat.mul_le_mul_right _ hsD
    have h5 : (q + 1) * V0 ≤ (B - 1) * c := Nat.mul_le_mul (by k_subL) (by k_subL)
    have h6 : B * c ≤ D * c := Nat.mul_le_mul_right _ hD
    have h7 : (q + 1 + 1 + d) * D * c = (q + 1) * (D * c) + D * c + d * (D * c) := by rw [Nat.mul_assoc, Nat.add_mul, Nat.add_mul (q + 1) 1, Nat.one_mul]
    have h8 : (B - 1) * c + c = B * c := by rw [← Nat.succ_mul]; congr 1; k_subL
    rw [Nat.mul_add] at h2
    k_subL
theorem val_cons (B x : Nat) (xs : List Nat) : val B (x :: xs) = x + B * val B xs := rfl
theorem val_three (B a b c : Nat) : val B [a, b, c] = c * B * B + b * B + a := by
  simp only [val, Nat.mul_zero, Nat.add_zero, Nat.mul_add]
  rw [← Nat.mul_assoc, Nat.mul_comm (B * B), Nat.mul_comm B b, Nat.mul_assoc]; k_subL
theorem val_two (B a b : Nat) : val B [a, b] = b * B + a := by
  simp only [val, Nat.mul_zero, Nat.add_zero]; rw [Nat.mul_comm]; k_subL
theorem take_three {xs : List Nat} {i : Nat} (h : i + 2 < xs.length) : (xs.drop i).take 3 = [xs.getD i 0, xs.getD (i + 1) 0, xs.getD (i + 2) 0] := by
  rw [getD_eq (by k_subL), getD_eq (by k_subL), getD_eq h, List.drop_eq_getElem_cons (by k_subL), List.drop_eq_getElem_cons (by k_subL), List.drop_eq_getElem_cons (by k_subL)]; rfl
theorem drop_two {xs : List Nat} {i : Nat} (h : i + 2 = xs.length) : xs.drop i = [xs.getD i 0, xs.getD (i + 1) 0] := by
  rw [getD_eq (by k_subL), getD_eq (by k_subL), List.drop_eq_getElem_cons (by k_subL), List.drop_eq_getElem_cons (by k_subL), List.drop_eq_nil_of_le (by k_subL)]
theorem high_zero {B n : Nat} {g ys : List Nat} {i : Nat} (hB : 0 < B) (hy : Rng B ys) (hn : ys.length = n) (hi : i + 1 + n ≤ g.length) (hlt : val B (g.drop (i + 1)) < val B ys) : val B (g.drop (i + n + 1)) = 0 := by
  have h1 := val_take_drop B (g.drop (i + 1)) n
  rw [List.drop_drop, List.length_take, List.length_drop, Nat.min_eq_left (by k_subL), show i + 1 + n = i + n + 1 by k_subL] at h1
  have h2 := val_lt hy
  rw [hn] at h2
  rcases Nat.eq_zero_or_pos (val B (g.drop (i + n + 1))) with h | h
  · exact h
  · have := Nat.le_mul_of_pos_right (B ^ n) h
    k_subL
theorem low_split {B n : Nat} {g : List Nat} {i : Nat} (hB : 0 < B) (hg : Rng B g) (hi : i + n + 1 ≤ g.length) (hz : val B (g.drop (i + n + 1)) = 0) : val B (g.drop i) < B ^ (n + 1) := by
  have h1 := val_take_drop B (g.drop i) (n + 1)
  rw [List.drop_drop, ← Nat.add_assoc, hz, Nat.mul_zero, Nat.add_zero] at h1
  rw [h1]
  have := val_lt ((hg.drop i).take (n + 1))
  rwa [List.length_take, List.length_drop, Nat.min_eq_left (by k_subL)] at this
end
section
variable {prog : Program} {W : World} {p : Program} {loose : List Str} {mean : ExcName → Option Value} {mg mb : Str → Option Value}
theorem knuth_q {B n i : Nat} {g ys : List Nat} (hB : 2 ≤ B) (hg : Rng B g) (hy : Rng B ys) (hn : ys.length = n) (h2 : 2 ≤ n) (hi : i + n < g.length) (hlt : val B (g.drop (i + 1)) < val B ys) (ht : 0 < ys.getD (n - 1) 0) :
    val B (g.drop i) / val B ys < B ∧ val B (g.drop i) / val B ys ≤ min ((g.getD (i + n) 0 * B * B + g.getD (i + n - 1) 0 * B + g.getD (i + n - 2) 0) / (ys.getD (n - 1) 0 * B + ys.getD (n - 2) 0)) (B - 1) ∧
    min ((g.getD (i + n) 0 * B * B + g.getD (i + n - 1) 0 * B + g.getD (i + n - 2) 0) / (ys.getD (n - 1) 0 * B + ys.getD (n - 2) 0)) (B - 1) ≤ val B (g.drop i) / val B ys + 1 := by
  have hB0 : 0 < B := by k_subL
  have hz := high_zero hB0 hy hn (by k_subL) hlt
  have hq : val B (g.drop i) / val B ys < B := by
    rw [Nat.div_lt_iff_lt_mul (by k_subL), val_drop_succ' _ (by k_subL : i < g.length)]
    have h1 := hg.getD hB0 i
    have h3 : B * (val B (g.drop (i + 1)) + 1) ≤ B * val B ys := Nat.mul_le_mul_left _ hlt
    rw [Nat.mul_add] at h3; k_subL
  have eU : val B (g.drop i) = (g.getD (i + n) 0 * B * B + g.getD (i + n - 1) 0 * B + g.getD (i + n - 2) 0) * B ^ (n - 2) + val B ((g.drop i).take (n - 2)) := by
    have h1 := val_take_drop B (g.drop i) (n - 2)
    rw [List.drop_drop, List.length_take, List.length_drop, Nat.min_eq_left (by k_subL)] at h1
    have h3 := val_take_drop B (g.drop (i + (n - 2))) 3
    rw [List.drop_drop, show i + (n - 2) + 3 = i + n + 1 by k_subL, hz, Nat.mul_zero, Nat.add_zero, take_three (by k_subL), val_three, show i + (n - 2) + 2 = i + n by k_subL, show i + (n - 2) + 1 = i + n - 1 by k_subL, show i + (n - 2) = i + n - 2 by k_subL] at h3
    rw [show i + (n - 2) = i + n - 2 by k_subL] at h1
    rw [h1, h3, Nat.mul_comm (B ^ (n - 2)), Nat.add_comm]
  have eV : val B ys = (ys.getD (n - 1) 0 * B + ys.getD (n - 2) 0) * B ^ (n - 2) + val B (ys.take (n - 2)) := by
    have h1 := val_take_drop B ys (n - 2)
    rw [List.length_take, Nat.min_eq_left (by k_subL), drop_two (by k_subL), val_two, show n - 2 + 1 = n - 1 by k_subL] at h1
    rw [h1, Nat.mul_comm (B ^ (n - 2)), Nat.add_comm]
  have hc : 0 < B ^ (n - 2) := Nat.pow_pos hB0
  have hU0 : val B ((g.drop i).take (n - 2)) < B ^ (n - 2) := by
    have := val_lt ((hg.drop i).take (n - 2))
    rwa [List.length_take, List.length_drop, Nat.min_eq_left (by k_subL)] at this
  have hV0 : val B (ys.take (n - 2)) < B ^ (n - 2) := by
    have := val_lt (hy.take (n - 2))
    rwa [List.length_take, Nat.min_eq_left (by k_subL)] at this
  have hD : B ≤ ys.getD (n - 1) 0 * B + ys.getD (n - 2) 0 := Nat.le_trans (Nat.le_mul_of_pos_left _ ht) (Nat.le_add_right _ _)
  refine ⟨hq, ?_⟩
  rw [eU, eV] at hq ⊢
  exact guess_ok hB hc hU0 hV0 hD hq
theorem at_place {B i : Nat} {f f' : List Nat} (h : i ≤ f.length) (ht : f'.take i = f.take i) : val B f = val B (f.take i) + B ^ i * val B (f.drop i) ∧ val B f' = val B (f.take i) + B ^ i * val B (f'.drop i) := by
  have h1 := val_take_drop B f i
  have h2 := val_take_drop B f' i
  rw [ht] at h2
  rw [List.length_take, Nat.min_eq_left h] at h1 h2
  exact ⟨h1, h2⟩
theorem away_done {B n i q r : Nat} {g g1 ys : List Nat} (hB : 2 ≤ B) (hi : i + n < g.length) (k : Kept B i n g g1) (hz : val B (g.drop (i + n + 1)) = 0)
    (he : val B g1 + B ^ i * (q * val B ys) = val B g + B ^ (i + n + 1) * r) : val B (g1.drop i) + q * val B ys = val B (g.drop i) + B ^ (n + 1) * r ∧ val B (g1.drop i) < B ^ (n + 1) := by
  have hB0 : 0 < B := by k_subL
  obtain ⟨h1, h2⟩ := at_place (B := B) (by k_subL) k.ht
  constructor
  · have h3 : B ^ i * (val B (g1.drop i) + q * val B ys) = B ^ i * (val B (g.drop i) + B ^ (n + 1) * r) := by
      rw [Nat.mul_add, Nat.mul_add, ← Nat.mul_assoc (B ^ i) (B ^ (n + 1)), ← Nat.pow_add, ← Nat.add_assoc]; k_subL
    exact Nat.eq_of_mul_eq_mul_left (Nat.pow_pos hB0) h3
  · exact low_split hB0 k.hr (by rw [k.hl]; k_subL) (by rw [k.hd]; exact hz)
theorem back_done {B n i r : Nat} {g g1 ys : List Nat} (hB : 2 ≤ B) (hi : i + n < g.length) (k : Kept B i n g g1) (hz : val B (g.drop (i + n + 1)) = 0)
    (he : val B g1 + B ^ (i + n + 1) * r = val B g + B ^ i * val B ys) : val B (g1.drop i) + B ^ (n + 1) * r = val B (g.drop i) + val B ys ∧ val B (g1.drop i) < B ^ (n + 1) := by
  have hB0 : 0 < B := by k_subL
  obtain ⟨h1, h2⟩ := at_place (B := B) (by k_subL) k.ht
  constructor
  · have h3 : B ^ i * (val B (g1.drop i) + B ^ (n + 1) * r) = B ^ i * (val B (g.drop i) + val B ys) := by
      rw [Nat.mul_add, Nat.mul_add, ← Nat.mul_assoc (B ^ i) (B ^ (n + 1)), ← Nat.pow_add, ← Nat.add_assoc]; k_subL
    exact Nat.eq_of_mul_eq_mul_left (Nat.pow_pos hB0) h3
  · exact low_split hB0 k.hr (by rw [k.hl]; k_subL) (by rw [k.hd]; exact hz)
structure Done (B i n q V : Nat) (g g' : List Nat) : Prop where
  hl : g'.length = g.length
  hr : Rng B g'
  hu : val B (g'.drop i) < V
  hv : val B g = val B g' + B ^ i * (q * V)
theorem done_of {B i n q V U U' : Nat} {g g' : List Nat} (hi : i ≤ g.length) (hl : g'.length = g.length) (hr : Rng B g') (ht : g'.take i = g.take i) (hU : val B (g.drop i) = U) (hU' : val B (g'.drop i) = U') (h : U' + q * V = U) (hlt : U' < V) : Done B i n q V g g' := by
  obtain ⟨h1, h2⟩ := at_place (B := B) hi ht
  refine ⟨hl, hr, by k_subL, ?_⟩
  rw [h1, h2, hU, hU', ← h, Nat.mul_add]; k_subL
theorem step_no {B n i qh : Nat} {g g1 ys : List Nat} (hB : 2 ≤ B) (hg : Rng B g) (hy : Rng B ys) (hn : ys.length = n) (hi : i + n < g.length) (hlt : val B (g.drop (i + 1)) < val B ys)
    (hq1 : val B (g.drop i) / val B ys ≤ qh) (k : Kept B i n g g1) (he : val B g1 + B ^ i * (qh * val B ys) = val B g + B ^ (i + n + 1) * 0) : Done B i n qh (val B ys) g g1 := by
  have hB0 : 0 < B := by k_subL
  have hz := high_zero hB0 hy hn (by k_subL) hlt
  obtain ⟨h1, h2⟩ := away_done hB hi k hz he
  rw [Nat.mul_zero, Nat.add_zero] at h1
  refine done_of (U' := val B (g1.drop i)) (by k_subL) k.hl k.hr k.ht rfl rfl h1 ?_
  have hV : 0 < val B ys := by k_subL
  have h3 : val B (g.drop i) < (val B (g.drop i) / val B ys + 1) * val B ys := by rw [Nat.add_mul, Nat.one_mul]; exact Nat.lt_div_mul_add hV
  have h4 : (val B (g.drop i) / val B ys + 1) * val B ys ≤ (qh + 1) * val B ys := Nat.mul_le_mul_right _ (by k_subL)
  rw [Nat.add_mul qh] at h4
  k_subL
theorem step_back {B n i qh r2 : Nat} {g g1 g2 ys : List Nat} (hB : 2 ≤ B) (hg : Rng B g) (hy : Rng B ys) (hn : ys.length = n) (hi : i + n < g.length) (hlt : val B (g.drop (i + 1)) < val B ys)
    (hq2 : qh ≤ val B (g.drop i) / val B ys + 1) (k : Kept B i n g g1) (he : val B g1 + B ^ i * (qh * val B ys) = val B g + B ^ (i + n + 1) * 1) (hr2 : r2 ≤ 1) (k2 : Kept B i n g1 g2) (he2 : val B g2 + B ^ (i + n + 1) * r2 = val B g1 + B ^ i * val B ys) :
    0 < qh ∧ Done B i n (qh - 1) (val B ys) g g2 := by
  have hB0 : 0 < B := by k_subL
  have hz := high_zero hB0 hy hn (by k_subL) hlt
  obtain ⟨h1, h2⟩ := away_done hB hi k hz he
  rw [Nat.mul_one] at h1
  obtain ⟨h3, h4⟩ := back_done hB (by rw [k.hl]; exact hi) k2 (by rw [k.hd]; exact hz) he2
  have hV : 0 < val B ys := by k_subL
  have hVn : val B ys < B ^ (n + 1) := by
    have := val_lt hy
    rw [hn] at this
    exact Nat.lt_trans this (Nat.pow_lt_pow_right hB (by k_subL))
  have h5 := Nat.div_mul_le_self (val B (g.drop i)) (val B ys)
  have h6 : val B (g.drop i) < (val B (g.drop i) / val B ys + 1) * val B ys := by rw [Nat.add_mul, Nat.one_mul]; exact Nat.lt_div_mul_add hV
  have h7 : qh = val B (g.drop i) / val B ys + 1 := by
    refine Nat.le_antisymm hq2 (Nat.lt_of_not_le fun h => ?_)
    have h8 : qh * val B ys ≤ val B (g.drop i) / val B ys * val B ys := Nat.mul_le_mul_right _ h
    k_subL
  have e : qh * val B ys = val B (g.drop i) / val B ys * val B ys + val B ys := by rw [h7, Nat.add_mul, Nat.one_mul]
  have hr : r2 = 1 := by
    rcases Nat.lt_or_ge r2 1 with h | h
    · have : r2 = 0 := by k_subL
      subst this
      rw [Nat.mul_zero] at h3; k_subL
    · k_subL
  subst hr
  rw [Nat.mul_one] at h3
  generalize B ^ (n + 1) = M at *
  refine ⟨by rw [h7]; exact Nat.succ_pos _, done_of (U' := val B (g2.drop i)) (by k_subL) (k2.hl.trans k.hl) k2.hr (k2.ht.trans k.ht) rfl rfl ?_ ?_⟩
  · rw [show qh - 1 = val B (g.drop i) / val B ys by rw [h7]; rfl]; k_subL
  · rw [Nat.add_mul, Nat.one_mul] at h6; k_subL
end
section
variable {prog : Program} {W : World} {p : Program} {loose : List Str} {mean : ExcName → Option Value} {mg mb : Str → Option Value}
theorem row_next {B i n q V : Nat} {f g g' qs : List Nat} (d : Done B i n q V g g') (hi : i < qs.length) (h : val B f = val B g + B ^ (i + 1) * (val B (qs.drop (i + 1)) * V)) : val B f = val B g' + B ^ i * (val B ((qs.set i q).drop i) * V) := by
  have hi' : i < (qs.set i q).length := by rw [List.length_set]; exact hi
  have e : (qs.set i q).getD i 0 = q := by rw [getD_eq hi']; simp
  rw [val_drop_succ' _ hi', List.drop_set_of_lt (by k_subL), e, h, d.hv, Nat.add_mul, Nat.mul_add (B ^ i), Nat.pow_succ, Nat.mul_assoc, Nat.mul_assoc, Nat.add_assoc]
theorem t_divide_rows {w : Nat} {f ys : List Nat} (hw : Wd w) (hf : Rng (2 ^ w) f) (hy : Rng (2 ^ w) ys) (h2 : 2 ≤ ys.length) (hl : ys.length ≤ f.length) (hz : f.length ≤ 1000) (htop : 0 < ys.getD (ys.length - 1) 0) (hlt : val (2 ^ w) (f.drop (f.length - ys.length)) < val (2 ^ w) ys) {K : V → List V → Prop}
    (hK : ∀ qs f' : List Nat, qs.length = f.length - ys.length → Rng (2 ^ w) qs → f'.length = f.length → Rng (2 ^ w) f' → val (2 ^ w) f = val (2 ^ w) qs * val (2 ^ w) ys + val (2 ^ w) f' → val (2 ^ w) f' < val (2 ^ w) ys → K (.list (vN qs)) (vN f')) : CallsO (GG prog W p loose mean mg mb) 2 (.ref 308) (vN f) [.list (vN ys), .int (w : Int)] K := by
  have hB := hw.two
  have hB0 : 0 < 2 ^ w := by k_subL
  have h8 := hw.hi
  have h256 := hw.le
  generalize hn : ys.length = n at *
  refine callsO_of_body d_divide_rows rfl fun D A => ?_
  top_reprB
  top_strB <;> (try ((with_reducible first | show _ ≤ _ | show _ < _ | show (_ : Int) ≤ _ ∧ _ | show (_ : Nat) ≤ _ ∧ _ | show (_ : Int) < _ ∧ _ | show (_ : Nat) < _ ∧ _ | show (_ : Nat) = _ | show (_ : Int) = _); first | k_subL | (simp only [vN_length, List.length_append, List.length_cons, List.length_nil, List.length_replicate, List.length_set, List.length_take, List.length_drop, List.length_reverse] at * <;> k_subL)))
  rename_i Aq
  top_raiseB0
  top_strB <;> (try ((with_reducible first | show _ ≤ _ | show _ < _ | show (_ : Int) ≤ _ ∧ _ | show (_ : Nat) ≤ _ ∧ _ | show (_ : Int) < _ ∧ _ | show (_ : Nat) < _ ∧ _ | show (_ : Nat) = _ | show (_ : Int) = _); first | k_subL | (simp only [vN_length, List.length_append, List.length_cons, List.length_nil, List.length_replicate, List.length_set, List.length_take, List.length_drop, List.length_reverse] at * <;> k_subL)))
  refine ⟨fun k σ => ∃ (g qs : List Nat) (y1 y2 : V), σ = [.own A (vN g), .list (vN ys), .int (w : Int), .int (n : Int), .own Aq (vN qs), y1, y2] ∧ g.length = f.length ∧ Rng (2 ^ w) g ∧ qs.length = f.length - n ∧ Rng (2 ^ w) qs ∧ val (2 ^ w) (g.drop (f.length - n - k)) < val (2 ^ w) ys ∧ val (2 ^ w) f = val (2 ^ w) g + (2 ^ w) ^ (f.length - n - k) * (val (2 ^ w) (qs.drop (f.length - n - k)) * val (2 ^ w) ys), ⟨f, List.replicate (f.length - n) 0, _, _, by rw [vN_length, vN_length, hn, show ((f.length : Int) - (n : Int)).toNat = f.length - n by k_subL, vN_replicate], rfl, hf, by simp, Rng.replicate hB0 _, hlt, by rw [Nat.sub_zero, List.drop_eq_nil_of_le (by simp)]; simp [val]⟩, ?_, ?_⟩
  · rintro k x σ hk0 ⟨g, qs, y1, y2, rfl, hgl, hg, hqsl, hqs, hglt, hgv⟩
    obtain ⟨hk, rfl⟩ := downInts_get hk0
    simp only [vN_length, hn] at hk ⊢
    have hk' : k < f.length - n := by k_subL
    obtain ⟨i, hi⟩ : ∃ i, i = f.length - n - k - 1 := ⟨_, rfl⟩
    have e1 : (f.length : Int) - (n : Int) - 1 - (k : Int) = (i : Int) := by k_subL
    rw [show f.length - n - k = i + 1 by k_subL] at hglt hgv
    rw [e1]
    have e0 : f.length - n - (k + 1) = i := by k_subL
    obtain ⟨hqB, hq1, hq2⟩ := knuth_q hB hg hy hn h2 (by k_subL : i + n < g.length) hglt htop
    top_strB <;> (try ((with_reducible first | show _ ≤ _ | show _ < _ | show (_ : Int) ≤ _ ∧ _ | show (_ : Nat) ≤ _ ∧ _ | show (_ : Int) < _ ∧ _ | show (_ : Nat) < _ ∧ _ | show (_ : Nat) = _ | show (_ : Int) = _); first | k_subL | (simp only [vN_length, List.length_append, List.length_cons, List.length_nil, List.length_replicate, List.length_set, List.length_take, List.length_drop, List.length_reverse] at * <;> k_subL)))
    have e4 : pick (vN g) (some (((i + n : Nat) : Int) - 2)) (some (((i + n : Nat) : Int) + 1)) = vN [g.getD (i + n - 2) 0, g.getD (i + n - 1) 0, g.getD (i + n) 0] := by
      rw [pick_both (n := i + n - 2) (m := i + n + 1) (by k_subL) (by k_subL) (by rw [vN_length]; k_subL) (by k_subL), vN_drop, vN_take, show i + n + 1 - (i + n - 2) = 3 by k_subL, take_three (by k_subL), show i + n - 2 + 1 = i + n - 1 by k_subL, show i + n - 2 + 2 = i + n by k_subL]
    rw [e4, show ((n : Int) - 1).toNat = n - 1 by k_subL, show ((n : Int) - 2).toNat = n - 2 by k_subL]
    refine t_guessed_limb hw (hg.getD hB0 _) (hg.getD hB0 _) (hg.getD hB0 _) ⟨htop, hy.getD hB0 _⟩ (hy.getD hB0 _) ?_
    have hqb : min ((g.getD (i + n) 0 * 2 ^ w * 2 ^ w + g.getD (i + n - 1) 0 * 2 ^ w + g.getD (i + n - 2) 0) / (ys.getD (n - 1) 0 * 2 ^ w + ys.getD (n - 2) 0)) (2 ^ w - 1) < 2 ^ w := Nat.lt_of_le_of_lt (Nat.min_le_right _ _) (by k_subL)
    generalize min ((g.getD (i + n) 0 * 2 ^ w * 2 ^ w + g.getD (i + n - 1) 0 * 2 ^ w + g.getD (i + n - 2) 0) / (ys.getD (n - 1) 0 * 2 ^ w + ys.getD (n - 2) 0)) (2 ^ w - 1) = qh at *
    top_strB <;> (try ((with_reducible first | show _ ≤ _ | show _ < _ | show (_ : Int) ≤ _ ∧ _ | show (_ : Nat) ≤ _ ∧ _ | show (_ : Int) < _ ∧ _ | show (_ : Nat) < _ ∧ _ | show (_ : Nat) = _ | show (_ : Int) = _); first | k_subL | (simp only [vN_length, List.length_append, List.length_cons, List.length_nil, List.length_replicate, List.length_set, List.length_take, List.length_drop, List.length_reverse] at * <;> k_subL)))
    subst hn
    refine t_take_away hw hg hy hqb (by k_subL) (by k_subL) fun g1 r hr k1 he => ?_
    top_strB <;> (try ((with_reducible first | show _ ≤ _ | show _ < _ | show (_ : Int) ≤ _ ∧ _ | show (_ : Nat) ≤ _ ∧ _ | show (_ : Int) < _ ∧ _ | show (_ : Nat) < _ ∧ _ | show (_ : Nat) = _ | show (_ : Int) = _); first | k_subL | (simp only [vN_length, List.length_append, List.length_cons, List.length_nil, List.length_replicate, List.length_set, List.length_take, List.length_drop, List.length_reverse] at * <;> k_subL)))
    · rename_i hr1
      have : r = 1 := by k_subL
      subst this
      refine t_put_back hw k1.hr hy (by rw [k1.hl]; k_subL) (by rw [k1.hl]; k_subL) fun g2 r2 hr2 k2 he2 => ?_
      obtain ⟨h0, d⟩ := step_back hB hg hy rfl (by k_subL) hglt hq2 k1 he hr2 k2 he2
      top_strB <;> (try ((with_reducible first | show _ ≤ _ | show _ < _ | show (_ : Int) ≤ _ ∧ _ | show (_ : Nat) ≤ _ ∧ _ | show (_ : Int) < _ ∧ _ | show (_ : Nat) < _ ∧ _ | show (_ : Nat) = _ | show (_ : Int) = _); first | k_subL | (simp only [vN_length, List.length_append, List.length_cons, List.length_nil, List.length_replicate, List.length_set, List.length_take, List.length_drop, List.length_reverse] at * <;> k_subL)))
      rw [show (qh : Int) - 1 = ((qh - 1 : Nat) : Int) by k_subL, Int.toNat_natCast]
      dsimp only [kLp]
      rw [e0]
      exact ⟨g2, qs.set i (qh - 1), _, _, by rw [vN_set], d.hl.trans hgl, d.hr, by simp [hqsl], hqs.set _ (by k_subL), d.hu, row_next d (by k_subL) hgv⟩
    · rename_i hr1
      have : r = 0 := by k_subL
      subst this
      have d := step_no hB hg hy rfl (by k_subL) hglt hq1 k1 he
      rw [Int.toNat_natCast]
      dsimp only [kLp]
      rw [e0]
      exact ⟨g1, qs.set i qh, _, _, by rw [vN_set], d.hl.trans hgl, d.hr, by simp [hqsl], hqs.set _ hqb, d.hu, row_next d (by k_subL) hgv⟩
  · rintro σ ⟨g, qs, y1, y2, rfl, hgl, hg, hqsl, hqs, hglt, hgv⟩
    simp only [vN_length, downInts_length, hn] at hglt hgv
    rw [show f.length - n - ((f.length : Int) - (n : Int) - 1 - -1).toNat = 0 by k_subL, List.drop_zero] at hglt hgv
    rw [Nat.pow_zero, Nat.one_mul] at hgv
    top_strB <;> (try ((with_reducible first | show _ ≤ _ | show _ < _ | show (_ : Int) ≤ _ ∧ _ | show (_ : Nat) ≤ _ ∧ _ | show (_ : Int) < _ ∧ _ | show (_ : Nat) < _ ∧ _ | show (_ : Nat) = _ | show (_ : Int) = _); first | k_subL | (simp only [vN_length, List.length_append, List.length_cons, List.length_nil, List.length_replicate, List.length_set, List.length_take, List.length_drop, List.length_reverse] at * <;> k_subL)))
    exact ⟨vN g, rfl, hK qs g hqsl hqs hgl hg (by rw [hgv, Nat.add_comm]) hglt⟩
end
section
variable {prog : Program} {W : World} {p : Program} {loose : List Str} {mean : ExcName → Option Value} {mg mb : Str → Option Value}
theorem cmpI_neg {a b : Nat} : cmpI a b < 0 ↔ a < b := by
  unfold cmpI; split
  · simp [*]
  · split <;> simp <;> k_subL
theorem limbs_last_pos {B a : Nat} (hB : 2 ≤ B) (ha : 0 < a) : 0 < (limbs B a).getD ((limbs B a).length - 1) 0 := by
  have h1 := limbs_ge hB ha
  have h2 := limbs_length_pos hB ha
  have h3 := val_take_succ' B (xs := limbs B a) (i := (limbs B a).length - 1) (by k_subL)
  rw [show (limbs B a).length - 1 + 1 = (limbs B a).length by k_subL, List.take_length, val_limbs hB] at h3
  have h4 := val_lt ((rng_limbs hB a).take ((limbs B a).length - 1))
  rw [List.length_take, Nat.min_eq_left (by k_subL)] at h4
  rcases Nat.eq_zero_or_pos ((limbs B a).getD ((limbs B a).length - 1) 0) with h | h
  · rw [h, Nat.mul_zero] at h3; k_subL
  · exact h
theorem intBits_nat {t : Nat} (h : 0 < t) : Builtin.Int.intBits (t : Int) = t.log2 + 1 := by
  unfold Builtin.Int.intBits
  rw [if_neg (by simp; k_subL)]; rfl
theorem top_shift {w b : Nat} (hw : Wd w) (hb : 0 < b) : ∃ s, s < w ∧ (w : Int) - ((Builtin.Int.intBits (((limbs (2 ^ w) b).getD ((limbs (2 ^ w) b).length - 1) 0 : Nat) : Int) : Nat) : Int) = (s : Int) ∧ (limbs (2 ^ w) (b * 2 ^ s)).length = (limbs (2 ^ w) b).length := by
  have hB := hw.two
  have hp := limbs_last_pos hB hb
  have hl := limbs_length_pos hB hb
  have hr := (rng_limbs hB b).getD (by k_subL) ((limbs (2 ^ w) b).length - 1)
  have h3 := val_take_succ' (2 ^ w) (xs := limbs (2 ^ w) b) (i := (limbs (2 ^ w) b).length - 1) (by k_subL)
  rw [show (limbs (2 ^ w) b).length - 1 + 1 = (limbs (2 ^ w) b).length by k_subL, List.take_length, val_limbs hB] at h3
  have h4 := val_lt ((rng_limbs hB b).take ((limbs (2 ^ w) b).length - 1))
  rw [List.length_take, Nat.min_eq_left (by k_subL)] at h4
  have h5 := limbs_ge hB hb
  generalize ht : (limbs (2 ^ w) b).getD ((limbs (2 ^ w) b).length - 1) 0 = t at *
  generalize hm : (limbs (2 ^ w) b).length = m at *
  rw [intBits_nat hp]
  have h6 : t.log2 < w := (Nat.log2_lt (by k_subL)).mpr hr
  have h7 : t < 2 ^ (t.log2 + 1) := Nat.lt_log2_self
  refine ⟨w - (t.log2 + 1), by k_subL, by k_subL, ?_⟩
  have h8 : b < 2 ^ (t.log2 + 1) * (2 ^ w) ^ (m - 1) := by
    have : (t + 1) * (2 ^ w) ^ (m - 1) ≤ 2 ^ (t.log2 + 1) * (2 ^ w) ^ (m - 1) := Nat.mul_le_mul_right _ h7
    rw [Nat.add_mul, Nat.mul_comm t] at this; k_subL
  have hs0 : 0 < 2 ^ (w - (t.log2 + 1)) := Nat.two_pow_pos _
  have h9 : b * 2 ^ (w - (t.log2 + 1)) < (2 ^ w) ^ m := by
    have h := Nat.mul_lt_mul_of_pos_right h8 hs0
    have e : 2 ^ (t.log2 + 1) * (2 ^ w) ^ (m - 1) * 2 ^ (w - (t.log2 + 1)) = (2 ^ w) ^ m := by
      rw [Nat.mul_right_comm, ← Nat.pow_add, show t.log2 + 1 + (w - (t.log2 + 1)) = w by k_subL, ← Nat.pow_succ']; congr 1; k_subL
    rwa [e] at h
  refine Nat.le_antisymm (limbs_length_le hB h9) ?_
  rw [← hm]
  refine limbs_length_le hB (Nat.lt_of_le_of_lt ?_ (limbs_lt hB (b * 2 ^ (w - (t.log2 + 1)))))
  exact Nat.le_mul_of_pos_right _ hs0
end
section
variable {prog : Program} {W : World} {p : Program} {loose : List Str} {mean : ExcName → Option Value} {mg mb : Str → Option Value}
theorem CallsO.le {G : Gl} {n m : Nat} {f : Value} {xs args : List V} {K : V → List V → Prop} (h : CallsO G m f xs args K) (hm : m ≤ n) : CallsO G n f xs args K := fun C fz keep σ s a o vs ok i lo r => h C fz keep σ s a o vs (ok.le hm) i lo r
theorem val_zeros (B : Nat) (xs : List Nat) (n : Nat) : val B (xs ++ List.replicate n 0) = val B xs := by
  rw [val_append, val_replicate, Nat.mul_zero, Nat.add_zero]
theorem start_lt {B a b m s n : Nat} {f : List Nat} (hB : 2 ≤ B) (hs : 0 < s) (hf : Rng B f) (hv : val B f = a * s) (hl : f.length = m + 1) (ha : a < B ^ m) (hn : 0 < n) (hnm : n ≤ m + 1) (hb : B ^ (n - 1) ≤ b) : val B (f.drop (f.length - n)) < b * s := by
  have hB0 : 0 < B := by k_subL
  rw [val_drop_div hB0 hf _ (by k_subL), hv, hl, Nat.div_lt_iff_lt_mul (Nat.pow_pos hB0), Nat.mul_right_comm]
  refine Nat.mul_lt_mul_of_pos_right (Nat.lt_of_lt_of_le ha ?_) hs
  have e : B ^ m = B ^ (n - 1) * B ^ (m + 1 - n) := by rw [← Nat.pow_add]; congr 1; k_subL
  rw [e]; exact Nat.mul_le_mul_right _ hb
theorem t_divrem_school {w a b : Nat} (hw : Wd w) (ha : (limbs (2 ^ w) a).length ≤ 400) (hb : 0 < b) (hbl : (limbs (2 ^ w) b).length ≤ 400) {K : V → Prop} (hK : K (.tuple [L (2 ^ w) (a / b), L (2 ^ w) (a % b)])) : Calls (GG prog W p loose mean mg mb) 4 (.ref 315) [L (2 ^ w) a, L (2 ^ w) b, .int (w : Int)] K := by
  have hB := hw.two
  have hB0 : 0 < 2 ^ w := by k_subL
  have h8 := hw.hi
  have h256 := hw.le
  refine calls_of_body d_divrem_school rfl fun D => ?_
  top_reprB
  unfold L at *
  top_strB <;> (try ((with_reducible first | show _ ≤ _ | show _ < _ | show (_ : Int) ≤ _ ∧ _ | show (_ : Nat) ≤ _ ∧ _ | show (_ : Int) < _ ∧ _ | show (_ : Nat) < _ ∧ _ | show (_ : Nat) = _ | show (_ : Int) = _); first | k_subL | (simp only [vN_length, List.length_append, List.length_cons, List.length_nil, List.length_replicate, List.length_set, List.length_take, List.length_drop, List.length_reverse] at * <;> k_subL)))
  · rename_i h; exact absurd (limbs_length_pos hB hb) (by rw [vN_length] at h; k_subL)
  show Calls _ _ _ [L (2 ^ w) a, L (2 ^ w) b] _
  refine (t_compare hB (by k_subL) (by k_subL) ?_).le (by k_subL)
  top_strB <;> (try ((with_reducible first | show _ ≤ _ | show _ < _ | show (_ : Int) ≤ _ ∧ _ | show (_ : Nat) ≤ _ ∧ _ | show (_ : Int) < _ ∧ _ | show (_ : Nat) < _ ∧ _ | show (_ : Nat) = _ | show (_ : Int) = _); first | k_subL | (simp only [vN_length, List.length_append, List.length_cons, List.length_nil, List.length_replicate, List.length_set, List.length_take, List.length_drop, List.length_reverse] at * <;> k_subL)))
  · rename_i h _
    rw [cmpI_neg] at h
    rw [Nat.div_eq_of_lt h, Nat.mod_eq_of_lt h, limbs_zero] at hK
    show K (.tuple [.list [], .list (pick (vN (limbs (2 ^ w) a)) none none)])
    rw [pick_all]; exact hK
  · rename_i h h1
    have hb2 : b < 2 ^ w := by
      have := limbs_lt hB b
      rw [vN_length] at h1
      rwa [show (limbs (2 ^ w) b).length = 1 by k_subL, Nat.pow_one] at this
    show Calls _ _ _ [L (2 ^ w) a, L (2 ^ w) b, _] _
    exact t_divrem_small hw (by k_subL) ⟨hb, hb2⟩ hK
  · rename_i h0 h h1 _
    rw [cmpI_neg] at h
    simp only [vN_length] at h0 h1
    obtain ⟨s, hs, es, el⟩ := top_shift hw hb
    have hs0 : 0 < 2 ^ s := Nat.two_pow_pos s
    show Calls _ _ _ [.list (vN [_]), _] _
    refine (t_bits ?_).le (by k_subL)
    top_strB <;> (try ((with_reducible first | show _ ≤ _ | show _ < _ | show (_ : Int) ≤ _ ∧ _ | show (_ : Nat) ≤ _ ∧ _ | show (_ : Int) < _ ∧ _ | show (_ : Nat) < _ ∧ _ | show (_ : Nat) = _ | show (_ : Int) = _); first | k_subL | (simp only [vN_length, List.length_append, List.length_cons, List.length_nil, List.length_replicate, List.length_set, List.length_take, List.length_drop, List.length_reverse] at * <;> k_subL)))
    rw [es]
    show Calls _ _ _ [L (2 ^ w) b, _, _] _
    refine (t_shift_left hw (by k_subL) hs ?_).le (by k_subL)
    top_strB <;> (try ((with_reducible first | show _ ≤ _ | show _ < _ | show (_ : Int) ≤ _ ∧ _ | show (_ : Nat) ≤ _ ∧ _ | show (_ : Int) < _ ∧ _ | show (_ : Nat) < _ ∧ _ | show (_ : Nat) = _ | show (_ : Int) = _); first | k_subL | (simp only [vN_length, List.length_append, List.length_cons, List.length_nil, List.length_replicate, List.length_set, List.length_take, List.length_drop, List.length_reverse] at * <;> k_subL)))
    show Calls _ _ _ [L (2 ^ w) a, _, _] _
    refine (t_shift_left hw (by k_subL) hs ?_).le (by k_subL)
    have hab : b ≤ a := by k_subL
    have hlab : (limbs (2 ^ w) b).length ≤ (limbs (2 ^ w) a).length := limbs_length_le hB (Nat.lt_of_le_of_lt hab (limbs_lt hB a))
    have hla : (limbs (2 ^ w) (a * 2 ^ s)).length ≤ (limbs (2 ^ w) a).length + 1 := limbs_length_le hB (by
      rw [Nat.pow_succ]
      exact Nat.mul_lt_mul'' (limbs_lt hB a) (Nat.pow_lt_pow_right (by k_subL) hs))
    unfold L
    top_strB <;> (try ((with_reducible first | show _ ≤ _ | show _ < _ | show (_ : Int) ≤ _ ∧ _ | show (_ : Nat) ≤ _ ∧ _ | show (_ : Int) < _ ∧ _ | show (_ : Nat) < _ ∧ _ | show (_ : Nat) = _ | show (_ : Int) = _); first | k_subL | (simp only [vN_length, List.length_append, List.length_cons, List.length_nil, List.length_replicate, List.length_set, List.length_take, List.length_drop, List.length_reverse] at * <;> k_subL)))
    have hN : (limbs (2 ^ w) (a * 2 ^ s) ++ List.replicate ((limbs (2 ^ w) a).length + 1 - (limbs (2 ^ w) (a * 2 ^ s)).length) 0).length = (limbs (2 ^ w) a).length + 1 := by rw [List.length_append, List.length_replicate]; k_subL
    have hR : Rng (2 ^ w) (limbs (2 ^ w) (a * 2 ^ s) ++ List.replicate ((limbs (2 ^ w) a).length + 1 - (limbs (2 ^ w) (a * 2 ^ s)).length) 0) := (rng_limbs hB _).append (Rng.replicate hB0 _)
    have hV : val (2 ^ w) (limbs (2 ^ w) (a * 2 ^ s) ++ List.replicate ((limbs (2 ^ w) a).length + 1 - (limbs (2 ^ w) (a * 2 ^ s)).length) 0) = a * 2 ^ s := by rw [val_zeros, val_limbs hB]
    simp only [vN_length]
    rw [show ((limbs (2 ^ w) a).length : Int) + 1 - ((limbs (2 ^ w) (a * 2 ^ s)).length : Int) = (((limbs (2 ^ w) a).length + 1 - (limbs (2 ^ w) (a * 2 ^ s)).length : Nat) : Int) by k_subL, Int.toNat_natCast, vN_replicate, ← vN_append]
    generalize limbs (2 ^ w) (a * 2 ^ s) ++ List.replicate ((limbs (2 ^ w) a).length + 1 - (limbs (2 ^ w) (a * 2 ^ s)).length) 0 = f at *
    have hys := rng_limbs hB (b * 2 ^ s)
    have hyv := val_limbs hB (b * 2 ^ s)
    have hyt := limbs_last_pos hB (a := b * 2 ^ s) (Nat.mul_pos hb hs0)
    generalize limbs (2 ^ w) (b * 2 ^ s) = ys at *
    have hlt : val (2 ^ w) (f.drop (f.length - ys.length)) < val (2 ^ w) ys := by
      rw [hyv, el]
      exact start_lt hB hs0 hR hV hN (limbs_lt hB a) (by k_subL) (by k_subL) (limbs_ge hB hb)
    refine CallsO.le (t_divide_rows hw hR hys (by k_subL) (by k_subL) (by k_subL) hyt hlt fun qs f' hql hq hfl hf' hdv hfr => ?_) (by k_subL)
    rw [hV, hyv] at hdv
    rw [hyv] at hfr
    have e1 : val (2 ^ w) qs = a / b := by
      rw [← Nat.mul_div_mul_right a b hs0, hdv, Nat.mul_comm, Nat.add_comm, Nat.add_mul_div_left _ _ (Nat.mul_pos hb hs0), Nat.div_eq_of_lt hfr, Nat.zero_add]
    have e2 : val (2 ^ w) f' = a % b * 2 ^ s := by
      rw [← Nat.mul_mod_mul_right, hdv, Nat.mul_comm, Nat.add_comm, Nat.add_mul_mod_self_left, Nat.mod_eq_of_lt hfr]
    top_strB <;> (try ((with_reducible first | show _ ≤ _ | show _ < _ | show (_ : Int) ≤ _ ∧ _ | show (_ : Nat) ≤ _ ∧ _ | show (_ : Int) < _ ∧ _ | show (_ : Nat) < _ ∧ _ | show (_ : Nat) = _ | show (_ : Int) = _); first | k_subL | (simp only [vN_length, List.length_append, List.length_cons, List.length_nil, List.length_replicate, List.length_set, List.length_take, List.length_drop, List.length_reverse] at * <;> k_subL)))
    refine (t_normal hB hq (by k_subL) ?_).le (by k_subL)
    top_strB <;> (try ((with_reducible first | show _ ≤ _ | show _ < _ | show (_ : Int) ≤ _ ∧ _ | show (_ : Nat) ≤ _ ∧ _ | show (_ : Int) < _ ∧ _ | show (_ : Nat) < _ ∧ _ | show (_ : Nat) = _ | show (_ : Int) = _); first | k_subL | (simp only [vN_length, List.length_append, List.length_cons, List.length_nil, List.length_replicate, List.length_set, List.length_take, List.length_drop, List.length_reverse] at * <;> k_subL)))
    refine (t_normal hB hf' (by k_subL) ?_).le (by k_subL)
    have hl2 : (limbs (2 ^ w) (val (2 ^ w) f')).length ≤ 1000 := by
      have := limbs_length_le hB (val_lt hf')
      k_subL
    unfold L
    top_strB <;> (try ((with_reducible first | show _ ≤ _ | show _ < _ | show (_ : Int) ≤ _ ∧ _ | show (_ : Nat) ≤ _ ∧ _ | show (_ : Int) < _ ∧ _ | show (_ : Nat) < _ ∧ _ | show (_ : Nat) = _ | show (_ : Int) = _); first | k_subL | (simp only [vN_length, List.length_append, List.length_cons, List.length_nil, List.length_replicate, List.length_set, List.length_take, List.length_drop, List.length_reverse] at * <;> k_subL)))
    show Calls _ _ _ [L (2 ^ w) (val (2 ^ w) f'), _, _] _
    refine (t_shift_right hw hl2 hs ?_).le (by k_subL)
    rw [e2, Nat.mul_div_cancel _ hs0]
    unfold L
    top_strB <;> (try ((with_reducible first | show _ ≤ _ | show _ < _ | show (_ : Int) ≤ _ ∧ _ | show (_ : Nat) ≤ _ ∧ _ | show (_ : Int) < _ ∧ _ | show (_ : Nat) < _ ∧ _ | show (_ : Nat) = _ | show (_ : Int) = _); first | k_subL | (simp only [vN_length, List.length_append, List.length_cons, List.length_nil, List.length_replicate, List.length_set, List.length_take, List.length_drop, List.length_reverse] at * <;> k_subL)))
    rw [e1]; exact hK
end
section
variable {prog : Program} {W : World} {p : Program} {loose : List Str} {mean : ExcName → Option Value} {mg mb : Str → Option Value}
abbrev FD : V := .fn (.ref 315)
abbrev FM : V := .fn (.ref 273)
theorem t_check_base {b : Nat} (hb : 2 ≤ b) {K : V → Prop} (hK : K .none) : Calls (GG prog W p loose mean mg mb) 1 (.ref 149) [.int (b : Int)] K := by
  refine calls_of_body d_check_base rfl fun D => ?_
  top_reprB
  top_strB <;> (try ((with_reducible first | show _ ≤ _ | show _ < _ | show (_ : Int) ≤ _ ∧ _ | show (_ : Nat) ≤ _ ∧ _ | show (_ : Int) < _ ∧ _ | show (_ : Nat) < _ ∧ _ | show (_ : Nat) = _ | show (_ : Int) = _); first | k_subL | (simp only [vN_length, List.length_append, List.length_cons, List.length_nil, List.length_replicate, List.length_set, List.length_take, List.length_drop, List.length_reverse] at * <;> k_subL)))
  · k_subL
  exact hK
theorem t_digit_off {w a b : Nat} (hw : Wd w) (ha : a < 2 ^ 60) (hb : 2 ≤ b) (hb2 : b < 100) {K : V → Prop} (hK : K (.tuple [L (2 ^ w) (a / b), .int ((a % b : Nat) : Int)])) : Calls (GG prog W p loose mean mg mb) 5 (.ref 156) [L (2 ^ w) a, .int (b : Int), .int (w : Int), FD] K := by
  have hB := hw.two
  have h8 := hw.hi
  have hl := limbs_62 hw (n := a) (by k_subL)
  have hlb := limbs_62 hw (n := b) (by k_subL)
  refine calls_of_body d_digit_off rfl fun D => ?_
  top_reprB
  unfold L at *
  top_strB <;> (try ((with_reducible first | show _ ≤ _ | show _ < _ | show (_ : Int) ≤ _ ∧ _ | show (_ : Nat) ≤ _ ∧ _ | show (_ : Int) < _ ∧ _ | show (_ : Nat) < _ ∧ _ | show (_ : Nat) = _ | show (_ : Int) = _); first | k_subL | (simp only [vN_length, List.length_append, List.length_cons, List.length_nil, List.length_replicate, List.length_set, List.length_take, List.length_drop, List.length_reverse] at * <;> k_subL)))
  · show Calls _ _ _ [L (2 ^ w) a, _, _] _
    exact (t_divrem_limb hw (by k_subL) ⟨by k_subL, by k_subL⟩ hK).le (by k_subL)
  · refine (t_nat_of hw (by k_subL) ?_).le (by k_subL)
    top_strB <;> (try ((with_reducible first | show _ ≤ _ | show _ < _ | show (_ : Int) ≤ _ ∧ _ | show (_ : Nat) ≤ _ ∧ _ | show (_ : Int) < _ ∧ _ | show (_ : Nat) < _ ∧ _ | show (_ : Nat) = _ | show (_ : Int) = _); first | k_subL | (simp only [vN_length, List.length_append, List.length_cons, List.length_nil, List.length_replicate, List.length_set, List.length_take, List.length_drop, List.length_reverse] at * <;> k_subL)))
    show Calls _ _ _ [L (2 ^ w) a, L (2 ^ w) b, _] _
    refine t_divrem_school hw (by k_subL) (by k_subL) (by k_subL) ?_
    top_strB <;> (try ((with_reducible first | show _ ≤ _ | show _ < _ | show (_ : Int) ≤ _ ∧ _ | show (_ : Nat) ≤ _ ∧ _ | show (_ : Int) < _ ∧ _ | show (_ : Nat) < _ ∧ _ | show (_ : Nat) = _ | show (_ : Int) = _); first | k_subL | (simp only [vN_length, List.length_append, List.length_cons, List.length_nil, List.length_replicate, List.length_set, List.length_take, List.length_drop, List.length_reverse] at * <;> k_subL)))
    refine (t_plain_of hw (Nat.lt_of_le_of_lt (Nat.mod_le _ _) (by k_subL)) ?_).le (by k_subL)
    top_strB <;> (try ((with_reducible first | show _ ≤ _ | show _ < _ | show (_ : Int) ≤ _ ∧ _ | show (_ : Nat) ≤ _ ∧ _ | show (_ : Int) < _ ∧ _ | show (_ : Nat) < _ ∧ _ | show (_ : Nat) = _ | show (_ : Int) = _); first | k_subL | (simp only [vN_length, List.length_append, List.length_cons, List.length_nil, List.length_replicate, List.length_set, List.length_take, List.length_drop, List.length_reverse] at * <;> k_subL)))
    exact hK
theorem t_digits_plain {w a b : Nat} (hw : Wd w) (ha : a < 2 ^ 60) (hb : 2 ≤ b) (hb2 : b < 100) {K : V → Prop} (hK : K (.list (vN (limbs b a).reverse))) : Calls (GG prog W p loose mean mg mb) 6 (.ref 163) [L (2 ^ w) a, .int (b : Int), .int (w : Int), FD] K := by
  have hB := hw.two
  have h8 := hw.hi
  have hlb : (limbs b a).length ≤ 60 := limbs_length_le hb (Nat.lt_of_lt_of_le ha (Nat.pow_le_pow_left hb 60))
  refine calls_of_body d_digits_plain rfl fun D => ?_
  top_reprB
  unfold L at *
  top_strB <;> (try ((with_reducible first | show _ ≤ _ | show _ < _ | show (_ : Int) ≤ _ ∧ _ | show (_ : Nat) ≤ _ ∧ _ | show (_ : Int) < _ ∧ _ | show (_ : Nat) < _ ∧ _ | show (_ : Nat) = _ | show (_ : Int) = _); first | k_subL | (simp only [vN_length, List.length_append, List.length_cons, List.length_nil, List.length_replicate, List.length_set, List.length_take, List.length_drop, List.length_reverse] at * <;> k_subL)))
  rename_i A
  refine wX_while (by rfl) (fun k σ => ∃ (m : Nat) (f : List Nat) (y : V), σ = [.list (vN (limbs (2 ^ w) m)), .int (b : Int), .int (w : Int), FD, .own A (vN f), y] ∧ limbs b a = f ++ limbs b m ∧ k = m ∧ m ≤ a) ?_ a ⟨a, [], _, rfl, rfl, rfl, Nat.le_refl _⟩
  rintro k σ ⟨m, f, y, rfl, he, rfl, hm⟩
  have hf : f.length ≤ 60 := by have := congrArg List.length he; rw [List.length_append] at this; k_subL
  have hl := limbs_62 hw (n := k) (by k_subL)
  top_strB <;> (try ((with_reducible first | show _ ≤ _ | show _ < _ | show (_ : Int) ≤ _ ∧ _ | show (_ : Nat) ≤ _ ∧ _ | show (_ : Int) < _ ∧ _ | show (_ : Nat) < _ ∧ _ | show (_ : Nat) = _ | show (_ : Int) = _); first | k_subL | (simp only [vN_length, List.length_append, List.length_cons, List.length_nil, List.length_replicate, List.length_set, List.length_take, List.length_drop, List.length_reverse] at * <;> k_subL)))
  · rename_i hk
    have hk0 : 0 < k := by
      rcases Nat.eq_zero_or_pos k with h | h
      · subst h; rw [limbs_zero] at hk; simp [vN] at hk
      · exact h
    show Calls _ _ _ [L (2 ^ w) k, _, _, _] _
    refine t_digit_off hw (by k_subL) hb hb2 ?_
    unfold L
    top_strB <;> (try ((with_reducible first | show _ ≤ _ | show _ < _ | show (_ : Int) ≤ _ ∧ _ | show (_ : Nat) ≤ _ ∧ _ | show (_ : Int) < _ ∧ _ | show (_ : Nat) < _ ∧ _ | show (_ : Nat) = _ | show (_ : Int) = _); first | k_subL | (simp only [vN_length, List.length_append, List.length_cons, List.length_nil, List.length_replicate, List.length_set, List.length_take, List.length_drop, List.length_reverse] at * <;> k_subL)))
    refine ⟨k / b, Nat.div_lt_self hk0 hb, k / b, f ++ [k % b], _, by rw [vN_snoc], ?_, rfl, Nat.le_trans (Nat.div_le_self _ _) hm⟩
    rw [he, limbs_pos hb hk0, List.append_assoc]; rfl
  · rename_i hk
    have hk0 : k = 0 := by
      rcases Nat.eq_zero_or_pos k with h | h
      · exact h
      · exact absurd (limbs_length_pos hB h) (by rw [vN_length] at hk; k_subL)
    subst hk0
    rw [limbs_zero, List.append_nil] at he
    show K (.list (vN f).reverse)
    rw [vN_reverse, ← he]; exact hK
def pows (B b m : Nat) : List V := (List.range m).map fun i => L B (b ^ 2 ^ i)
theorem pows_length (B b m : Nat) : (pows B b m).length = m := by simp [pows]
theorem pows_succ (B b m : Nat) : pows B b m ++ [L B (b ^ 2 ^ m)] = pows B b (m + 1) := by simp [pows, List.range_succ]
theorem pows_last (B b m : Nat) : (pows B b (m + 1))[m]? = some (L B (b ^ 2 ^ m)) := by simp [pows]
theorem pows_butLast (B b m : Nat) : (pows B b (m + 1)).take m = pows B b m := by rw [← pows_succ, List.take_left' (pows_length B b m)]
theorem pow_sq (b m : Nat) : b ^ 2 ^ m * b ^ 2 ^ m = b ^ 2 ^ (m + 1) := by rw [← Nat.pow_add]; congr 1; rw [Nat.pow_succ]; k_subL
theorem pow_small {b i a : Nat} (hb : 2 ≤ b) (h : b ^ 2 ^ i ≤ a) (ha : a < 2 ^ 60) : i < 6 := by
  have h1 : 2 ^ 2 ^ i ≤ b ^ 2 ^ i := Nat.pow_le_pow_left hb _
  have h2 : 2 ^ i < 60 := (Nat.pow_lt_pow_iff_right (by decide : 1 < 2)).mp (by k_subL : 2 ^ 2 ^ i < 2 ^ 60)
  exact (Nat.pow_lt_pow_iff_right (by decide : 1 < 2)).mp (by k_subL : 2 ^ i < 2 ^ 6)
theorem limbs_120 {w n : Nat} (hw : Wd w) (h : n < 2 ^ 120) : (limbs (2 ^ w) n).length ≤ 120 :=
  limbs_length_le hw.two (Nat.lt_of_lt_of_le h (Nat.pow_le_pow_left hw.two 120))
theorem pow_120 {b m a : Nat} (hb2 : b < 100) (ha : a < 2 ^ 60) (h : ∀ i, i < m → b ^ 2 ^ i ≤ a) : b ^ 2 ^ m < 2 ^ 120 := by
  rcases Nat.eq_zero_or_pos m with rfl | h0
  · simp; k_subL
  · obtain ⟨j, rfl⟩ : ∃ j, m = j + 1 := ⟨m - 1, by k_subL⟩
    rw [← pow_sq]
    exact Nat.lt_of_le_of_lt (Nat.mul_le_mul (h j (by k_subL)) (h j (by k_subL))) (Nat.lt_of_lt_of_le (Nat.mul_lt_mul'' ha ha) (by decide))
theorem cmpI_le {a b : Nat} : cmpI a b ≤ 0 ↔ a ≤ b := by
  unfold cmpI; split
  · simp; k_subL
  · split <;> simp <;> k_subL
theorem t_base_powers {w a b : Nat} (hw : Wd w) (ha : a < 2 ^ 60) (hb : 2 ≤ b) (hb2 : b < 100) {K : V → Prop} (hK : ∀ m, a < b ^ 2 ^ m → (∀ i, i < m → b ^ 2 ^ i ≤ a) → K (.list (pows (2 ^ w) b m))) : Calls (GG prog W p loose mean mg mb) 3 (.ref 170) [L (2 ^ w) a, .int (b : Int), .int (w : Int), FM] K := by
  have hB := hw.two
  have h8 := hw.hi
  have hl := limbs_62 hw (n := a) (by k_subL)
  refine calls_of_body d_base_powers rfl fun D => ?_
  top_reprB
  top_strB <;> (try ((with_reducible first | show _ ≤ _ | show _ < _ | show (_ : Int) ≤ _ ∧ _ | show (_ : Nat) ≤ _ ∧ _ | show (_ : Int) < _ ∧ _ | show (_ : Nat) < _ ∧ _ | show (_ : Nat) = _ | show (_ : Int) = _); first | k_subL | (simp only [vN_length, List.length_append, List.length_cons, List.length_nil, List.length_replicate, List.length_set, List.length_take, List.length_drop, List.length_reverse] at * <;> k_subL)))
  refine (t_nat_of hw (by k_subL) ?_).le (by k_subL)
  top_strB <;> (try ((with_reducible first | show _ ≤ _ | show _ < _ | show (_ : Int) ≤ _ ∧ _ | show (_ : Nat) ≤ _ ∧ _ | show (_ : Int) < _ ∧ _ | show (_ : Nat) < _ ∧ _ | show (_ : Nat) = _ | show (_ : Int) = _); first | k_subL | (simp only [vN_length, List.length_append, List.length_cons, List.length_nil, List.length_replicate, List.length_set, List.length_take, List.length_drop, List.length_reverse] at * <;> k_subL)))
  rename_i A
  refine wX_while (by rfl) (fun k σ => ∃ m : Nat, σ = [L (2 ^ w) a, .int (b : Int), .int (w : Int), FM, .own A (pows (2 ^ w) b m), L (2 ^ w) (b ^ 2 ^ m)] ∧ k = 7 - m ∧ (∀ i, i < m → b ^ 2 ^ i ≤ a)) ?_ 7 ⟨0, by simp [pows], rfl, fun i hi => absurd hi (by k_subL)⟩
  rintro k σ ⟨m, rfl, rfl, hm⟩
  have h120 := pow_120 hb2 ha hm
  have hlp := limbs_120 hw h120
  have hmz : m < 7 := by
    rcases Nat.eq_zero_or_pos m with rfl | h0
    · k_subL
    · have := pow_small hb (hm (m - 1) (by k_subL)) ha; k_subL
  top_strB <;> (try ((with_reducible first | show _ ≤ _ | show _ < _ | show (_ : Int) ≤ _ ∧ _ | show (_ : Nat) ≤ _ ∧ _ | show (_ : Int) < _ ∧ _ | show (_ : Nat) < _ ∧ _ | show (_ : Nat) = _ | show (_ : Int) = _); first | k_subL | (simp only [vN_length, List.length_append, List.length_cons, List.length_nil, List.length_replicate, List.length_set, List.length_take, List.length_drop, List.length_reverse] at * <;> k_subL)))
  refine (t_compare hB (by k_subL) (by k_subL) ?_).le (by k_subL)
  top_strB <;> (try ((with_reducible first | show _ ≤ _ | show _ < _ | show (_ : Int) ≤ _ ∧ _ | show (_ : Nat) ≤ _ ∧ _ | show (_ : Int) < _ ∧ _ | show (_ : Nat) < _ ∧ _ | show (_ : Nat) = _ | show (_ : Int) = _); first | k_subL | (simp only [vN_length, List.length_append, List.length_cons, List.length_nil, List.length_replicate, List.length_set, List.length_take, List.length_drop, List.length_reverse] at * <;> k_subL)))
  · rw [pows_length]; k_subL
  · rename_i h
    rw [cmpI_le] at h
    have hls := limbs_62 hw (n := b ^ 2 ^ m) (by k_subL)
    have := pow_small hb h ha
    refine (t_mul_school hw (by k_subL) (by k_subL) ?_).le (by k_subL)
    top_strB <;> (try ((with_reducible first | show _ ≤ _ | show _ < _ | show (_ : Int) ≤ _ ∧ _ | show (_ : Nat) ≤ _ ∧ _ | show (_ : Int) < _ ∧ _ | show (_ : Nat) < _ ∧ _ | show (_ : Nat) = _ | show (_ : Int) = _); first | k_subL | (simp only [vN_length, List.length_append, List.length_cons, List.length_nil, List.length_replicate, List.length_set, List.length_take, List.length_drop, List.length_reverse] at * <;> k_subL)))
    rw [pow_sq, pows_succ]
    refine ⟨7 - (m + 1), by k_subL, m + 1, rfl, rfl, fun i hi => ?_⟩
    rcases Nat.lt_or_ge i m with h1 | h1
    · exact hm i h1
    · rw [show i = m by k_subL]; exact h
  · rename_i h
    rw [cmpI_le] at h
    exact hK m (by k_subL) hm
theorem t_with_noughts {ds : List Nat} {many : Nat} (h : ds.length ≤ many) (hm : many ≤ 1000) {K : V → Prop} (hK : K (.list (vN (List.replicate (many - ds.length) 0 ++ ds)))) : Calls (GG prog W p loose mean mg mb) 1 (.ref 177) [.list (vN ds), .int (many : Int)] K := by
  refine calls_of_body d_with_noughts rfl fun D => ?_
  top_reprB
  top_strB <;> (try ((with_reducible first | show _ ≤ _ | show _ < _ | show (_ : Int) ≤ _ ∧ _ | show (_ : Nat) ≤ _ ∧ _ | show (_ : Int) < _ ∧ _ | show (_ : Nat) < _ ∧ _ | show (_ : Nat) = _ | show (_ : Int) = _); first | k_subL | (simp only [vN_length, List.length_append, List.length_cons, List.length_nil, List.length_replicate, List.length_set, List.length_take, List.length_drop, List.length_reverse] at * <;> k_subL)))
  show K (.list _)
  simp only [vN_length]
  rw [show (many : Int) - (ds.length : Int) = ((many - ds.length : Nat) : Int) by k_subL, Int.toNat_natCast, vN_replicate, ← vN_append]
  exact hK
end
section
variable {prog : Program} {W : World} {p : Program} {loose : List Str} {mean : ExcName → Option Value} {mg mb : Str → Option Value}
theorem limbs_split {b k low high : Nat} (hb : 2 ≤ b) (hl : low < b ^ k) (hh : 0 < high) : limbs b (high * b ^ k + low) = limbs b low ++ List.replicate (k - (limbs b low).length) 0 ++ limbs b high := by
  have hlen := limbs_length_le hb hl
  have hb0 : 0 < b := by k_subL
  symm
  refine canon' hb (((rng_limbs hb low).append (Rng.replicate hb0 _)).append (rng_limbs hb high)) ?_ (.inr ?_)
  · rw [val_append, val_append, val_replicate, val_limbs hb, val_limbs hb, List.length_append, List.length_replicate, Nat.mul_zero, Nat.add_zero, Nat.add_sub_cancel' hlen, Nat.mul_comm, Nat.add_comm]
  · rw [List.length_append, List.length_append, List.length_replicate, Nat.add_sub_cancel' hlen]
    have h1 := limbs_ge hb hh
    have h2 := limbs_length_pos hb hh
    rw [show k + (limbs b high).length - 1 = ((limbs b high).length - 1) + k by k_subL, Nat.pow_add]
    exact Nat.le_trans (Nat.mul_le_mul_right _ h1) (Nat.le_add_right _ _)
theorem i_lastL {xs : List V} {x : V} {K : V → Prop} {m : Nat} (hl : xs.length = m + 1) (hz : m ≤ 1000) (hx : xs[m]? = some x) (h : K x) : itemV (.list xs) (.int (-1)) K :=
  i_list (by k_subL) (by k_subL) (by rw [place_neg (j := 1) (by decide) (by rfl) (by k_subL), hl]; exact hx) h
theorem t_digits_by_powers {w b : Nat} (hw : Wd w) (hb : 2 ≤ b) (hb2 : b < 100) : ∀ m, m ≤ 6 → (∀ i, i < m → b ^ 2 ^ i < 2 ^ 60) → ∀ {a least : Nat}, a < 2 ^ 60 → (m = 0 ∨ a < b ^ 2 ^ m) → ∀ {K : V → Prop}, K (.list (vN (limbs b a).reverse)) → Calls (GG prog W p loose mean mg mb) (7 + m) (.ref 184) [L (2 ^ w) a, .list (pows (2 ^ w) b m), .int (b : Int), .int (w : Int), .int (least : Int), FD] K
  | m, hm, hp, a, least, ha, ham, K, hK => by
    have hB := hw.two
    have h8 := hw.hi
    have hl := limbs_62 hw (n := a) (by k_subL)
    rw [Nat.add_comm]
    refine calls_of_body d_digits_by_powers rfl fun D => ?_
    top_reprB
    unfold L at *
    top_strB <;> (try ((with_reducible first | show _ ≤ _ | show _ < _ | show (_ : Int) ≤ _ ∧ _ | show (_ : Nat) ≤ _ ∧ _ | show (_ : Int) < _ ∧ _ | show (_ : Nat) < _ ∧ _ | show (_ : Nat) = _ | show (_ : Int) = _); first | k_subL | (simp only [vN_length, List.length_append, List.length_cons, List.length_nil, List.length_replicate, List.length_set, List.length_take, List.length_drop, List.length_reverse] at * <;> k_subL)))
    · exact (t_digits_plain hw ha hb hb2 hK).le (by k_subL)
    · rw [pows_length]; k_subL
    · exact (t_digits_plain hw ha hb hb2 hK).le (by k_subL)
    rename_i h1 h2
    rw [pows_length] at h2
    obtain ⟨j, rfl⟩ : ∃ j, m = j + 1 := ⟨m - 1, by k_subL⟩
    have haj : a < b ^ 2 ^ (j + 1) := ham.resolve_left (by k_subL)
    refine i_lastL (pows_length _ _ _) (by k_subL) (pows_last _ _ _) ?_
    top_strB <;> (try ((with_reducible first | show _ ≤ _ | show _ < _ | show (_ : Int) ≤ _ ∧ _ | show (_ : Nat) ≤ _ ∧ _ | show (_ : Int) < _ ∧ _ | show (_ : Nat) < _ ∧ _ | show (_ : Nat) = _ | show (_ : Int) = _); first | k_subL | (simp only [vN_length, List.length_append, List.length_cons, List.length_nil, List.length_replicate, List.length_set, List.length_take, List.length_drop, List.length_reverse] at * <;> k_subL)))
    · rw [pows_length]; k_subL
    · rw [pows_length]; k_subL
    · rw [pows_length]; k_subL
    · rw [pows_length]; k_subL
    rw [pick_butLast rfl, pows_length, Nat.add_sub_cancel, pows_butLast, show ((j + 1 : Nat) : Int) - 1 = (j : Int) by k_subL, shl_one]
    show Calls _ _ _ [L (2 ^ w) a, L (2 ^ w) (b ^ 2 ^ j)] _
    have hp0 : 0 < b ^ 2 ^ j := Nat.pow_pos (by k_subL)
    have hpb := hp j (by k_subL)
    have hpl := limbs_62 hw (n := b ^ 2 ^ j) (by k_subL)
    have hp' : ∀ i, i < j → b ^ 2 ^ i < 2 ^ 60 := fun i hi => hp i (by k_subL)
    have h2j : 2 ^ j ≤ 2 ^ 6 := Nat.pow_le_pow_right (by decide) (by k_subL)
    refine (t_compare hB (by k_subL) (by k_subL) ?_).le (by k_subL)
    top_strB <;> (try ((with_reducible first | show _ ≤ _ | show _ < _ | show (_ : Int) ≤ _ ∧ _ | show (_ : Nat) ≤ _ ∧ _ | show (_ : Int) < _ ∧ _ | show (_ : Nat) < _ ∧ _ | show (_ : Nat) = _ | show (_ : Int) = _); first | k_subL | (simp only [vN_length, List.length_append, List.length_cons, List.length_nil, List.length_replicate, List.length_set, List.length_take, List.length_drop, List.length_reverse] at * <;> k_subL)))
    · rename_i h
      rw [cmpI_neg] at h
      exact (t_digits_by_powers hw hb hb2 j (by k_subL) hp' ha (.inr h) hK).le (by k_subL)
    · rename_i h
      rw [cmpI_neg] at h
      show Calls _ _ _ [L (2 ^ w) a, L (2 ^ w) (b ^ 2 ^ j), _] _
      refine (t_divrem_school hw (by k_subL) hp0 (by k_subL) ?_).le (by k_subL)
      have hhigh : a / b ^ 2 ^ j < b ^ 2 ^ j := by rw [Nat.div_lt_iff_lt_mul hp0, pow_sq]; exact haj
      have hlow := Nat.mod_lt a hp0
      have hh0 : 0 < a / b ^ 2 ^ j := Nat.div_pos (by k_subL) hp0
      have hhl : (limbs b (a / b ^ 2 ^ j)).length ≤ 2 ^ j := limbs_length_le hb hhigh
      have hll : (limbs b (a % b ^ 2 ^ j)).length ≤ 2 ^ j := limbs_length_le hb hlow
      have es : (limbs b a).reverse = (limbs b (a / b ^ 2 ^ j)).reverse ++ (List.replicate (2 ^ j - (limbs b (a % b ^ 2 ^ j)).reverse.length) 0 ++ (limbs b (a % b ^ 2 ^ j)).reverse) := by
        have h := limbs_split hb hlow hh0
        rw [Nat.mul_comm, Nat.div_add_mod] at h
        rw [h, List.reverse_append, List.reverse_append, List.reverse_replicate, List.length_reverse]
      top_strB <;> (try ((with_reducible first | show _ ≤ _ | show _ < _ | show (_ : Int) ≤ _ ∧ _ | show (_ : Nat) ≤ _ ∧ _ | show (_ : Int) < _ ∧ _ | show (_ : Nat) < _ ∧ _ | show (_ : Nat) = _ | show (_ : Int) = _); first | k_subL | (simp only [vN_length, List.length_append, List.length_cons, List.length_nil, List.length_replicate, List.length_set, List.length_take, List.length_drop, List.length_reverse] at * <;> k_subL)))
      refine (t_digits_by_powers hw hb hb2 j (by k_subL) hp' (by k_subL) (.inr hhigh) ?_).le (by k_subL)
      top_strB <;> (try ((with_reducible first | show _ ≤ _ | show _ < _ | show (_ : Int) ≤ _ ∧ _ | show (_ : Nat) ≤ _ ∧ _ | show (_ : Int) < _ ∧ _ | show (_ : Nat) < _ ∧ _ | show (_ : Nat) = _ | show (_ : Int) = _); first | k_subL | (simp only [vN_length, List.length_append, List.length_cons, List.length_nil, List.length_replicate, List.length_set, List.length_take, List.length_drop, List.length_reverse] at * <;> k_subL)))
      refine (t_digits_by_powers hw hb hb2 j (by k_subL) hp' (by k_subL) (.inr hlow) ?_).le (by k_subL)
      top_strB <;> (try ((with_reducible first | show _ ≤ _ | show _ < _ | show (_ : Int) ≤ _ ∧ _ | show (_ : Nat) ≤ _ ∧ _ | show (_ : Int) < _ ∧ _ | show (_ : Nat) < _ ∧ _ | show (_ : Nat) = _ | show (_ : Int) = _); first | k_subL | (simp only [vN_length, List.length_append, List.length_cons, List.length_nil, List.length_replicate, List.length_set, List.length_take, List.length_drop, List.length_reverse] at * <;> k_subL)))
      refine (t_with_noughts (by rw [List.length_reverse]; exact hll) (by k_subL) ?_).le (by k_subL)
      top_strB <;> (try ((with_reducible first | show _ ≤ _ | show _ < _ | show (_ : Int) ≤ _ ∧ _ | show (_ : Nat) ≤ _ ∧ _ | show (_ : Int) < _ ∧ _ | show (_ : Nat) < _ ∧ _ | show (_ : Nat) = _ | show (_ : Int) = _); first | k_subL | (simp only [vN_length, List.length_append, List.length_cons, List.length_nil, List.length_replicate, List.length_set, List.length_take, List.length_drop, List.length_reverse] at * <;> k_subL)))
      rw [es, vN_append] at hK
      exact hK
theorem t_to_digits {w b a least : Nat} (hw : Wd w) (hb : 2 ≤ b) (hb2 : b < 100) (ha : a < 2 ^ 60) {K : V → Prop} (hK : K (.list (vN (limbs b a).reverse))) : Calls (GG prog W p loose mean mg mb) 20 (.ref 191) [L (2 ^ w) a, .int (b : Int), .int (w : Int), .int (least : Int), FD, FM] K := by
  have hl := limbs_62 hw (n := a) (by k_subL)
  unfold L at *
  refine calls_of_body d_to_digits rfl fun D => ?_
  top_reprB
  top_strB <;> (try ((with_reducible first | show _ ≤ _ | show _ < _ | show (_ : Int) ≤ _ ∧ _ | show (_ : Nat) ≤ _ ∧ _ | show (_ : Int) < _ ∧ _ | show (_ : Nat) < _ ∧ _ | show (_ : Nat) = _ | show (_ : Int) = _); first | k_subL | (simp only [vN_length, List.length_append, List.length_cons, List.length_nil, List.length_replicate, List.length_set, List.length_take, List.length_drop, List.length_reverse] at * <;> k_subL)))
  refine (t_check_base hb ?_).le (by k_subL)
  top_strB <;> (try ((with_reducible first | show _ ≤ _ | show _ < _ | show (_ : Int) ≤ _ ∧ _ | show (_ : Nat) ≤ _ ∧ _ | show (_ : Int) < _ ∧ _ | show (_ : Nat) < _ ∧ _ | show (_ : Nat) = _ | show (_ : Int) = _); first | k_subL | (simp only [vN_length, List.length_append, List.length_cons, List.length_nil, List.length_replicate, List.length_set, List.length_take, List.length_drop, List.length_reverse] at * <;> k_subL)))
  · refine (t_base_powers hw ha hb hb2 fun m hm hp => ?_).le (by k_subL)
    have hm6 : m ≤ 6 := by
      rcases Nat.eq_zero_or_pos m with h | h
      · k_subL
      · have := pow_small hb (hp (m - 1) (by k_subL)) ha; k_subL
    top_strB <;> (try ((with_reducible first | show _ ≤ _ | show _ < _ | show (_ : Int) ≤ _ ∧ _ | show (_ : Nat) ≤ _ ∧ _ | show (_ : Int) < _ ∧ _ | show (_ : Nat) < _ ∧ _ | show (_ : Nat) = _ | show (_ : Int) = _); first | k_subL | (simp only [vN_length, List.length_append, List.length_cons, List.length_nil, List.length_replicate, List.length_set, List.length_take, List.length_drop, List.length_reverse] at * <;> k_subL)))
    exact (t_digits_by_powers hw hb hb2 m hm6 (fun i hi => Nat.lt_of_le_of_lt (hp i hi) ha) ha (.inr hm) hK).le (by k_subL)
  · exact (t_digits_by_powers hw hb hb2 0 (by k_subL) (fun i hi => absurd hi (by k_subL)) ha (.inl rfl) hK).le (by k_subL)
end
section
variable {prog : Program} {W : World} {p : Program} {loose : List Str} {mean : ExcName → Option Value} {mg mb : Str → Option Value}
def hv (b : Nat) (ds : List Nat) : Nat := ds.foldl (fun n d => n * b + d) 0
theorem foldl_hv (b : Nat) : ∀ (ds : List Nat) (n : Nat), ds.foldl (fun n d => n * b + d) n = n * b ^ ds.length + hv b ds
  | [], n => by simp [hv]
  | d :: ds, n => by
    show ds.foldl (fun n d => n * b + d) (n * b + d) = n * b ^ (ds.length + 1) + ds.foldl (fun n d => n * b + d) (0 * b + d)
    rw [foldl_hv b ds (n * b + d), foldl_hv b ds (0 * b + d), Nat.pow_succ', Nat.zero_mul, Nat.zero_add, Nat.add_mul, Nat.mul_assoc]; k_subL
theorem hv_append (b : Nat) (xs ys : List Nat) : hv b (xs ++ ys) = hv b xs * b ^ ys.length + hv b ys := by
  rw [hv, List.foldl_append, foldl_hv]; rfl
theorem hv_snoc (b : Nat) (xs : List Nat) (y : Nat) : hv b (xs ++ [y]) = hv b xs * b + y := by
  rw [hv_append]; simp [hv]
theorem hv_take_succ (b : Nat) {ds : List Nat} {k : Nat} (h : k < ds.length) : hv b (ds.take (k + 1)) = hv b (ds.take k) * b + ds.getD k 0 := by
  rw [List.take_add_one, List.getElem?_eq_getElem h, getD_eq h]; exact hv_snoc b _ _
theorem hv_val (b : Nat) : ∀ ds : List Nat, hv b ds = val b ds.reverse
  | [] => rfl
  | d :: ds => by rw [List.reverse_cons, val_snoc, ← hv_val b ds, show d :: ds = [d] ++ ds from rfl, hv_append, List.length_reverse]; simp [hv]; rw [Nat.mul_comm]; k_subL
theorem Rng.reverse {B : Nat} {xs : List Nat} (h : Rng B xs) : Rng B xs.reverse := fun x hx => h x (List.mem_reverse.mp hx)
theorem hv_lt {b : Nat} {ds : List Nat} (h : Rng b ds) : hv b ds < b ^ ds.length := by
  rw [hv_val, ← List.length_reverse]; exact val_lt h.reverse
theorem hv_60 {b : Nat} (hb2 : b < 100) {ds : List Nat} (h : Rng b ds) (hl : ds.length ≤ 9) : hv b ds < 2 ^ 60 := by
  rcases Nat.eq_zero_or_pos b with rfl | h0
  · have := hv_lt h
    rcases Nat.eq_zero_or_pos ds.length with e | e
    · rw [List.length_eq_zero_iff.mp e]; decide
    · rw [Nat.zero_pow e] at this; k_subL
  · refine Nat.lt_of_lt_of_le (hv_lt h) (Nat.le_trans (Nat.pow_le_pow_right h0 hl) (Nat.le_trans (Nat.pow_le_pow_left (Nat.le_of_lt hb2) 9) (by decide)))
theorem t_times_base {w a b : Nat} (hw : Wd w) (ha : a < 2 ^ 60) (hb : 2 ≤ b) (hb2 : b < 100) {K : V → Prop} (hK : K (L (2 ^ w) (a * b))) : Calls (GG prog W p loose mean mg mb) 3 (.ref 198) [L (2 ^ w) a, .int (b : Int), .int (w : Int), FM] K := by
  have hB := hw.two
  have h8 := hw.hi
  have hl := limbs_62 hw (n := a) (by k_subL)
  have hlb := limbs_62 hw (n := b) (by k_subL)
  refine calls_of_body d_times_base rfl fun D => ?_
  top_reprB
  top_strB <;> (try ((with_reducible first | show _ ≤ _ | show _ < _ | show (_ : Int) ≤ _ ∧ _ | show (_ : Nat) ≤ _ ∧ _ | show (_ : Int) < _ ∧ _ | show (_ : Nat) < _ ∧ _ | show (_ : Nat) = _ | show (_ : Int) = _); first | k_subL | (simp only [vN_length, List.length_append, List.length_cons, List.length_nil, List.length_replicate, List.length_set, List.length_take, List.length_drop, List.length_reverse] at * <;> k_subL)))
  · exact (t_mul_limb hw (by k_subL) ⟨by k_subL, by k_subL⟩ hK).le (by k_subL)
  · refine (t_nat_of hw (by k_subL) ?_).le (by k_subL)
    top_strB <;> (try ((with_reducible first | show _ ≤ _ | show _ < _ | show (_ : Int) ≤ _ ∧ _ | show (_ : Nat) ≤ _ ∧ _ | show (_ : Int) < _ ∧ _ | show (_ : Nat) < _ ∧ _ | show (_ : Nat) = _ | show (_ : Int) = _); first | k_subL | (simp only [vN_length, List.length_append, List.length_cons, List.length_nil, List.length_replicate, List.length_set, List.length_take, List.length_drop, List.length_reverse] at * <;> k_subL)))
    exact (t_mul_school hw (by k_subL) (by k_subL) hK).le (by k_subL)
theorem t_number_plain {w b : Nat} {ds : List Nat} (hw : Wd w) (hb : 2 ≤ b) (hb2 : b < 100) (hd : Rng b ds) (hl : ds.length ≤ 9) {K : V → Prop} (hK : K (L (2 ^ w) (hv b ds))) : Calls (GG prog W p loose mean mg mb) 4 (.ref 205) [.list (vN ds), .int (b : Int), .int (w : Int), FM] K := by
  have hB := hw.two
  have h8 := hw.hi
  refine calls_of_body d_number_plain rfl fun D => ?_
  top_reprB
  refine wX_assign ?_ (by with_unfolding_all rfl)
  top_strB <;> (try ((with_reducible first | show _ ≤ _ | show _ < _ | show (_ : Int) ≤ _ ∧ _ | show (_ : Nat) ≤ _ ∧ _ | show (_ : Int) < _ ∧ _ | show (_ : Nat) < _ ∧ _ | show (_ : Nat) = _ | show (_ : Int) = _); first | k_subL | (simp only [vN_length, List.length_append, List.length_cons, List.length_nil, List.length_replicate, List.length_set, List.length_take, List.length_drop, List.length_reverse] at * <;> k_subL)))
  top_raiseB0
  top_strB <;> (try ((with_reducible first | show _ ≤ _ | show _ < _ | show (_ : Int) ≤ _ ∧ _ | show (_ : Nat) ≤ _ ∧ _ | show (_ : Int) < _ ∧ _ | show (_ : Nat) < _ ∧ _ | show (_ : Nat) = _ | show (_ : Int) = _); first | k_subL | (simp only [vN_length, List.length_append, List.length_cons, List.length_nil, List.length_replicate, List.length_set, List.length_take, List.length_drop, List.length_reverse] at * <;> k_subL)))
  refine ⟨fun k σ => ∃ y : V, σ = [.list (vN ds), .int (b : Int), .int (w : Int), FM, L (2 ^ w) (hv b (ds.take k)), y], ⟨V.undef, by simp [hv, L, limbs_zero, vN]⟩, ?_, ?_⟩
  · rintro k x σ hk0 ⟨y, rfl⟩
    obtain ⟨hk, rfl⟩ := vN_get' hk0
    have h1 := hd.getD (by k_subL) k
    have h60 := hv_60 hb2 (hd.take k) (by rw [List.length_take]; k_subL)
    have h60' := hv_60 hb2 (hd.take (k + 1)) (by rw [List.length_take]; k_subL)
    rw [hv_take_succ b hk] at h60'
    have hl1 := limbs_62 hw (n := hv b (ds.take k) * b) (by k_subL)
    have hl2 := limbs_62 hw (n := ds.getD k 0) (by k_subL)
    top_strB <;> (try ((with_reducible first | show _ ≤ _ | show _ < _ | show (_ : Int) ≤ _ ∧ _ | show (_ : Nat) ≤ _ ∧ _ | show (_ : Int) < _ ∧ _ | show (_ : Nat) < _ ∧ _ | show (_ : Nat) = _ | show (_ : Int) = _); first | k_subL | (simp only [vN_length, List.length_append, List.length_cons, List.length_nil, List.length_replicate, List.length_set, List.length_take, List.length_drop, List.length_reverse] at * <;> k_subL)))
    refine (t_times_base hw h60 hb hb2 ?_).le (by k_subL)
    top_strB <;> (try ((with_reducible first | show _ ≤ _ | show _ < _ | show (_ : Int) ≤ _ ∧ _ | show (_ : Nat) ≤ _ ∧ _ | show (_ : Int) < _ ∧ _ | show (_ : Nat) < _ ∧ _ | show (_ : Nat) = _ | show (_ : Int) = _); first | k_subL | (simp only [vN_length, List.length_append, List.length_cons, List.length_nil, List.length_replicate, List.length_set, List.length_take, List.length_drop, List.length_reverse] at * <;> k_subL)))
    refine (t_nat_of hw (by k_subL) ?_).le (by k_subL)
    top_strB <;> (try ((with_reducible first | show _ ≤ _ | show _ < _ | show (_ : Int) ≤ _ ∧ _ | show (_ : Nat) ≤ _ ∧ _ | show (_ : Int) < _ ∧ _ | show (_ : Nat) < _ ∧ _ | show (_ : Nat) = _ | show (_ : Int) = _); first | k_subL | (simp only [vN_length, List.length_append, List.length_cons, List.length_nil, List.length_replicate, List.length_set, List.length_take, List.length_drop, List.length_reverse] at * <;> k_subL)))
    refine (t_add hw (by k_subL) (by k_subL) ?_).le (by k_subL)
    top_strB <;> (try ((with_reducible first | show _ ≤ _ | show _ < _ | show (_ : Int) ≤ _ ∧ _ | show (_ : Nat) ≤ _ ∧ _ | show (_ : Int) < _ ∧ _ | show (_ : Nat) < _ ∧ _ | show (_ : Nat) = _ | show (_ : Int) = _); first | k_subL | (simp only [vN_length, List.length_append, List.length_cons, List.length_nil, List.length_replicate, List.length_set, List.length_take, List.length_drop, List.length_reverse] at * <;> k_subL)))
    exact ⟨_, by rw [hv_take_succ b hk]⟩
  · rintro σ ⟨y, rfl⟩
    rw [vN_length, List.take_length]
    top_strB <;> (try ((with_reducible first | show _ ≤ _ | show _ < _ | show (_ : Int) ≤ _ ∧ _ | show (_ : Nat) ≤ _ ∧ _ | show (_ : Int) < _ ∧ _ | show (_ : Nat) < _ ∧ _ | show (_ : Nat) = _ | show (_ : Int) = _); first | k_subL | (simp only [vN_length, List.length_append, List.length_cons, List.length_nil, List.length_replicate, List.length_set, List.length_take, List.length_drop, List.length_reverse] at * <;> k_subL)))
    exact hK
end
section
variable {prog : Program} {W : World} {p : Program} {loose : List Str} {mean : ExcName → Option Value} {mg mb : Str → Option Value}
theorem pows_get {B b m t : Nat} (h : t < m) : (pows B b m)[t]? = some (L B (b ^ 2 ^ t)) := by
  unfold pows; rw [List.getElem?_map, List.getElem?_range h]; rfl
theorem t_number_by_powers {w b m : Nat} (hw : Wd w) (hb : 2 ≤ b) (hb2 : b < 100) (hm : m ≤ 6) (hp : ∀ i, i < m → b ^ 2 ^ i < 2 ^ 60) : ∀ n, ∀ {ds : List Nat} {least : Nat}, ds.length = n → n ≤ 9 → Rng b ds → ∀ {K : V → Prop}, K (L (2 ^ w) (hv b ds)) → Calls (GG prog W p loose mean mg mb) (6 + n) (.ref 212) [.list (vN ds), .list (pows (2 ^ w) b m), .int (b : Int), .int (w : Int), .int (least : Int), FM] K
  | n, ds, least, hn, hn9, hd, K, hK => by
    have hB := hw.two
    have h8 := hw.hi
    rw [Nat.add_comm]
    refine calls_of_body d_number_by_powers rfl fun D => ?_
    top_reprB
    top_strB <;> (try ((with_reducible first | show _ ≤ _ | show _ < _ | show (_ : Int) ≤ _ ∧ _ | show (_ : Nat) ≤ _ ∧ _ | show (_ : Int) < _ ∧ _ | show (_ : Nat) < _ ∧ _ | show (_ : Nat) = _ | show (_ : Int) = _); first | k_subL | (simp only [vN_length, List.length_append, List.length_cons, List.length_nil, List.length_replicate, List.length_set, List.length_take, List.length_drop, List.length_reverse] at * <;> k_subL)))
    · rw [pows_length]; k_subL
    rw [pows_length]
    refine wX_while (by rfl) (fun k σ => ∃ (y1 y2 y3 : V), σ = [.list (vN ds), .list (pows (2 ^ w) b m), .int (b : Int), .int (w : Int), .int (least : Int), FM, .int ((k : Int) - 1), y1, y2, y3] ∧ k ≤ m) ?_ m ⟨_, _, _, rfl, Nat.le_refl _⟩
    rintro k σ ⟨y1, y2, y3, rfl, hk⟩
    top_strB <;> (try ((with_reducible first | show _ ≤ _ | show _ < _ | show (_ : Int) ≤ _ ∧ _ | show (_ : Nat) ≤ _ ∧ _ | show (_ : Int) < _ ∧ _ | show (_ : Nat) < _ ∧ _ | show (_ : Nat) = _ | show (_ : Int) = _); first | k_subL | (simp only [vN_length, List.length_append, List.length_cons, List.length_nil, List.length_replicate, List.length_set, List.length_take, List.length_drop, List.length_reverse] at * <;> k_subL)))
    · exact (t_number_plain hw hb hb2 hd (by k_subL) hK).le (by k_subL)
    · exact (t_number_plain hw hb hb2 hd (by k_subL) hK).le (by k_subL)
    · exact (t_number_plain hw hb hb2 hd (by k_subL) hK).le (by k_subL)
    · rename_i h1 h2 h3 h4
      obtain ⟨t, rfl⟩ : ∃ t, k = t + 1 := ⟨k - 1, by k_subL⟩
      rw [show ((t + 1 : Nat) : Int) - 1 = (t : Int) by k_subL, shl_one, vN_length] at h2
      simp only [vN_length] at h3
      rw [show ((t + 1 : Nat) : Int) - 1 = (t : Int) by k_subL, shl_one]
      simp only [vN_length]
      have ht0 : 0 < 2 ^ t := Nat.two_pow_pos t
      have hlt : 2 ^ t < ds.length := by k_subL
      have e1 : pick (vN ds) none (some ((ds.length : Int) - ((2 ^ t : Nat) : Int))) = vN (ds.take (ds.length - 2 ^ t)) := by rw [pick_upto (n := ds.length - 2 ^ t) (by k_subL), vN_take]
      have e2 : pick (vN ds) (some ((ds.length : Int) - ((2 ^ t : Nat) : Int))) none = vN (ds.drop (ds.length - 2 ^ t)) := by rw [pick_from (n := ds.length - 2 ^ t) (by k_subL), vN_drop]
      have hl1 : (ds.take (ds.length - 2 ^ t)).length = ds.length - 2 ^ t := by rw [List.length_take]; k_subL
      have hl2 : (ds.drop (ds.length - 2 ^ t)).length = 2 ^ t := by rw [List.length_drop]; k_subL
      have hv1 := hv_60 hb2 (hd.take (ds.length - 2 ^ t)) (by k_subL)
      have hv2 := hv_60 hb2 (hd.drop (ds.length - 2 ^ t)) (by k_subL)
      have hv3 := hv_60 hb2 hd (by k_subL)
      have hsplit : hv b ds = hv b (ds.take (ds.length - 2 ^ t)) * b ^ 2 ^ t + hv b (ds.drop (ds.length - 2 ^ t)) := by
        have h := hv_append b (ds.take (ds.length - 2 ^ t)) (ds.drop (ds.length - 2 ^ t))
        rwa [List.take_append_drop, hl2] at h
      have hpt := hp t (by k_subL)
      have b1 := limbs_62 hw (n := hv b (ds.take (ds.length - 2 ^ t))) (by k_subL)
      have b2 := limbs_62 hw (n := hv b (ds.drop (ds.length - 2 ^ t))) (by k_subL)
      have b3 := limbs_62 hw (n := b ^ 2 ^ t) (by k_subL)
      have b4 := limbs_62 hw (n := hv b (ds.take (ds.length - 2 ^ t)) * b ^ 2 ^ t) (by k_subL)
      rw [e1]
      refine (t_number_by_powers hw hb hb2 hm hp (ds.length - 2 ^ t) hl1 (by k_subL) (hd.take _) ?_).le (by k_subL)
      top_strB <;> (try ((with_reducible first | show _ ≤ _ | show _ < _ | show (_ : Int) ≤ _ ∧ _ | show (_ : Nat) ≤ _ ∧ _ | show (_ : Int) < _ ∧ _ | show (_ : Nat) < _ ∧ _ | show (_ : Nat) = _ | show (_ : Int) = _); first | k_subL | (simp only [vN_length, List.length_append, List.length_cons, List.length_nil, List.length_replicate, List.length_set, List.length_take, List.length_drop, List.length_reverse] at * <;> k_subL)))
      rw [e2]
      refine (t_number_by_powers hw hb hb2 hm hp (2 ^ t) hl2 (by k_subL) (hd.drop _) ?_).le (by k_subL)
      top_strB <;> (try ((with_reducible first | show _ ≤ _ | show _ < _ | show (_ : Int) ≤ _ ∧ _ | show (_ : Nat) ≤ _ ∧ _ | show (_ : Int) < _ ∧ _ | show (_ : Nat) < _ ∧ _ | show (_ : Nat) = _ | show (_ : Int) = _); first | k_subL | (simp only [vN_length, List.length_append, List.length_cons, List.length_nil, List.length_replicate, List.length_set, List.length_take, List.length_drop, List.length_reverse] at * <;> k_subL)))
      refine i_list (x := L (2 ^ w) (b ^ 2 ^ t)) (by k_subL) (by rw [pows_length]; k_subL) (by rw [place_nat rfl]; exact pows_get (by k_subL)) ?_
      top_strB <;> (try ((with_reducible first | show _ ≤ _ | show _ < _ | show (_ : Int) ≤ _ ∧ _ | show (_ : Nat) ≤ _ ∧ _ | show (_ : Int) < _ ∧ _ | show (_ : Nat) < _ ∧ _ | show (_ : Nat) = _ | show (_ : Int) = _); first | k_subL | (simp only [vN_length, List.length_append, List.length_cons, List.length_nil, List.length_replicate, List.length_set, List.length_take, List.length_drop, List.length_reverse] at * <;> k_subL)))
      refine (t_mul_school hw (by k_subL) (by k_subL) ?_).le (by k_subL)
      top_strB <;> (try ((with_reducible first | show _ ≤ _ | show _ < _ | show (_ : Int) ≤ _ ∧ _ | show (_ : Nat) ≤ _ ∧ _ | show (_ : Int) < _ ∧ _ | show (_ : Nat) < _ ∧ _ | show (_ : Nat) = _ | show (_ : Int) = _); first | k_subL | (simp only [vN_length, List.length_append, List.length_cons, List.length_nil, List.length_replicate, List.length_set, List.length_take, List.length_drop, List.length_reverse] at * <;> k_subL)))
      refine (t_add hw (by k_subL) (by k_subL) ?_).le (by k_subL)
      top_strB <;> (try ((with_reducible first | show _ ≤ _ | show _ < _ | show (_ : Int) ≤ _ ∧ _ | show (_ : Nat) ≤ _ ∧ _ | show (_ : Int) < _ ∧ _ | show (_ : Nat) < _ ∧ _ | show (_ : Nat) = _ | show (_ : Int) = _); first | k_subL | (simp only [vN_length, List.length_append, List.length_cons, List.length_nil, List.length_replicate, List.length_set, List.length_take, List.length_drop, List.length_reverse] at * <;> k_subL)))
      rw [hsplit] at hK
      exact hK
    · rename_i h1 h2
      obtain ⟨t, rfl⟩ : ∃ t, k = t + 1 := ⟨k - 1, by k_subL⟩
      exact ⟨t, by k_subL, _, _, _, by rw [show ((t + 1 : Nat) : Int) - 1 = (t : Int) by k_subL], by k_subL⟩
termination_by n => n
end
section
variable {prog : Program} {W : World} {p : Program} {loose : List Str} {mean : ExcName → Option Value} {mg mb : Str → Option Value}
theorem t_from_digits {w b least : Nat} {ds : List Nat} (hw : Wd w) (hb : 2 ≤ b) (hb2 : b < 100) (hd : Rng b ds) (hl : ds.length ≤ 9) {K : V → Prop} (hK : K (L (2 ^ w) (hv b ds))) : Calls (GG prog W p loose mean mg mb) 20 (.ref 219) [.list (vN ds), .int (b : Int), .int (w : Int), .int (least : Int), FM] K := by
  have hB := hw.two
  have h8 := hw.hi
  refine calls_of_body d_from_digits rfl fun D => ?_
  top_reprB
  top_strB <;> (try ((with_reducible first | show _ ≤ _ | show _ < _ | show (_ : Int) ≤ _ ∧ _ | show (_ : Nat) ≤ _ ∧ _ | show (_ : Int) < _ ∧ _ | show (_ : Nat) < _ ∧ _ | show (_ : Nat) = _ | show (_ : Int) = _); first | k_subL | (simp only [vN_length, List.length_append, List.length_cons, List.length_nil, List.length_replicate, List.length_set, List.length_take, List.length_drop, List.length_reverse] at * <;> k_subL)))
  refine (t_check_base hb ?_).le (by k_subL)
  top_strB <;> (try ((with_reducible first | show _ ≤ _ | show _ < _ | show (_ : Int) ≤ _ ∧ _ | show (_ : Nat) ≤ _ ∧ _ | show (_ : Int) < _ ∧ _ | show (_ : Nat) < _ ∧ _ | show (_ : Nat) = _ | show (_ : Int) = _); first | k_subL | (simp only [vN_length, List.length_append, List.length_cons, List.length_nil, List.length_replicate, List.length_set, List.length_take, List.length_drop, List.length_reverse] at * <;> k_subL)))
  top_raiseB0
  top_strB <;> (try ((with_reducible first | show _ ≤ _ | show _ < _ | show (_ : Int) ≤ _ ∧ _ | show (_ : Nat) ≤ _ ∧ _ | show (_ : Int) < _ ∧ _ | show (_ : Nat) < _ ∧ _ | show (_ : Nat) = _ | show (_ : Int) = _); first | k_subL | (simp only [vN_length, List.length_append, List.length_cons, List.length_nil, List.length_replicate, List.length_set, List.length_take, List.length_drop, List.length_reverse] at * <;> k_subL)))
  refine ⟨fun k σ => ∃ y : V, σ = [.list (vN ds), .int (b : Int), .int (w : Int), .int (least : Int), FM, y, .undef], ⟨_, rfl⟩, ?_, ?_⟩
  · rintro k x σ hk0 ⟨y, rfl⟩
    obtain ⟨hk, rfl⟩ := vN_get' hk0
    have h1 := hd.getD (by k_subL) k
    top_strB <;> (try ((with_reducible first | show _ ≤ _ | show _ < _ | show (_ : Int) ≤ _ ∧ _ | show (_ : Nat) ≤ _ ∧ _ | show (_ : Int) < _ ∧ _ | show (_ : Nat) < _ ∧ _ | show (_ : Nat) = _ | show (_ : Int) = _); first | k_subL | (simp only [vN_length, List.length_append, List.length_cons, List.length_nil, List.length_replicate, List.length_set, List.length_take, List.length_drop, List.length_reverse] at * <;> k_subL)))
    all_goals first | k_subL | exact ⟨_, rfl⟩
  · rintro σ ⟨y, rfl⟩
    top_strB <;> (try ((with_reducible first | show _ ≤ _ | show _ < _ | show (_ : Int) ≤ _ ∧ _ | show (_ : Nat) ≤ _ ∧ _ | show (_ : Int) < _ ∧ _ | show (_ : Nat) < _ ∧ _ | show (_ : Nat) = _ | show (_ : Int) = _); first | k_subL | (simp only [vN_length, List.length_append, List.length_cons, List.length_nil, List.length_replicate, List.length_set, List.length_take, List.length_drop, List.length_reverse] at * <;> k_subL)))
    · rename_i A hlong
      refine (t_nat_of hw (by k_subL) ?_).le (by k_subL)
      top_strB <;> (try ((with_reducible first | show _ ≤ _ | show _ < _ | show (_ : Int) ≤ _ ∧ _ | show (_ : Nat) ≤ _ ∧ _ | show (_ : Int) < _ ∧ _ | show (_ : Nat) < _ ∧ _ | show (_ : Nat) = _ | show (_ : Int) = _); first | k_subL | (simp only [vN_length, List.length_append, List.length_cons, List.length_nil, List.length_replicate, List.length_set, List.length_take, List.length_drop, List.length_reverse] at * <;> k_subL)))
      refine wX_while (by rfl) (fun k σ => ∃ m : Nat, σ = [.list (vN ds), .int (b : Int), .int (w : Int), .int (least : Int), FM, y, .own A (pows (2 ^ w) b m)] ∧ 1 ≤ m ∧ m ≤ 4 ∧ k = 10 - m) ?_ 9 ⟨1, by simp [pows], by k_subL, by k_subL, rfl⟩
      rintro k σ ⟨m, rfl, hm1, hm4, rfl⟩
      have hp : ∀ i, i < m → b ^ 2 ^ i < 2 ^ 60 := fun i hi => by
        have h1 : 2 ^ i ≤ 2 ^ 3 := Nat.pow_le_pow_right (by decide) (by k_subL)
        have h2 : b ^ 2 ^ i ≤ b ^ 8 := Nat.pow_le_pow_right (by k_subL) h1
        have h3 : b ^ 8 ≤ 100 ^ 8 := Nat.pow_le_pow_left (by k_subL) 8
        exact Nat.lt_of_le_of_lt (Nat.le_trans h2 h3) (by decide)
      obtain ⟨j, rfl⟩ : ∃ j, m = j + 1 := ⟨m - 1, by k_subL⟩
      have ej : (((pows (2 ^ w) b (j + 1)).length : Int) - 1).toNat = j := by rw [pows_length]; k_subL
      top_strB <;> (try ((with_reducible first | show _ ≤ _ | show _ < _ | show (_ : Int) ≤ _ ∧ _ | show (_ : Nat) ≤ _ ∧ _ | show (_ : Int) < _ ∧ _ | show (_ : Nat) < _ ∧ _ | show (_ : Nat) = _ | show (_ : Int) = _); first | k_subL | (simp only [vN_length, List.length_append, List.length_cons, List.length_nil, List.length_replicate, List.length_set, List.length_take, List.length_drop, List.length_reverse] at * <;> k_subL)))
      · rw [pows_length]; k_subL
      · rename_i hc
        rw [ej] at hc
        rw [vN_length, show (2 : Int) ^ j = ((2 ^ j : Nat) : Int) by rw [Int.natCast_pow]; rfl] at hc
        have hj3 : j + 1 ≤ 3 := by
          have h : 2 ^ (j + 1) < 2 ^ 4 := by rw [Nat.pow_succ]; k_subL
          have := (Nat.pow_lt_pow_iff_right (by decide : 1 < 2)).mp h
          k_subL
        have hpj := hp j (by k_subL)
        have hl1 := limbs_62 hw (n := b ^ 2 ^ j) (by k_subL)
        refine i_lastL (pows_length _ _ _) (by k_subL) (pows_last _ _ _) ?_
        top_strB <;> (try ((with_reducible first | show _ ≤ _ | show _ < _ | show (_ : Int) ≤ _ ∧ _ | show (_ : Nat) ≤ _ ∧ _ | show (_ : Int) < _ ∧ _ | show (_ : Nat) < _ ∧ _ | show (_ : Nat) = _ | show (_ : Int) = _); first | k_subL | (simp only [vN_length, List.length_append, List.length_cons, List.length_nil, List.length_replicate, List.length_set, List.length_take, List.length_drop, List.length_reverse] at * <;> k_subL)))
        refine i_lastL (pows_length _ _ _) (by k_subL) (pows_last _ _ _) ?_
        top_strB <;> (try ((with_reducible first | show _ ≤ _ | show _ < _ | show (_ : Int) ≤ _ ∧ _ | show (_ : Nat) ≤ _ ∧ _ | show (_ : Int) < _ ∧ _ | show (_ : Nat) < _ ∧ _ | show (_ : Nat) = _ | show (_ : Int) = _); first | k_subL | (simp only [vN_length, List.length_append, List.length_cons, List.length_nil, List.length_replicate, List.length_set, List.length_take, List.length_drop, List.length_reverse] at * <;> k_subL)))
        refine (t_mul_school hw (by k_subL) (by k_subL) ?_).le (by k_subL)
        rw [pow_sq]
        top_strB <;> (try ((with_reducible first | show _ ≤ _ | show _ < _ | show (_ : Int) ≤ _ ∧ _ | show (_ : Nat) ≤ _ ∧ _ | show (_ : Int) < _ ∧ _ | show (_ : Nat) < _ ∧ _ | show (_ : Nat) = _ | show (_ : Int) = _); first | k_subL | (simp only [vN_length, List.length_append, List.length_cons, List.length_nil, List.length_replicate, List.length_set, List.length_take, List.length_drop, List.length_reverse] at * <;> k_subL)))
        rw [pows_succ]
        exact ⟨10 - (j + 1 + 1), by k_subL, j + 1 + 1, rfl, by k_subL, by k_subL, rfl⟩
      · exact (t_number_by_powers (m := j + 1) hw hb hb2 (by k_subL) hp ds.length rfl (by k_subL) hd hK).le (by k_subL)
    · exact (t_number_by_powers (m := 0) hw hb hb2 (by k_subL) (fun i hi => absurd hi (by k_subL)) ds.length rfl (by k_subL) hd hK).le (by k_subL)
end
section
variable {prog : Program} {W : World} {p : Program} {loose : List Str} {mean : ExcName → Option Value} {mg mb : Str → Option Value}
def lettersA (b : Nat) : Array UInt8 := if b ≤ 36 then smallA else bothA
theorem t_letters_of {b : Nat} (hb : 2 ≤ b) (hb2 : b ≤ 62) {K : V → Prop} (hK : K (.bytes (lettersA b))) : Calls (GG prog W p loose mean mg mb) 1 (.ref 226) [.int (b : Int)] K := by
  refine calls_of_body d_letters_of rfl fun D => ?_
  top_reprB
  unfold lettersA at hK
  top_strB <;> (try ((with_reducible first | show _ ≤ _ | show _ < _ | show (_ : Int) ≤ _ ∧ _ | show (_ : Nat) ≤ _ ∧ _ | show (_ : Int) < _ ∧ _ | show (_ : Nat) < _ ∧ _ | show (_ : Nat) = _ | show (_ : Int) = _); first | k_subL | (simp only [vN_length, List.length_append, List.length_cons, List.length_nil, List.length_replicate, List.length_set, List.length_take, List.length_drop, List.length_reverse] at * <;> k_subL)))
  all_goals first | k_subL | (rw [if_pos (by k_subL)] at hK; exact hK) | (rw [if_neg (by k_subL)] at hK; exact hK)
def dw (o b : Nat) : Nat := if 48 ≤ o ∧ o ≤ 57 then o - 48 else if 65 ≤ o ∧ o ≤ 90 then o - 55 else if 97 ≤ o ∧ o ≤ 122 then (if b > 36 then o - 61 else o - 87) else 99
theorem t_digit_worth {o b : Nat} {K : V → Prop} (hK : K (.int ((dw o b : Nat) : Int))) : Calls (GG prog W p loose mean mg mb) 1 (.ref 238) [.int (o : Int), .int (b : Int)] K := by
  refine calls_of_body d_digit_worth rfl fun D => ?_
  top_reprB
  unfold dw at hK
  top_strB <;> (try ((with_reducible first | show _ ≤ _ | show _ < _ | show (_ : Int) ≤ _ ∧ _ | show (_ : Nat) ≤ _ ∧ _ | show (_ : Int) < _ ∧ _ | show (_ : Nat) < _ ∧ _ | show (_ : Nat) = _ | show (_ : Int) = _); first | k_subL | (simp only [vN_length, List.length_append, List.length_cons, List.length_nil, List.length_replicate, List.length_set, List.length_take, List.length_drop, List.length_reverse] at * <;> k_subL)))
  all_goals (refine Eq.mp (congrArg (fun i => K (V.int i)) ?_) hK; (repeat' split) <;> k_subL)
def bt (xs : List Nat) : Array UInt8 := (xs.map Nat.toUInt8).toArray
theorem bt_size (xs : List Nat) : (bt xs).size = xs.length := by simp [bt]
theorem bt_get {xs : List Nat} (h : Rng 256 xs) (i : Nat) : ((bt xs).toList.getD i 0).toNat = xs.getD i 0 := by
  simp only [bt, List.getD_eq_getElem?_getD, List.getElem?_map]
  by_cases hi : i < xs.length
  · rw [List.getElem?_eq_getElem hi]
    have := h.get hi
    simp; exact this
  · rw [List.getElem?_eq_none (by k_subL)]; rfl
theorem bt_append (xs ys : List Nat) : bt xs ++ bt ys = bt (xs ++ ys) := by simp [bt]
def blank (o : Nat) : Bool := o == 32 || (9 ≤ o && o ≤ 13)
theorem blank_in {o : Nat} (h : o < 256) : blankA.contains o.toUInt8 = blank o := by
  have : ∀ o : Fin 256, blankA.contains o.val.toUInt8 = blank o.val := by decide +kernel
  exact this ⟨o, h⟩
theorem i_bt {xs : List Nat} {i : Int} {K : V → Prop} (hr : Rng 256 xs) (h : 0 ≤ i ∧ i < xs.length ∧ xs.length ≤ 1000000) (hK : K (.int ((xs.getD i.toNat 0 : Nat) : Int))) : itemV (.bytes (bt xs)) (.int i) K :=
  i_bytes h.1 (by rw [bt_size]; exact h.2.1) (by rw [bt_size]; exact h.2.2) (by rw [bt_get hr]; exact hK)
theorem c_blank {o : Nat} {B : Bool → Prop} (h : o < 256) (hB : B (blank o)) : cmpV .In (.int (o : Int)) (.bytes blankA) B :=
  c_in (by k_subL) (by k_subL) (by rw [Int.toNat_natCast, blank_in h]; exact hB)
def lead (xs : List Nat) : Nat := (xs.takeWhile blank).length
theorem lead_le (xs : List Nat) : lead xs ≤ xs.length := (List.takeWhile_sublist _).length_le
theorem lead_of {xs : List Nat} {k : Nat} (h : ∀ i, i < k → blank (xs.getD i 0) = true) (hk : k ≤ xs.length) (he : k = xs.length ∨ blank (xs.getD k 0) = false) : lead xs = k := by
  induction xs generalizing k with
  | nil => simp at hk; subst hk; rfl
  | cons x xs ih =>
    cases k with
    | zero =>
      have hb : blank x = false := by
        rcases he with h | h
        · simp at h
        · exact h
      simp [lead, List.takeWhile_cons, hb]
    | succ k =>
      have hb : blank x = true := h 0 (by k_subL)
      have := ih (k := k) (fun i hi => h (i + 1) (by k_subL)) (by simpa using hk) (by simpa using he)
      simp only [lead, List.takeWhile_cons, hb] at this ⊢
      simpa using this
theorem t_blanks_end {xs : List Nat} (hr : Rng 256 xs) (hl : xs.length ≤ 1000) {K : V → Prop} (hK : K (.int ((lead xs : Nat) : Int))) : Calls (GG prog W p loose mean mg mb) 1 (.ref 245) [.bytes (bt xs), .int 0] K := by
  refine calls_of_body d_blanks_end rfl fun D => ?_
  top_reprB
  refine wX_while (by rfl) (fun k σ => ∃ i : Nat, σ = [.bytes (bt xs), .int (i : Int)] ∧ i ≤ xs.length ∧ k = xs.length - i ∧ (∀ j, j < i → blank (xs.getD j 0) = true)) ?_ xs.length ⟨0, rfl, by k_subL, by k_subL, fun j hj => absurd hj (by k_subL)⟩
  rintro k σ ⟨i, rfl, hi, rfl, hb⟩
  top_strB <;> (try ((with_reducible first | show _ ≤ _ | show _ < _ | show (_ : Int) ≤ _ ∧ _ | show (_ : Nat) ≤ _ ∧ _ | show (_ : Int) < _ ∧ _ | show (_ : Nat) < _ ∧ _ | show (_ : Nat) = _ | show (_ : Int) = _); first | k_subL | (simp only [vN_length, List.length_append, List.length_cons, List.length_nil, List.length_replicate, List.length_set, List.length_take, List.length_drop, List.length_reverse] at * <;> k_subL)))
  · rw [bt_size]; k_subL
  · rename_i h
    rw [bt_size] at h
    show K (.int (i : Int))
    rw [← lead_of hb hi (.inl (by k_subL))]; exact hK
  · rename_i h
    rw [bt_size] at h
    refine i_bt hr ⟨by k_subL, by k_subL, by k_subL⟩ ?_
    top_strB <;> (try ((with_reducible first | show _ ≤ _ | show _ < _ | show (_ : Int) ≤ _ ∧ _ | show (_ : Nat) ≤ _ ∧ _ | show (_ : Int) < _ ∧ _ | show (_ : Nat) < _ ∧ _ | show (_ : Nat) = _ | show (_ : Int) = _); first | k_subL | (simp only [vN_length, List.length_append, List.length_cons, List.length_nil, List.length_replicate, List.length_set, List.length_take, List.length_drop, List.length_reverse] at * <;> k_subL)))
    · have := hr.getD (by k_subL : 0 < 256) i; rw [Int.toNat_natCast]; k_subL
    · rename_i hc
      simp only [Int.toNat_natCast] at hc
      show K (.int (i : Int))
      rw [← lead_of hb hi (.inr hc)]; exact hK
    · rename_i hc
      simp only [Int.toNat_natCast] at hc
      refine ⟨xs.length - (i + 1), by k_subL, i + 1, rfl, by k_subL, rfl, fun j hj => ?_⟩
      rcases Nat.lt_or_ge j i with h1 | h1
      · exact hb j h1
      · rw [show j = i by k_subL]; exact hc
end
section
open PySem PySem.W PySem.Calls PyProof.Rows
set_option Elab.async false
set_option maxRecDepth 100000
set_option linter.unusedVariables false
open Builtin
theorem frs_ints {fz : Led} {vs : List Value} {xs : List Nat} (r : FRs fz vs (vN xs)) : IntsAre vs (xs.map fun (x : Nat) => (x : Int)) := by
  induction xs generalizing vs with
  | nil => exact r.nil_c IntsAre.nil
  | cons x xs ih => exact FRs.cons_c r fun _ _ r1 r2 => r1.int_c fun _ => IntsAre.cons _ _ (ih r2)
theorem byteArr_bt (xs : List Nat) : byteArr (xs.map fun (x : Nat) => (x : Int)) = bt xs := by simp [byteArr, bt, Function.comp_def]
theorem b_bytes {G : Gl} {n : Nat} {xs : List Nat} {K : V → Prop} (h0 : Rng 256 xs) (hz : xs.length ≤ 1000000) (h : K (.bytes (bt xs))) : Calls G n (.type "bytes") [.list (vN xs)] K := fun C fz keep σ s vs ok I r => by
  refine r.cons_c fun _ _ r1 r2 => r2.nil_c (r1.list_c fun a arr m hm hr => ?_)
  · · have hsz : arr.size = xs.length := by rw [← Array.length_toList, hr.length, vN_length]
      refine call_bytes_ints (vs := arr.toList) (ns := xs.map fun (x : Nat) => (x : Int)) ⟨_, I.get hm, rfl, m, by simp [W.listOf]⟩ (frs_ints hr) (fun n hn => ?_) (by rw [sizeLine_eq, Array.length_toList]; omega) ok.hh fun h' t k kk => ?_
      · obtain ⟨x, hx, rfl⟩ := List.mem_map.mp hn
        have := h0 x hx; omega
      · rw [byteArr_bt]; exact ⟨_, fz, Sub.rfl, .bytes _ _, I.keeps kk, h⟩
end
section
open PySem PySem.W PySem.Calls PyProof.Rows
set_option Elab.async false
set_option maxRecDepth 100000
set_option linter.unusedVariables false
open Builtin
open Builtin._codecs in
theorem utf8_asc {c : Nat} (h : c < 128) : Str.utf8Of c = [c.toUInt8] ∧ Str.isSurrogate c = false := by
  have : ∀ c : Fin 128, Str.utf8Of c.val = [c.val.toUInt8] ∧ Str.isSurrogate c.val = false := by decide +kernel
  exact this ⟨c, h⟩
theorem foldl_asc {xs : List Nat} (h : ∀ c ∈ xs, c < 128) (acc : Array UInt8) : xs.foldl (fun acc y => acc ++ (Str.utf8Of y).toArray) acc = acc ++ bt xs := by
  induction xs generalizing acc with
  | nil => simp [bt]
  | cons x xs ih =>
    rw [List.foldl_cons, (utf8_asc (h x (List.mem_cons_self ..))).1, ih (fun c hc => h c (List.mem_cons_of_mem _ hc))]
    simp [bt]
theorem forIn_break {β : Type} (body : Nat → β → Sem (ForInStep β)) (b0 b1 : β) (n : Nat) (hn : 0 < n) (h0 : body 0 b0 = pure (.yield b1)) (h1 : ∀ k, body k b1 = pure (.done b1)) : forIn [:n] b0 body = (pure b1 : Sem β) := by
  rw [Std.Legacy.Range.forIn_eq_forIn_range']
  simp only [Std.Legacy.Range.size, Nat.sub_zero, Nat.add_sub_cancel, Nat.div_one]
  obtain ⟨k, rfl⟩ : ∃ k, n = k + 1 := ⟨n - 1, by omega⟩
  rw [List.range'_succ, List.forIn_cons, h0]
  show (forIn (List.range' (0 + 1) k) b1 body : Sem β) = pure b1
  cases k with
  | zero => rfl
  | succ k => rw [List.range'_succ, List.forIn_cons, h1]; rfl
open Builtin._codecs in
theorem enc_narrow {xs : List Nat} (h : ∀ c ∈ xs, c < 128) (hz : xs.length ≤ 1000) (hne : 0 < xs.length) {id : String} {self : Value} : encodeNarrow id utf8Codec none self (st xs) = pure (bt xs) := by
  unfold encodeNarrow
  dsimp only
  rw [forIn_break _ _ (xs.length, bt xs, {}) _ (by simpa [st, Str.length] using hne) ?_ ?_]
  · rfl
  · have hx : (st xs).cps[0]? = some xs[0] := by simp [st, hne]
    have hb : utf8Codec.bad xs[0] = false := (utf8_asc (h _ (List.getElem_mem hne))).2
    have hf : Array.findIdx? utf8Codec.bad (st xs).cps = none := by
      rw [Array.findIdx?_eq_none_iff]
      intro c hc
      exact (utf8_asc (h c (by simpa [st] using hc))).2
    dsimp only
    rw [if_neg (by simp), hx]
    dsimp only
    rw [if_pos (by rw [hb]; rfl)]
    have e0 : (st xs).cps.extract 0 = (st xs).cps := by simp
    rw [e0, hf]
    simp only [Option.getD_none]
    rw [show (st xs).cps.extract 0 (st xs).cps.size = (st xs).cps from e0]
    have e1 : Array.foldl (fun acc y => acc ++ (utf8Codec.bytesOf y).toArray) #[] (st xs).cps = bt xs := by
      rw [show (st xs).cps = xs.toArray from rfl, List.foldl_toArray]
      exact (foldl_asc h #[]).trans (by simp)
    rw [e1, show (st xs).cps.size = xs.length by simp [st], Nat.zero_add]
  · intro k
    have hx : (st xs).cps[xs.length]? = none := by simp [st]
    dsimp only
    rw [if_neg (by rw [sizeLine_eq, bt_size]; omega), hx]
open Builtin._codecs in
theorem gives_encode {xs : List Nat} (h : ∀ c ∈ xs, c < 128) (hz : xs.length ≤ 1000) (hne : 0 < xs.length) (t : Tok) : Gives (Builtin.«str.encode» ⟨[.str (st xs) t], []⟩) (.bytes (bt xs)) := by
  refine .of_eq ?_
  rw [encode_tree, encodeRoad_utf8, enc_narrow h hz hne]
  rfl
section
variable {G : Gl} {C : Fc} {n : Nat} {σ : List V} {Q : V → List V → Prop}
theorem wF_encode {e : Expr} {apos pos : Pos} (h : wF G C n e (fun v σ1 => ∃ xs, v = .str (st xs) ∧ (∀ c ∈ xs, c < 128) ∧ (0 < xs.length ∧ xs.length ≤ 1000) ∧ Q (.bytes (bt xs)) σ1) σ) (pl : Sem Bool) (hm : eval (.Call (.Attribute e "encode" apos) [] [] pos) C.env = (do
      let ov ← eval e C.env
      standAt apos.atName
      let (f, first) ← holding [ov] (getMethod ov "encode" pl)
      callWith pos f first (backTo pos (starEach [] C.env)) [])) : wF G C n (.Call (.Attribute e "encode" apos) [] [] pos) Q σ :=
  wF_str0 PySem.F.slot_str_encode PySem.F.type_str_encode PySem.F.entry_str_encode PySem.F.args_str_encode_1 (fun ok fz keep s i => wpAny_mono (h ok fz keep s i) (fun v s1 ⟨y, σ1, f1, s1', r, i1, xs, e, ha, hz, q⟩ => ⟨y, σ1, f1, s1', r, i1, _, e, _, _, fun t => gives_encode ha hz.2 hz.1 t, .bytes _, (fun b e => by cases e; rw [bt_size]; omega), (fun _ e => nomatch e), q⟩) fun _ _ x => x) pl hm
end
end
section
open PySem PySem.W PySem.Calls PyProof.Rows
set_option Elab.async false
set_option maxRecDepth 100000
set_option maxHeartbeats 4000000
set_option linter.unusedVariables false
open Builtin
def Raises (C : Fc) (KE : Int → Prop) : Prop := ∀ G m e D i t s', Fr C.h₀ C.L G m → KE i → (New (fsOf (C.env :: C.outer)) G e D (.int i t) s'.heap ∨ Fly (fsOf (C.env :: C.outer)) G e D (.int i t) .none s'.heap ∨ Fly (fsOf (C.env :: C.outer)) G e D (.int i t) (rawInt C.L) s'.heap) →
  (∃ h tk, s' = { C.r with heap := h, toks := tk }) → C.E (.ref e) s'
section
variable {w : World} {p : Program} {loose : List Str} {mean : ExcName → Option Value} {mg mb : Str → Option Value} {C : Fc} {n : Nat} {σ : List V}
theorem Ok.frames {G : Gl} (ok : Ok G C n) {h : Heap} {m : Str → Option Value} (F : Fr C.h₀ C.L h m) : h.FunFrames C.base (C.env :: C.outer) := by
  have hnew : C.base.get? C.L = none := by
    cases hq : C.base.get? C.L with
    | none => rfl
    | some o => exact absurd (Nat.lt_of_lt_of_le (Heap.lt_size (ok.B.stays C.L o hq)) F.above) (Nat.lt_irrefl _)
  exact .cons (by show C.cs.kind ≠ .module; rw [ok.hk]; decide) rfl F.ns hnew (ok.B.frames.of_keeps fun b o e _ => ⟨o, F.keep b o e, rfl⟩)
theorem raise_made {A : Around} {E : Value → Shared → Prop} {s : Shared} {env : Env} {x : Sem Value} {Q : Flow → Shared → Prop} (hh : A.handled = none)
    (h : wpAny (model PW w) A x (fun v s₁ => ∃ e t D, v = .ref e ∧ (KK w).In s₁.heap ∧ s₁.heap.get? e = some (excObj t (some D)) ∧ E (.ref e) s₁) E s) :
    wpAny (model PW w) A (raiseStmt env (some x) none) Q E s := by
  have hcB : (Value.ref 58 :: (.ref 24 :: exT)).contains (.type "BaseException") = true := by decide +kernel
  unfold raiseStmt
  refine wpAny_bind (wpAny_mono h (fun v s₁ h₁ => ?_) fun _ _ x => x)
  obtain ⟨e, t, D, rfl, X, he, hE⟩ := h₁
  have hC := bad_obj X
  obtain ⟨hp, g, d, tk, os⟩ := s₁
  repeat (first | with_reducible refine wpAny_loadPart_at he ?_ | with_reducible refine wpAny_loadPart_at hC ?_ | (with_reducible refine wpAny_isSubtype_exc hC ?_; rw [hcB]) | wp_step)
  exact wpAny_raiseNew_none hh hE
theorem wX_raise {e : Expr} {np cpos pos : Pos} {KE : Int → Prop} {Q : Fl → List V → Prop} (hR : Raises C KE) (hn : 1 ≤ n) (hx : C.cs.names.lookup (Str.ofString "BadText") = some .globalImplicit)
    (h : wF (GG PW w p loose mean mg mb) C n e (fun x _ => ∃ i, x = .int i ∧ KE i) σ)
    (hst : starEach [e] C.env = (false, eval e C.env) :: starEach [] C.env) : wX (GG PW w p loose mean mg mb) C n (.Raise (some (.Call (.Name (Str.ofString "BadText") np) [e] [] cpos)) none pos) Q σ := fun ok fz keep s i => by
  rw [arm_exec_Raise]
  simp only [evalOpt, Option.map]
  refine wpAny_bind (wpAny_standAt (raise_made ok.hh (wpAny_bind ?_)))
  refine wpAny_mono (Q := fun v s₁ => ∃ e t D, v = .ref e ∧ (KK w).In s₁.heap ∧ s₁.heap.get? e = some (excObj t (some D)) ∧ C.E (.ref e) s₁) ?_ (fun v s₁ q => wpAny_bind (wpAny_standAt (wpAny_pure q))) fun _ _ x => x
  refine Call_Name rfl ?_
  refine wpAny_mono ((wF_global (G := GG PW w p loose mean mg mb) (Q := fun y σ' => y = .fn (.ref 58) ∧ σ' = σ) (v := .ref 58) (by kernel_rfl) hx (by decide +kernel) (.fn _) ⟨rfl, rfl⟩ : wF _ C n (.Name (Str.ofString "BadText") np) _ σ) ok fz keep s i) (fun f s1 ⟨y, σ1, f1, s1', r, i1, hy, hσ⟩ => ?_) fun _ _ x => x
  subst hy; subst hσ
  refine r.fn_c ?_
  refine callWith_ok (es := []) ok i1 (by unfold Callee; kernel_rfl) hst (by rfl) ?_
  refine wpAny_items_cons (wpAny_mono (h ok f1 keep s1 i1) (fun v s2 ⟨x, σ2, f2, s2', rx, i2, j, ex, kj⟩ => wpAny_items_nil ⟨⟨_, _, _, i2⟩, ?_⟩) fun _ _ x => x) hst
  subst ex
  refine rx.int_c fun _ => ?_
  obtain ⟨m, ol, F2, _⟩ := id i2
  have X2 : (KK w).In s2.heap := ok.X.keeps F2.keep
  have T2 : Top p loose mean mg mb s2.heap := ok.T.keeps fun b o q => F2.keep b o q
  refine bad_call X2 fun h' e' hm => ?_
  obtain ⟨t, ht, htn, htt⟩ := hm.there
  refine bad_ini (s := { s2 with heap := h' }) (X2.keeps hm.keeps) (T2.keeps hm.keeps) ?_ ht (fun o q => ?_) (fun h3 t' D tk3 g1 g2 g3 g4 g5 => ⟨rfl, e', t', D, rfl, fun b o q => ?_, g1, ?_⟩)
  · show C.A.depth + 1 < recursionLimit
    have := ok.depth; omega
  · have := X2 _ _ q; rw [hm.new] at this; cases this
  · exact g5 b o (fun z => by have := X2 _ _ q; rw [z, hm.new] at this; cases this) (hm.keeps _ _ (X2 _ _ q))
  · have key : ∀ b o, s2.heap.get? b = some o → h3.get? b = some o := fun b o q => g5 b o (fun z => by rw [z, hm.new] at q; cases q) (hm.keeps _ _ q)
    refine hR s2.heap m e' D j _ _ F2 kj (.inl ⟨Ev.of_keeps key, ⟨hm.new, ?_⟩, g2, t', g1⟩) ?_
    · cases z : s2.heap.get? D with
      | none => rfl
      | some o => have z3 := hm.keeps _ _ z; rw [show h'.get? D = none from g3] at z3; cases z3
    obtain ⟨_, _, _, _, _, _, hh, tt, es⟩ := i2
    exact ⟨h3, _, by rw [es]⟩
end
end
section
open PySem PySem.W PySem.Calls PyProof.Rows
set_option Elab.async false
set_option maxRecDepth 100000
set_option maxHeartbeats 4000000
set_option linter.unusedVariables false
open Builtin
section
variable {G : Gl} {C : Fc} {n : Nat} {σ : List V}
theorem Raises.loop {KE : Int → Prop} (ok : Ok G C n) (hR : Raises C KE) : Raises (C.loop G) KE := fun G' m e D i t s' F kj x hs => by
  show wpAny _ _ _ _ _ _
  refine note_any ok.hA rfl (ok.frames F) rfl x fun h₁ x₁ => ?_
  refine came_back (L := C.L) rfl x₁ fun h₂ x₂ => ?_
  obtain ⟨h, tk, rfl⟩ := hs
  exact hR G' m e D i t _ F kj (.inr (.inr x₂)) ⟨h₂, tk, rfl⟩
def V.flat : V → Bool
  | .none | .bool _ | .int _ | .str _ | .bytes _ | .fn _ => true
  | _ => false
theorem FR.flat {fz : Led} {v : Value} {x : V} (r : FR fz v x) (h : x.flat = true) : FR [] v x := by
  cases r with
  | none => exact .none
  | bool b => exact .bool b
  | int i t => exact .int i t
  | str i t => exact .str i t
  | bytes i t => exact .bytes i t
  | fn v => exact .fn v
  | list => cases h
  | tuple => cases h
theorem FRs.flat {fz : Led} {vs : List Value} {xs : List V} (r : FRs fz vs xs) (h : xs.all V.flat = true) : FRs [] vs xs := by
  induction xs generalizing vs with
  | nil => exact r.nil_c .nil
  | cons x xs ih =>
    have h2 := Bool.and_eq_true_iff.mp ((List.all_cons ..).symm.trans h)
    exact r.cons_c fun _ _ a b => .cons (a.flat h2.1) (ih b h2.2)
def CallsE (G : Gl) (n : Nat) (f : Value) (args : List V) (K : V → Prop) (KE : Int → Prop) : Prop :=
  ∀ C fz keep σ s vs, Ok G C n → In C fz keep σ s → FRs [] vs args → Raises C KE → wpAny G.M C.A (call f vs) (PC C fz keep σ K) C.E s
theorem CallsE.le {m : Nat} {f : Value} {args : List V} {K : V → Prop} {KE : Int → Prop} (h : CallsE G m f args K KE) (hm : m ≤ n) : CallsE G n f args K KE := fun C fz keep σ s vs ok i r hR => h C fz keep σ s vs (ok.le hm) i r hR
@[reducible] def kFl (R : List V → List V → Prop) (xs σ2 : List V) : Prop := xs.all V.flat = true ∧ R xs σ2
@[reducible] def kClF (G : Gl) (C : Fc) (n : Nat) (es : List Expr) (R : Value → List V → List V → Prop) (f : V) (σ1 : List V) : Prop := ∃ fv, f = .fn fv ∧ Callee G fv ∧ wA G C n es (kFl (R fv)) σ1
@[reducible] def kCE (G : Gl) (n : Nat) (Q : V → List V → Prop) (KE : Int → Prop) (fv : Value) (xs σ2 : List V) : Prop := CallsE G n fv xs (kV Q σ2) KE
theorem kFl_i {R : List V → List V → Prop} {xs σ : List V} (h : Pl (xs.all V.flat = true)) (q : R xs σ) : kFl R xs σ := ⟨h, q⟩
theorem kClF_i {G : Gl} {C : Fc} {n : Nat} {es : List Expr} {R : Value → List V → List V → Prop} {fv : Value} {σ : List V} (hc : Callee G fv) (q : wA G C n es (kFl (R fv)) σ) : kClF G C n es R (.fn fv) σ := ⟨fv, rfl, hc, q⟩
theorem wF_callE {x : Str} {p pos : Pos} {e : Expr} {es : List Expr} {KE : Int → Prop} {Q : V → List V → Prop} (hR : Raises C KE) (h : wF G C n (.Name x p) (kClF G C n (e :: es) (kCE G n Q KE)) σ)
    (he : Pl (starEach (e :: es) C.env = (false, eval e C.env) :: starEach es C.env)) (hp : Pl ((backTo pos (starEach es C.env)).any (·.1) = false)) : wF G C n (.Call (.Name x p) (e :: es) [] pos) Q σ := fun ok fz keep s i => by
  refine Call_Name rfl (wpAny_mono (h ok fz keep s i) (fun f s1 ⟨y, σ1, f1, s1', r, i1, fv, ey, hc, q⟩ => ?_) fun _ _ x => x)
  subst ey
  refine r.fn_c ?_
  refine callWith_ok ok i1 hc he hp (wpAny_mono (q ok f1 keep s1 pos i1) (fun vs s2 ⟨xs, σ2, f2, s2', r2, i2, hfl, q2⟩ => ⟨⟨_, _, _, i2⟩, ?_⟩) fun _ _ x => x)
  exact wpAny_mono (q2 C f2 keep σ2 s2 vs ok i2 (r2.flat hfl) hR) (fun v s3 ⟨z, f3, s3', r3, i3, k3⟩ => ⟨z, σ2, f3, (s1'.trans s2').trans s3', r3, i3, k3⟩) fun _ _ x => x
theorem In.addFz {fz f' keep : Led} {s s' : Shared} (i : In C fz keep σ s) (k : ∀ b o, s.heap.get? b = some o → s'.heap.get? b = some o) (hs : ∃ h tk, s' = { s with heap := h, toks := tk })
    (hf : ∀ p ∈ f', s'.heap.get? p.1 = some p.2 ∧ s.heap.get? p.1 = none) : In C (f' ++ fz) keep σ s' := by
  obtain ⟨h, tk, rfl⟩ := hs
  obtain ⟨m, ol, F, L, N, D, hh, tt, e⟩ := i.keeps (t := tk) k
  obtain ⟨m0, ol0, F0, L0, N0, D0, hh0, tt0, e0⟩ := i
  obtain ⟨oL, es, ep, hL, r⟩ := F0.ns
  refine ⟨m0, ol0, F0.keeps k, L0.mono fun q hq => List.mem_append_right _ hq, fun q hq => ?_, ⟨D0.1, fun q hq q' hq' => ?_⟩, h, tk, by rw [e0]⟩
  · rcases List.mem_append.mp hq with hq | hq
    · exact ⟨k _ _ (N0 q (List.mem_append_left _ hq)).1, (N0 q (List.mem_append_left _ hq)).2⟩
    · rcases List.mem_append.mp hq with hq | hq
      · refine ⟨(hf q hq).1, fun z => ?_, ?_⟩
        · have := (hf q hq).2; rw [z, hL] at this; cases this
        · exact none_of F0.keep (hf q hq).2
      · exact ⟨k _ _ (N0 q (List.mem_append_right _ hq)).1, (N0 q (List.mem_append_right _ hq)).2⟩
  · rcases List.mem_append.mp hq' with hq' | hq'
    · intro z
      have := (N0 q (List.mem_append_left _ hq)).1
      rw [z, (hf q' hq').2] at this; cases this
    · exact D0.2 q hq q' hq'
theorem callsE_of_body {f : Addr} {name qual : Str} {ps rest : List Str} {body : List Stmt} {scope : Scope} {cdv : Value} {args : List V} {K : V → Prop} {KE : Int → Prop} (d : DefAt G f name qual ps rest body scope cdv) (hl : args.length = ps.length)
    (h : ∀ D : Fc, Raises { D with cn := qual, cs := scope, cl := [], names := ps ++ rest } KE → wS G { D with cn := qual, cs := scope, cl := [], names := ps ++ rest } n body (fun fl _ => retQ K fl) (args ++ rest.map fun _ => V.undef)) : CallsE G (n + 1) (.ref f) args K KE := fun C fz keep σ s vs ok i r hR => by
  obtain ⟨m, ol, F, L, N, D, hh, tt, es⟩ := id i
  obtain ⟨oc, od, osl, params, dV, kV, doc, pm, an, ct, hob, hbind⟩ := d.ob
  have hvl : vs.length = ps.length := r.length.trans hl
  have hloc : ∀ x ∈ ps ++ rest, scope.names.lookup x = some .local ∧ (x == ("__debug__" : Str)) = false := fun x hx => by
    have := List.all_eq_true.mp d.loc x hx
    simpa using this
  have X1 : G.K.In s.heap := ok.X.keeps F.keep
  have T1 : Top G.p G.loose G.mean G.mg G.mb s.heap := ok.T.keeps fun b o q => F.keep b o q
  refine wpAny_call (codeAny_call_def (fd := fnOf name qual params body scope dV kV doc pm an cdv ct) (body := body) (binds := ps.zip vs) (by have := ok.depth; omega) (X1 _ _ hob) rfl T1.nolimit (codeRec_of X1 d.code) rfl (hbind s vs hvl) d.cell (fun y hy => ?_) (fun h₁ hns hk₁ => ?_) d.co d.gen d.kind)
  · obtain ⟨a, b⟩ := y
    exact (hloc a (List.mem_append_left _ (List.of_mem_zip hy).1)).1
  · show wpAny _ (C.A.deeper (envX qual scope s.heap.objs.size f cdv [])) (execs body (envX qual scope s.heap.objs.size f cdv [])) _ (fun e s' => wpAny _ (C.A.deeper (envX qual scope s.heap.objs.size f cdv [])) (leaving (envX qual scope s.heap.objs.size f cdv []) e) _ _ s') _
    let D' : Fc := { A := C.A.deeper (envX qual scope s.heap.objs.size f cdv []), A₀ := C.A, base := C.base, h₀ := s.heap, outer := C.env :: C.outer, cn := qual, cs := scope, L := s.heap.objs.size, a := f, ccd := cdv, cl := [], r := s, names := ps ++ rest, E := fun e s' => wpAny G.M (C.A.deeper (envX qual scope s.heap.objs.size f cdv [])) (leaving (envX qual scope s.heap.objs.size f cdv []) e) (fun _ s'' => C.E e s'') (fun e' s'' => C.E e' s'') s' }
    have B' : Below C.A C.base (C.env :: C.outer) s.heap := ⟨ok.hA, fun b o e => F.keep b o (ok.B.stays b o e), ok.frames F⟩
    have ok' : Ok G D' n := ⟨B', X1, T1, by show (C.A.frames.map _) = _; rw [ok.hA]; rfl, ok.hh, d.kind, by show C.A.depth + 1 + n < _; have := ok.depth; omega, by show C.A.units + 3 + 8 * n + 16 < _; have := ok.units; omega, d.nodup, hloc⟩
    have hR' : Raises D' KE := fun G' m' e D0 j t s' F' kj x hs => by
      show wpAny _ _ _ _ _ _
      refine leave_any ok'.hA rfl (ok'.frames F') rfl x fun h' x' => ?_
      obtain ⟨h2, tk2, rfl⟩ := hs
      obtain ⟨ev, ⟨gE, gD⟩, ad, oe, vs, T, oT, ts, q1, q2, q3, q4, q5, q6, q7, q8, q9, q10⟩ := x'
      refine hR s.heap m e D0 j t _ F kj (.inr (.inl ⟨fun b o hb => ?_, ⟨none_of F'.keep gE, none_of F'.keep gD⟩, ad, oe, vs, T, oT, ts, q1, q2, q3, q4, q5, q6, none_of F'.keep q7, q8, q9, q10⟩)) ⟨h', tk2, by show ({ s with heap := h', toks := tk2 } : Shared) = _; rw [es]⟩
      obtain ⟨z1, z2⟩ := ev b o (F'.keep b o hb)
      refine ⟨fun hb' => z1 fun hm => ?_, z2⟩
      rcases List.mem_cons.mp hm with z | z
      · exact absurd (Heap.lt_size hb) (by rw [z]; exact Nat.lt_irrefl _)
      · exact hb' z
    have i' : In D' [] [] (args ++ rest.map fun _ => V.undef) { s with heap := h₁, toks := s.toks + (ps.zip vs).length } :=
      ⟨_, [], ⟨hns, hk₁, Nat.le_refl _⟩, locR_init r hvl.symm (fun j x v h1 h2 => lookup_zip_rev (List.nodup_append.mp d.nodup).1 h1 h2), fun p hp => by simp at hp, ⟨by simp, fun p hp => by simp at hp⟩, h₁, _, rfl⟩
    refine wpAny_mono (h D' hR' ok' [] [] _ i') (fun fl s' ⟨σ', f', sub, ⟨m', ol', Fx, Lx, Nx, Dx, h', t', ex⟩, q⟩ => ?_) fun e s' z => z
    have I' : In C (f' ++ fz) keep σ s' := i.addFz Fx.keep ⟨h', t', ex⟩ fun q hq => ⟨(Nx q (List.mem_append_right _ hq)).1, (Nx q (List.mem_append_right _ hq)).2.2⟩
    have up : Sub f' (f' ++ fz) := fun q hq => List.mem_append_left _ hq
    have up2 : Sub fz (f' ++ fz) := fun q hq => List.mem_append_right _ hq
    cases fl with
    | ret v => obtain ⟨x, rx, kx⟩ := q; exact ⟨x, _, up2, rx.mono up, I', kx⟩
    | next => exact ⟨.none, _, up2, .none, I', q⟩
    | brk => exact q.elim
    | cont => exact q.elim
end
end
section
open PySem PySem.W PySem.Calls PyProof.Rows
set_option Elab.async false
set_option maxRecDepth 100000
set_option maxHeartbeats 4000000
set_option linter.unusedVariables false
open Builtin
section
variable {G : Gl} {C : Fc} {n : Nat} {σ : List V}
theorem wX_forE {t e : Expr} {body orelse : List Stmt} {pos : Pos} {KE : Int → Prop} {Q : Fl → List V → Prop} (hR : Raises C KE) (h : wIt G C n t e (fun items σ1 => ∃ I : Nat → List V → Prop, I 0 σ1 ∧
      (∀ E', Raises (C.setE E') KE → ∀ k x σ, items[k]? = some x → I k σ → wG G (C.setE E') n t x (fun σ1 => wS G (C.setE E') n body (fun f σ2 => match f with | .next | .cont => I (k + 1) σ2 | .brk => Q .next σ2 | .ret v => Q (.ret v) σ2) σ1) σ) ∧
      (∀ E' σ, I items.length σ → wS G (C.setE E') n orelse Q σ)) σ)
    (hs : ∀ x, foldedSetIterable e C.env x = pure x) : wX G C n (.For t e body orelse pos) Q σ := fun ok fz keep s i => by
  refine (wX_for (G := G) ?_ hs) ok fz keep s i
  refine fun ok fz keep s i => wpAny_mono (h ok fz keep s i) (fun xv s1 h1 => wpAny_mono h1 (fun it s2 ⟨a, items, σ', f', tl, J, ei, sub, P, hJ, i2, I, h0, turn, fin⟩ => ?_) fun _ _ x => x) fun _ _ x => x
  exact ⟨a, items, σ', f', tl, J, ei, sub, P, hJ, i2, I, h0, turn _ (hR.loop ok), fin _⟩
end
end
section
open PySem PySem.W PySem.Calls PyProof.Rows
set_option Elab.async false
set_option maxRecDepth 100000
set_option maxHeartbeats 4000000
set_option linter.unusedVariables false
open Builtin
section
variable {w : World} {A : Around} {E : Value → Shared → Prop} {h : Heap} {g : Array GenState} {d : Drawn} {t : Nat} {os : OsState}
abbrev atS : Str := Str.ofString "at"
theorem slot_ga : Slot "Exception" "__getattribute__" "BaseException.__getattribute__" := .of (owner := "BaseException") (n := "__getattribute__") (by rw [typeLookup_type, builtinLookup_eq_fast]; kernel_rfl) (by decide +kernel) (by decide +kernel) (by decide +kernel)
  (by first | exact .inl (by decide +kernel) | exact .inr (by decide +kernel)) (by rw [isSubtype_type]; kernel_rfl)
theorem check_ga {M : Model} {e : Addr} {oe : Obj} {nameV : Value} {Q : Unit → Shared → Prop} (X : (KK w).In h) (he : h.get? e = some oe) (hc : oe.cls = .ref 58) (hq : Q () ⟨h, g, d, t, os⟩) : wpAny M A (checkBuiltinCall "BaseException.__getattribute__" ⟨[.ref e, nameV], []⟩) Q E ⟨h, g, d, t, os⟩ := by
  have hC : h.get? 58 = some badObj := bad_obj (s := ⟨h, g, d, t, os⟩) X
  have hk : builtinKind "BaseException.__getattribute__" = some .slot := by decide +kernel
  have hsplit : splitId "BaseException.__getattribute__" = some ("BaseException", "__getattribute__") := by decide +kernel
  have hcB : (Value.ref 58 :: (.ref 24 :: exT)).contains (.type "BaseException") = true := by decide +kernel
  have ha := F.args_bexc_ga (.ref e) nameV
  simp only [checkBuiltinCall, hk, hsplit]
  refine wpAny_bind ?_
  · unfold isInstance
    repeat (first | (with_reducible refine wpAny_loadPart_at he ?_; rw [hc]) | (with_reducible refine wpAny_isSubtype_exc hC ?_; rw [hcB]) | wp_step)
    exact hq
theorem ga_entry {e D : Addr} {oe : Obj} {vs : Array Value} {v : Value} {tk : Tok} {Q : PySem.Fin → Shared → Prop} (X : (KK w).In h) (he : h.get? e = some oe) (hc : oe.cls = .ref 58) (hd : oe.dict = some D) (hdt : oe.data = .fields vs) (ad : AtD h D v)
    (hq : Q (.done (.ret v)) ⟨h, g, d, t, os⟩) : wpAny (model PW w) A (Builtin.«object.__getattribute__» ⟨[.ref e, .str atS tk], []⟩) Q E ⟨h, g, d, t, os⟩ := by
  have hC : h.get? 58 = some badObj := bad_obj (s := ⟨h, g, d, t, os⟩) X
  have ha : Looks (model PW w) h (typeLookup (.ref 58) atS) none := looks_findIn X (by kernel_rfl)
  unfold Builtin.«object.__getattribute__»
  repeat (any_goals (first | assumption | (with_reducible refine wpAny_loadPart_at he ?_; rw [hc]) | (with_reducible refine Looks.at ha ?_) | wp_step))
  rw [hdt]
  dsimp only
  unfold instanceDict
  obtain ⟨oD, esD, epD, hoD, hdD, hkD, _, hfD⟩ := ad
  have hns : h.Ns D (fun y => if y = atS then some v else none) := ⟨oD, esD, epD, hoD, hdD, hkD, hfD⟩
  repeat (first | (with_reducible refine wpAny_loadPart_at he ?_; rw [hc, hd]) | (with_reducible refine wpAny_load hC ?_) | (with_reducible refine wpAny_nsGet hns ?_) | wp_step | (rw [if_neg (by decide)]) | (rw [if_pos rfl]))
  exact hq
theorem bad_get {e D : Addr} {oe : Obj} {vs : Array Value} {i : Int} {tk : Tok} {expr : Bool} {Q : Value → Shared → Prop} (X : (KK w).In h) (he : h.get? e = some oe) (hc : oe.cls = .ref 58) (hd : oe.dict = some D) (hdt : oe.data = .fields vs) (ad : AtD h D (.int i tk))
    (hq : Q (.int i tk) ⟨h, g, d, t + 1, os⟩) : wpAny (model PW w) A (getAttr (.ref e) atS expr) Q E ⟨h, g, d, t, os⟩ := by
  have hga : Looks (model PW w) h (typeLookup (.ref 58) (Str.ofString "__getattribute__")) (some (.builtin "BaseException.__getattribute__")) := looks_findIn X (by kernel_rfl)
  have hgt : Looks (model PW w) h (typeLookup (.ref 58) (Str.ofString "__getattr__")) none := looks_findIn X (by kernel_rfl)
  have f3 := slot_ga.bind (.ref e)
  have hx0 : (expr && onTheHeap (Value.builtin "BaseException.__getattribute__")) = false := by cases expr <;> rfl
  have hx2 : (Value.builtin "BaseException.__getattribute__" == Value.builtin "object.__getattribute__") = false := by decide +kernel
  have hx1 : (onTheHeap (Value.ref 58) && Value.builtin "BaseException.__getattribute__" == Value.builtin "object.__getattribute__") = false := by rw [hx2]; rfl
  unfold getAttr
  refine wpAny_bind (wpAny_mkText ?_)
  unfold getAttrBy
  repeat (any_goals (first | assumption | (with_reducible refine wpAny_loadPart_at he ?_; rw [hc]) | (with_reducible refine Looks.at hga ?_) | (with_reducible refine Looks.at hgt ?_) | wp_step))
  refine codeAny_call_builtin slot_ga.plain F.entry_bexc_ga (check_ga X he hc (ga_entry X he hc hd hdt ad ?_))
  repeat (any_goals (first | assumption | wp_step))
end
end
section
open PySem PySem.W PySem.Calls PyProof.Rows
set_option Elab.async false
set_option maxRecDepth 100000
set_option maxHeartbeats 4000000
set_option linter.unusedVariables false
open Builtin
section
variable {w : World} {p : Program} {loose : List Str} {mean : ExcName → Option Value} {mg mb : Str → Option Value} {C : Fc} {n : Nat} {σ : List V}
abbrev wrS : Str := Str.ofString "wrong"
noncomputable abbrev rdE (L : Addr) : Env := envX (Str.ofString "_law_read") s_law_read L 357 (.ref 356) []
abbrev rdH (np p1 p2 p3 p4 p5 pos : Pos) (k k2 : Nat) : ExceptHandler := .ExceptHandler (some (.Name (Str.ofString "BadText") np)) (some wrS) [.Return (some (.Tuple [.Constant (.str (Str.ofString "refused")) k p1, .Attribute (.Name wrS p2) atS p3] k2 p4)) p5] pos
theorem read_caught {K : V → Prop} {fz keep : Led} {s s' : Shared} {G' : Heap} {m' : Str → Option Value} {e D : Addr} {i : Int} {t : Tok} {Q : Flow → Shared → Prop} {E : Value → Shared → Prop} {np p1 p2 p3 p4 p5 pos : Pos} {k k2 : Nat}
    (ok : Ok (GG PW w p loose mean mg mb) C n) (hout : C.outer = []) (hi : In C fz keep σ s) (F' : Fr s.heap s.heap.objs.size G' m')
    (x : New (fsOf (rdE s.heap.objs.size :: C.env :: C.outer)) G' e D (.int i t) s'.heap ∨ Fly (fsOf (rdE s.heap.objs.size :: C.env :: C.outer)) G' e D (.int i t) .none s'.heap ∨ Fly (fsOf (rdE s.heap.objs.size :: C.env :: C.outer)) G' e D (.int i t) (rawInt s.heap.objs.size) s'.heap)
    (hs : ∃ h tk, s' = { s with heap := h, toks := tk })
    (hQ : ∀ v s2, PC C fz keep σ (fun y => y = .tuple [.str (Str.ofString "refused"), .int i]) v s2 → Q (.ret v) s2) :
    wpAny (model PW w) (C.A.deeper (rdE s.heap.objs.size)) (noteFrame (.ref e) (rdE s.heap.objs.size))
      (fun _ s₂ => wpAny (model PW w) (C.A.deeper (rdE s.heap.objs.size)) (setFlight (.ref e) none) (fun _ s₃ =>
        wpAny (model PW w) (C.A.deeper (rdE s.heap.objs.size)) (handleBy (.ref e) (rdE s.heap.objs.size) [rdH np p1 p2 p3 p4 p5 pos k k2]) Q E s₃) E s₂) E s' := by
  obtain ⟨m, ol, F, L, N, Di, hh, tt, es⟩ := id hi
  obtain ⟨oL, esL, epL, hL, hLr⟩ := id F.ns
  have hLlt := Heap.lt_size hL
  have hfs : fsOf (rdE s.heap.objs.size :: C.env :: C.outer) = [s.heap.objs.size, C.L] := by rw [hout]; rfl
  have B' : Below C.A C.base (C.env :: C.outer) s.heap := ⟨ok.hA, fun b o e => F.keep b o (ok.B.stays b o e), ok.frames F⟩
  have hfr : (C.A.deeper (rdE s.heap.objs.size)).frames = some (rdE s.heap.objs.size :: C.env :: C.outer) := by show (C.A.frames.map _) = _; rw [ok.hA]; rfl
  have hFF : G'.FunFrames C.base (rdE s.heap.objs.size :: C.env :: C.outer) := by
    have hnew : C.base.get? s.heap.objs.size = none := none_of B'.stays (by cases hq : s.heap.get? s.heap.objs.size with
      | none => rfl
      | some o => exact absurd (Heap.lt_size hq) (Nat.lt_irrefl _))
    exact .cons (show s_law_read.kind ≠ .module from by decide +kernel) rfl F'.ns hnew (B'.frames.of_keeps fun b o e _ => ⟨o, F'.keep b o e, rfl⟩)
  refine note_any hfr rfl hFF rfl x fun h₁ x₁ => ?_
  refine set_flight (fr := none) x₁ fun h₂ x₂ => ?_
  obtain ⟨hs', tks', rfl⟩ := hs
  have ground : ∀ {h : Heap}, Fly (fsOf (rdE s.heap.objs.size :: C.env :: C.outer)) G' e D (.int i t) .none h → Fr C.h₀ s.heap.objs.size h m' := fun {h} y => by
    refine ⟨y.ev.ns F'.ns, fun b o q => ?_, Nat.le_of_lt (Nat.lt_of_le_of_lt F.above hLlt)⟩
    refine (y.ev b o (F'.keep _ _ (F.keep _ _ q))).1 fun hm => ?_
    rw [hfs] at hm
    have hb := Heap.lt_size q
    have ha := F.above
    rcases List.mem_cons.mp hm with z | z
    · exact absurd (Nat.lt_of_lt_of_le hb ha) (by rw [z]; exact Nat.not_lt.mpr (Nat.le_of_lt hLlt))
    · exact absurd (Nat.lt_of_lt_of_le hb ha) (by rw [List.mem_singleton.mp z]; exact Nat.lt_irrefl _)
  have X := ok.X
  have F₂ := ground x₂
  obtain ⟨_, _, _, oe, vs, T, oT, ts, he, hc, _, _, _, _, _, _, _, _⟩ := id x₂
  have hC₂ : h₂.get? 58 = some badObj := bad_obj (s := ⟨h₂, s.gens, s.drawn, tks', s.os⟩) (X.keeps F₂.keep)
  refine wpAny_handleBy_cons (codeAny_handlers_test (nameX_K F₂ X (topRead_of ok.T) (by kernel_rfl : nsIn (KK w) mainGlobals (Str.ofString "BadText") = some (some (.ref 58))) ?_ (by kernel_rfl) (by kernel_rfl) (by decide +kernel))) (by intro q; cases q)
  refine wpAny_excMatches_sub_self hC₂ he hc (by decide +kernel) (codeAny_handlers_suite_as ?_)
  refine set_flight (fr := none) x₂ fun h₃ x₃ => ?_
  have F₃ := ground x₃
  obtain ⟨evo, ⟨gE, gD⟩, ad, oe, vs, T, oT, ts, he, hc, hd, hdt, _, _, _, _, _, _⟩ := id x₃
  obtain ⟨slL, hL₃⟩ := (evo C.L oL (F'.keep _ _ hL)).2
  obtain ⟨oD, esD, epD, hoD, hdD, hDr⟩ := id ad
  obtain ⟨oL', _, _, hL', _⟩ := id F'.ns
  have noG : ∀ {a : Addr}, G'.get? a = none → a ≠ s.heap.objs.size ∧ C.h₀.get? a = none := fun {a} q => by
    exact ⟨fun z => (by rw [z, hL'] at q; cases q), none_of F.keep (none_of F'.keep q)⟩
  have N₃ : News C.h₀ s.heap.objs.size h₃ ((e, oe) :: (D, oD) :: (C.L, { oL with slots := slL }) :: (ol ++ keep ++ fz)) := fun q hq => by
    rcases List.mem_cons.mp hq with rfl | hq
    · exact ⟨he, (noG gE).1, (noG gE).2⟩
    rcases List.mem_cons.mp hq with rfl | hq
    · exact ⟨hoD, (noG gD).1, (noG gD).2⟩
    rcases List.mem_cons.mp hq with rfl | hq
    · exact ⟨hL₃, Nat.ne_of_lt hLlt, kts_self F⟩
    · obtain ⟨n1, n2, n3⟩ := N q hq
      have hlt := Heap.lt_size n1
      refine ⟨(evo _ _ (F'.keep _ _ n1)).1 fun hm => ?_, Nat.ne_of_lt hlt, n3⟩
      rw [hfs] at hm
      rcases List.mem_cons.mp hm with z | z
      · rw [z] at hlt; exact Nat.lt_irrefl _ hlt
      · exact n2 (List.mem_singleton.mp z)
  refine storeX_L F₃ N₃ (fun h₄ F₄ N₄ => ?_) (by kernel_rfl) (by kernel_rfl)
  refine wpAny_execs_cons (wpAny_Return_some (Tuple_ (wpAny_items_cons (wpAny_Constant_str (wpAny_items_cons (Attribute_name (nameX_L F₄ (by rw [if_pos rfl]) ?_ (by kernel_rfl) (by kernel_rfl) (by decide +kernel))) rfl)) rfl)))
  have ad₄ : AtD h₄ D (.int i t) := ⟨oD, esD, epD, (N₄ _ (.tail _ (.head _))).1, hdD, hDr⟩
  refine bad_get (X.keeps F₄.keep) (N₄ _ (.head _)).1 hc hd hdt ad₄ ?_
  refine wpAny_items_nil ?_
  refine newTuple_N F₄ N₄ (fun h₅ F₅ N₅ => ?_) (by show 2 ≤ sizeLine; rw [sizeLine_eq]; decide)
  refine wpAny_bind (wpAny_bindName (storeX_L F₅ N₅ (fun h₆ F₆ N₆ => ?_) (by kernel_rfl) (by kernel_rfl)))
  unfold unbindBehindTheSuite
  refine wpAny_onRaise (wpAny_unbindName_local (by kernel_rfl) F₆.ns (by rw [if_pos rfl]) (by kernel_rfl) fun h₇ u hn₇ hs₇ => ?_)
  have F₇ := F₆.set hn₇ hs₇
  have N₇ := N₆.set hs₇
  refine hQ _ _ ⟨_, (h₄.objs.size, { cls := .type "tuple", data := .seq [.str (Str.ofString "refused") (tks' + 1), .int i t].toArray }) :: fz, Sub.cons, .tuple _ _ [.str (Str.ofString "refused") (tks' + 1), .int i t].toArray 0 _ (.head _) rfl rfl (.cons (.str _ _) (.cons (.int _ _) .nil)), ?_, rfl⟩
  have hL₇ := (N₇ _ (.tail _ (.tail _ (.tail _ (.head _))))).1
  have inN : ∀ q ∈ ol ++ keep ++ fz, q ∈ ((e, oe) :: (D, oD) :: (C.L, { oL with slots := slL }) :: (ol ++ keep ++ fz)) := fun q hq => .tail _ (.tail _ (.tail _ hq))
  refine ⟨m, ol, ⟨⟨_, esL, epL, hL₇, hLr⟩, F₇.keep, F.above⟩, L.mono Sub.cons, fun q hq => ?_, ⟨Di.1, fun q hq q' hq' => ?_⟩, h₇, _, by rw [es]⟩
  · have old : ∀ q ∈ ol ++ keep ++ fz, h₇.get? q.1 = some q.2 ∧ q.1 ≠ C.L ∧ C.h₀.get? q.1 = none := fun q hq => ⟨(N₇ q (.tail _ (inN q hq))).1, (N q hq).2⟩
    rcases List.mem_append.mp hq with hq | hq
    · exact old q (List.mem_append_left _ hq)
    rcases List.mem_cons.mp hq with rfl | hq
    · refine ⟨(N₇ _ (.head _)).1, fun z => ?_, (N₇ _ (.head _)).2.2⟩
      have := Heap.lt_size (N₄ _ (.tail _ (.tail _ (.head _)))).1
      exact Nat.lt_irrefl _ (z ▸ this)
    · exact old q (List.mem_append_right _ hq)
  · rcases List.mem_cons.mp hq' with rfl | hq'
    · exact Nat.ne_of_lt (Heap.lt_size (N₄ q (inN q (List.mem_append_left _ hq))).1)
    · exact Di.2 q hq q' hq'
end
end
section
open PySem PySem.W PySem.Calls PyProof.Rows
set_option Elab.async false
set_option maxRecDepth 100000
set_option maxHeartbeats 4000000
set_option linter.unusedVariables false
open Builtin
section
variable {prog : Program} {w : World} {A : Around} {E : Value → Shared → Prop} {s : Shared} {env : Env}
theorem comp_list {elt iter : Expr} {x : Str} {px : Pos} {scope : Scope} {cl : List (Str × Addr)} {pos : Pos} {Q : Value → Shared → Prop} (R : Value → Value → Prop)
    (hh : A.handled = none) (hclos : closureFor scope env = pure cl) (hcell : ∀ y ∈ scope.names, y.2 ≠ .cell) (hkind : scope.kind = .function)
    (hnames : ∀ y ∈ scope.names, y.2 = .local → scope.names.lookup y.1 = some .local) (hx : scope.names.lookup x = some .local)
    (h : wpAny (model prog w) A (eval iter env) (fun xv s₁ => ∃ ax arr, xv = .ref ax ∧ s₁.heap.IsList ax arr ∧ arr.size ≤ sizeLine ∧
      (∀ Cc v s₂ m₂ E', v ∈ arr.toList → s₂.heap.Ns (compEnvC scope cl Cc env).locals m₂ → m₂ x = some v → (∀ b o, s₁.heap.get? b = some o → s₂.heap.get? b = some o) →
        wpAny (model prog w) A (eval elt (compEnvC scope cl Cc env)) (fun y s₃ => R v y ∧ Keeps s₂ s₃) E' s₂) ∧
      (∀ D ys n h' tk, s₁.heap.get? D = none → h'.get? D = some (listOf ys n) → (∀ b o, s₁.heap.get? b = some o → h'.get? b = some o) → Paired R arr.toList ys.toList → Q (.ref D) { s₁ with heap := h', toks := tk })) E s)
    (hs : ∀ x, foldedSetIterable iter env x = pure x) :
    wpAny (model prog w) A (eval (.ListComp elt [⟨.Name x px, iter, [], 0⟩] scope pos) env) Q E s := by
  refine wpAny_ListComp_free (fun _ => true) R hclos hcell hkind hnames hx (wpAny_mono h (fun xv s₁ h₁ => ?_) fun _ _ e => e) hs
  obtain ⟨ax, arr, rfl, hl, hsz, helt, hQ⟩ := h₁
  have hlt : ax < s₁.heap.objs.size := by obtain ⟨_, e, _⟩ := hl; exact Heap.lt_size e
  have up : ∀ (h₃ : Heap), (∀ b o, b ∉ [s₁.heap.objs.size] → (s₁.heap.push { cls := .type "list_iterator", data := .fields #[.ref ax, .int 0 0] }).get? b = some o → h₃.get? b = some o) → ∀ b o, s₁.heap.get? b = some o → h₃.get? b = some o :=
    fun s₃ hk b o e => hk b o (fun hm => by rcases List.mem_cons.mp hm with rfl | hm; exact Nat.lt_irrefl _ (Heap.lt_size e); cases hm) (Heap.get?_push_of_some _ e)
  refine wpAny_pyIter_list hl ⟨s₁.heap.objs.size, [s₁.heap.objs.size, ax], [s₁.heap.objs.size], arr.size, _, _, rfl, Walks.list hh _ _ (Nat.ne_of_lt hlt) arr, hsz, ⟨⟨_, Heap.get?_push_size _ rfl, rfl, rfl⟩, hl.push _⟩, ?_, ⟨?_, ?_⟩, ?_⟩
  · intro b hb
    show b < (s₁.heap.push _).objs.size
    rw [Heap.size_push]
    rcases List.mem_cons.mp hb with rfl | hb
    · exact Nat.lt_succ_self _
    · rcases List.mem_cons.mp hb with rfl | hb
      · exact Nat.lt_succ_of_lt hlt
      · cases hb
  · intro C i v s₃ m₃ E' _ hP hn hm hk _
    exact wpAny_pure ⟨rfl, ⟨s₃.heap, s₃.toks, rfl, fun b o e => e⟩⟩
  · intro C i v s₃ m₃ E' _ hP hp hn hm hk _
    exact helt C v s₃ m₃ E' (by have := Array.mem_of_getElem? hP; simpa using this) hn hm (up s₃.heap hk)
  · intro D h' tk ys vs' hnew hlD hpD hlen hP hF hk
    have e : vs' = arr.toList := list_of_places hlen hP
    subst e
    obtain ⟨n, hD⟩ := hpD
    refine hQ D ys n h' tk ?_ hD (up h' hk) (by rw [List.filter_eq_self.mpr (fun _ _ => rfl)] at hF; exact hF)
    cases e : s₁.heap.get? D with
    | none => rfl
    | some o' => rw [Heap.get?_push_of_some _ e] at hnew; cases hnew
end
end
section
open PySem PySem.W PySem.Calls PyProof.Rows
set_option Elab.async false
set_option maxRecDepth 100000
set_option maxHeartbeats 4000000
set_option linter.unusedVariables false
open Builtin
section
variable {G : Gl} {C : Fc} {n : Nat} {σ : List V}
theorem store_cell {fz keep : Led} {s : Shared} {c : Addr} {o : Obj} {v₀ : Option Value} {x : Str} {v : Value} {R : Unit → Shared → Prop} (ok : Ok G C n) (i : In C fz ((c, o) :: keep) σ s) (hc : C.cl.lookup x = some c) (hd : o.data = .cell v₀) (hx : C.env.kindOf x = some .cell)
    (h : ∀ o' s', o'.data = .cell (some v) → In C fz ((c, o') :: keep) σ s' → R () s') : wpAny G.M C.A (storeName C.env x v) R C.E s := by
  have hg := i.getK (List.mem_cons_self (a := (c, o)) (l := keep))
  refine wpAny_storeName_cell ok.hk hx hc ⟨o, hg, hd⟩ fun h' hv hs => ?_
  obtain ⟨o', ho', hd'⟩ := hv
  exact h o' _ hd' (i.change hs ho' (t := s.toks))
theorem paired_frs {fz fz' : Led} {bs : Array UInt8} {vs ys : List Value} {ds : List Nat} (P : Paired (fun v y => ∀ (d : Nat) t, v = .int (d : Int) t → ∃ t', y = .int (((bs.toList.getD d 0).toNat : Nat) : Int) t') vs ys) (r : FRs fz vs (vN ds)) : FRs fz' ys (vN (ds.map fun d => (bs.toList.getD d 0).toNat)) := by
  induction P generalizing ds with
  | nil =>
    cases ds with
    | nil => exact .nil
    | cons d ds => exact (show False by obtain ⟨_, _, e, _⟩ := r.inv; exact nomatch e).elim
  | cons h p ih =>
    cases ds with
    | nil => exact nomatch (show _ = [] from r.inv)
    | cons d ds =>
      obtain ⟨_, _, e, r1, r2⟩ := r.inv
      obtain ⟨rfl, rfl⟩ := List.cons.inj e
      obtain ⟨t, e⟩ : ∃ t, _ = Value.int (d : Int) t := r1.inv
      obtain ⟨t', rfl⟩ := h d t e
      exact .cons (.int _ _) (ih r2)
theorem In.pushNew {fz keep : Led} {s : Shared} {a : Addr} {o : Obj} {h' : Heap} {tk : Nat} (i : In C fz keep σ s) (ha : s.heap.get? a = none) (ho : h'.get? a = some o) (k : ∀ b o, s.heap.get? b = some o → h'.get? b = some o) : In C ((a, o) :: fz) keep σ { s with heap := h', toks := tk } :=
  i.addFz (f' := [(a, o)]) (s' := { s with heap := h', toks := tk }) k ⟨h', tk, rfl⟩ fun q hq => by rw [List.mem_singleton.mp hq]; exact ⟨ho, ha⟩
theorem comp_index {fz keep : Led} {s : Shared} {c : Addr} {o : Obj} {bs : Array UInt8} {tk : Tok} {ds : List Nat} {kk : Nat} {scope : Scope} {p1 p2 p3 p4 p5 pos : Pos} {Q : Value → Shared → Prop} (ok : Ok G C n) (i : In C fz keep σ s) (hm : (c, o) ∈ keep)
    (ho : o.data = .cell (some (.bytes bs tk))) (hdg : At C.names σ (Str.ofString "digits") kk (.list (vN ds))) (hd : ∀ d ∈ ds, d < bs.size) (hbs : bs.size ≤ 1000) (hds : ds.length ≤ 1000)
    (hclos : closureFor scope C.env = pure [(Str.ofString "letters", c)]) (hcell : ∀ y ∈ scope.names, y.2 ≠ .cell) (hkind : scope.kind = .function)
    (hnames : ∀ y ∈ scope.names, y.2 = .local → scope.names.lookup y.1 = some .local) (hx : scope.names.lookup (Str.ofString "digit") = some .local)
    (hk1 : ∀ Cc, (compEnvC scope [(Str.ofString "letters", c)] Cc C.env).scope.kind = .function) (hk2 : ∀ Cc, (compEnvC scope [(Str.ofString "letters", c)] Cc C.env).kindOf (Str.ofString "letters") = some .cell) (hk3 : ∀ Cc, (compEnvC scope [(Str.ofString "letters", c)] Cc C.env).kindOf (Str.ofString "digit") = some .local)
    (hs : ∀ x, foldedSetIterable (.Name (Str.ofString "digits") p4) C.env x = pure x) (hsub : ∀ o i, subscripted (.Name (Str.ofString "digit") p2) false o i = operate [o, i] (getItem o i))
    (hQ : ∀ v s' fz', Sub fz fz' → FR fz' v (.list (vN (ds.map fun d => (bs.toList.getD d 0).toNat))) → In C fz' keep σ s' → Q v s') :
    wpAny G.M C.A (eval (.ListComp (.Subscript (.Name (Str.ofString "letters") p1) (.Name (Str.ofString "digit") p2) p3) [⟨.Name (Str.ofString "digit") p5, .Name (Str.ofString "digits") p4, [], 0⟩] scope pos) C.env) Q C.E s := by
  refine comp_list (fun v y => ∀ (d : Nat) t, v = .int (d : Int) t → ∃ t', y = .int (((bs.toList.getD d 0).toNat : Nat) : Int) t') ok.hh hclos hcell hkind hnames hx ?_ hs
  refine wpAny_mono ((wF_local (Q := fun y σ' => y = .list (vN ds) ∧ σ' = σ) hdg rfl ⟨rfl, rfl⟩ : wF G C n (.Name (Str.ofString "digits") p4) _ σ) ok fz keep s i) (fun v s1 ⟨y, σ1, f1, s1', r, i1, hy, hσ⟩ => ?_) fun _ _ x => x
  subst hy; subst hσ
  refine r.list_c fun a arr m hmem hr => ?_
  · have hlen : arr.size = ds.length := by rw [← Array.length_toList, hr.length, vN_length]
    refine ⟨a, arr, rfl, ⟨_, i1.get hmem, rfl, m, rfl⟩, by rw [hlen, sizeLine_eq]; omega, fun Cc v s₂ m₂ E' hv hns hmx hkeep => ?_, fun D ys n' h' tk' hD hD' hkeep hP => ?_⟩
    · have hcl : s₂.heap.IsCell c (some (.bytes bs tk)) := ⟨o, hkeep _ _ (i1.getK hm), ho⟩
      obtain ⟨j, hj⟩ := List.getElem?_of_mem hv
      obtain ⟨w0, hw0, rw0⟩ : ∃ w0, (vN ds)[j]? = some w0 ∧ FR f1 v w0 := by
        have hjl : j < arr.toList.length := (List.getElem?_eq_some_iff.mp hj).1
        have hjv : j < (vN ds).length := by rw [← hr.length]; exact hjl
        obtain ⟨v', hv', rv'⟩ := hr.get (List.getElem?_eq_getElem hjv)
        rw [hj] at hv'; cases hv'
        exact ⟨_, List.getElem?_eq_getElem hjv, rv'⟩
      have hjd : ∃ d ∈ ds, w0 = .int ((d : Nat) : Int) := by
        have hmm := List.mem_of_getElem? hw0
        obtain ⟨d, hd', e⟩ := List.mem_map.mp hmm
        exact ⟨d, hd', e.symm⟩
      obtain ⟨d, hdm, rfl⟩ := hjd
      obtain ⟨t, rfl⟩ : ∃ t, v = Value.int (d : Int) t := rw0.inv
      have hlt := hd d hdm
      refine Subscript_ (ldCellK (by rfl) hcl ?_ (hk1 Cc) (hk2 Cc) (by decide +kernel))
      refine ldVarK hns hmx ?_ (hk1 Cc) (hk3 Cc) (by decide +kernel)
      have hb : bs = bs.toList.toArray := by simp
      rw [hb]
      refine tail_any (typeIs_bytes _ _ _) FB.slot_bytes_getitem.lookup (getItem_bytes (by simp; omega) (by omega) (by simpa using hlt) ?_) (hsub _ _)
      refine ⟨fun d' t' e => ?_, ⟨s₂.heap, s₂.toks + 1, rfl, fun b o q => q⟩⟩
      cases e
      exact ⟨_, rfl⟩
    · have i2 := i1.pushNew (tk := tk') hD hD' hkeep
      exact hQ _ _ ((D, listOf ys n') :: f1) (s1'.trans Sub.cons) (.list D ys n' _ (.head _) (paired_frs hP hr)) i2
end
end
section
open PySem PySem.W PySem.Calls PyProof.Rows
set_option Elab.async false
set_option maxRecDepth 100000
set_option maxHeartbeats 4000000
set_option linter.unusedVariables false
open Builtin PySem.SeqAt
def Same (k : Nat) (x : V) : Prop := ∀ (A : Around) (s : Shared) (fz : Led) (v w : Value), A.units + k < cLine → (∀ p ∈ fz, s.heap.get? p.1 = some p.2) → FR fz v x → FR fz w x → EqAt A s v w true
theorem same_int (k : Nat) (i : Int) : Same k (.int i) := fun A s fz v w hu hf r1 r2 => by
  refine r1.int_c fun t => r2.int_c fun u => ?_
  · ·
      have := (MeetsSeq.EqGives.int i i t u).at A s
      rwa [show (i == i) = true from by simp] at this
theorem same_str (k : Nat) (x : Str) : Same k (.str x) := fun A s fz v w hu hf r1 r2 => by
  refine r1.str_c fun t => r2.str_c fun u => ?_
  · ·
      have := (eqGives_str x x t u).at A s
      rwa [show (x == x) = true from by simp] at this
theorem same_bool (k : Nat) (b : Bool) : Same k (.bool b) := fun A s fz v w hu hf r1 r2 => by
  exact r1.bool_c (r2.bool_c (EqAt.same _))
theorem all_true (n : Nat) : (List.range n).all (fun _ => true) = true := by simp
theorem same_items {k : Nat} {xs : List V} (h : ∀ x ∈ xs, Same k x) {A : Around} {s : Shared} {fz : Led} (hu : A.units + (k + 1) < cLine) (hf : ∀ p ∈ fz, s.heap.get? p.1 = some p.2) {a1 a2 : Array Value} (r1 : FRs fz a1.toList xs) (r2 : FRs fz a2.toList xs) :
    ∀ j (h1 : j < a1.size) (h2 : j < a2.size), EqAt A.in1 s a1[j] a2[j] true := fun j h1 h2 => by
  have hl : j < xs.length := by rw [← r1.length]; simpa using h1
  obtain ⟨v, hv, rv⟩ := r1.get (List.getElem?_eq_getElem hl)
  obtain ⟨w, hw, rw_⟩ := r2.get (List.getElem?_eq_getElem hl)
  have e1 : a1[j] = v := by
    rw [Array.getElem?_toList, Array.getElem?_eq_getElem h1] at hv; exact Option.some.inj hv
  have e2 : a2[j] = w := by
    rw [Array.getElem?_toList, Array.getElem?_eq_getElem h2] at hw; exact Option.some.inj hw
  rw [e1, e2]
  refine h _ (List.getElem_mem hl) A.in1 s fz v w ?_ hf rv rw_
  show A.units + 1 + k < cLine
  omega
theorem same_list {k : Nat} {xs : List V} (h : ∀ x ∈ xs, Same k x) : Same (k + 1) (.list xs) := fun A s fz v w hu hf r1 r2 => by
  refine r1.list_c fun a1 arr1 n1 hm1 hr1 => r2.list_c fun a2 arr2 n2 hm2 hr2 => ?_
  · ·
      by_cases e : a1 = a2
      · subst e; exact EqAt.same _
      · have hsz : arr1.size = arr2.size := by rw [← Array.length_toList, hr1.length, ← hr2.length, Array.length_toList]
        have := RcAt.lists (A := A) (s := s) (e := fun _ => true) ⟨_, hf _ hm1, rfl, n1, rfl⟩ ⟨_, hf _ hm2, rfl, n2, rfl⟩ hsz (by omega) (same_items h hu hf hr1 hr2)
        rw [all_true] at this
        exact EqAt.of_refs e this
theorem same_tuple {k : Nat} {xs : List V} (h : ∀ x ∈ xs, Same k x) : Same (k + 1) (.tuple xs) := fun A s fz v w hu hf r1 r2 => by
  refine r1.tuple_c fun a1 o1 arr1 n1 hm1 hc1 hd1 hr1 => r2.tuple_c fun a2 o2 arr2 n2 hm2 hc2 hd2 hr2 => ?_
  · ·
      by_cases e : a1 = a2
      · subst e; exact EqAt.same _
      · have hsz : arr1.size = arr2.size := by rw [← Array.length_toList, hr1.length, ← hr2.length, Array.length_toList]
        have := RcAt.tuples (A := A) (s := s) (e := fun _ => true) ⟨_, hf _ hm1, hc1, n1, hd1⟩ ⟨_, hf _ hm2, hc2, n2, hd2⟩ (by omega) (same_items h hu hf hr1 hr2)
        rw [all_true, show (true && arr1.size == arr2.size) = true by simp [hsz]] at this
        exact EqAt.of_refs e this
section
variable {G : Gl} {C : Fc} {n : Nat} {σ : List V}
theorem wT_neSame {l r : Expr} {pos : Pos} {Q : Bool → List V → Prop} (h : wF G C n l (fun a σ1 => wF G C n r (fun b σ2 => a = b ∧ (∃ xs, a = .tuple xs ∧ ∀ x ∈ xs, Same 10 x) ∧ Q false σ2) σ1) σ) (hm : behindInMarks .NotEq r = false) :
    wT G C n (.Compare l [.NotEq] [r] pos) Q σ := fun ok fz keep s i => by
  refine wpAny_isTrue_Compare1 (wpAny_mono (h ok fz keep s i) (fun v s1 ⟨a, σ1, f1, s1', ra, i1, q1⟩ => ?_) fun _ _ x => x) hm
  refine wpAny_mono (q1 ok f1 keep s1 i1) (fun w s2 ⟨b, σ2, f2, s2', rb, i2, e, ⟨xs, e2, hx⟩, q⟩ => ?_) fun _ _ x => x
  subst e; subst e2
  have ra2 := ra.mono s2'
  have hf : ∀ p ∈ f2, s2.heap.get? p.1 = some p.2 := fun p hp => i2.get hp
  have hu : C.A.units + 16 < cLine := by have := ok.units; omega
  refine ra2.tuple_c fun a1 o1 arr1 n1 hm1 hc1 hd1 hr1 => rb.tuple_c fun a2 o2 arr2 n2 hm2 hc2 hd2 hr2 => ?_
  · ·
      have hsz : arr1.size = arr2.size := by rw [← Array.length_toList, hr1.length, ← hr2.length, Array.length_toList]
      have := RcNeAt.tuples (A := C.A) (s := s2) (e := fun _ => true) ⟨_, hf _ hm1, hc1, n1, hd1⟩ ⟨_, hf _ hm2, hc2, n2, hd2⟩ (by omega) (same_items hx (by omega) hf hr1 hr2)
      rw [all_true, show (!(true && arr1.size == arr2.size)) = false by simp [hsz]] at this
      exact this _ _ _ _ (wpAny_truthy_bool ⟨σ2, f2, s1'.trans s2', i2, q⟩)
end
end
section
variable {prog : Program} {W : World} {p : Program} {loose : List Str} {mean : ExcName → Option Value} {mg mb : Str → Option Value}
def typed (c : Nat) (keys : List Nat) (many : Nat) : Nat := if c + 1 ≤ keys.length then keys.getD c 0 % many else (8 * (c + 1) + (c + 1) / 3 + 12) % many
theorem t_law_typed {c many : Nat} {keys : List Nat} (hk : keys.length ≤ 1000) (hc : c ≤ 1000) (hm : 0 < many ∧ many < 1000) {K : V → List V → Prop} (hK : K (.int ((typed c keys many : Nat) : Int)) [.int ((c + 1 : Nat) : Int), .list (vN keys)]) : CallsO (GG prog W p loose mean mg mb) 1 (.ref 322) [.int (c : Int), .list (vN keys)] [.int (many : Int)] K := by
  refine callsO_of_body d_law_typed rfl fun D A => ?_
  top_reprB
  unfold typed at hK
  top_strB <;> (try ((with_reducible first | show _ ≤ _ | show _ < _ | show (_ : Int) ≤ _ ∧ _ | show (_ : Nat) ≤ _ ∧ _ | show (_ : Int) < _ ∧ _ | show (_ : Nat) < _ ∧ _ | show (_ : Nat) = _ | show (_ : Int) = _); first | k_subL | (simp only [vN_length, List.length_append, List.length_cons, List.length_nil, List.length_replicate, List.length_set, List.length_take, List.length_drop, List.length_reverse] at * <;> k_subL)))
  have e : [V.int (c : Int), V.list (vN keys)].set (Int.toNat 0) (V.int ((c : Int) + 1)) = [V.int ((c + 1 : Nat) : Int), V.list (vN keys)] := rfl
  rw [e]
  top_strB <;> (try ((with_reducible first | show _ ≤ _ | show _ < _ | show (_ : Int) ≤ _ ∧ _ | show (_ : Nat) ≤ _ ∧ _ | show (_ : Int) < _ ∧ _ | show (_ : Nat) < _ ∧ _ | show (_ : Nat) = _ | show (_ : Int) = _); first | k_subL | (simp only [vN_length, List.length_append, List.length_cons, List.length_nil, List.length_replicate, List.length_set, List.length_take, List.length_drop, List.length_reverse] at * <;> k_subL)))
  · rename_i h
    rw [vN_length] at h
    refine ⟨_, rfl, ?_⟩
    rw [if_pos (by k_subL)] at hK
    rw [show (((c + 1 : Nat) : Int) - 1).toNat = c by k_subL]; exact hK
  · rename_i h
    rw [vN_length] at h
    refine ⟨_, rfl, ?_⟩
    rw [if_neg (by k_subL), Int.natCast_emod, show ((8 * (c + 1) + (c + 1) / 3 + 12 : Nat) : Int) = 8 * ((c + 1 : Nat) : Int) + ((c + 1 : Nat) : Int) / 3 + 12 by k_subL] at hK
    exact hK
def sgn (w : Nat) (n : Int) : V := .tuple [.bool (decide (n < 0)), L (2 ^ w) n.natAbs]
theorem t_law_signed {w : Nat} {n : Int} (hw : Wd w) (hn : n.natAbs < 2 ^ 60) {K : V → Prop} (hK : K (sgn w n)) : Calls (GG prog W p loose mean mg mb) 1 (.ref 329) [.int n, .int (w : Int)] K := by
  have hB := hw.two
  have h8 := hw.hi
  have h256 := hw.le
  have hl := limbs_62 hw (n := n.natAbs) (by k_subL)
  refine calls_of_body d_law_signed rfl fun D => ?_
  top_reprB
  top_strB <;> (try ((with_reducible first | show _ ≤ _ | show _ < _ | show (_ : Int) ≤ _ ∧ _ | show (_ : Nat) ≤ _ ∧ _ | show (_ : Int) < _ ∧ _ | show (_ : Nat) < _ ∧ _ | show (_ : Nat) = _ | show (_ : Int) = _); first | k_subL | (simp only [vN_length, List.length_append, List.length_cons, List.length_nil, List.length_replicate, List.length_set, List.length_take, List.length_drop, List.length_reverse] at * <;> k_subL)))
  rename_i A
  refine wX_while (by rfl) (fun k σ => ∃ (m : Nat) (f : List Nat), σ = [.int n, .int (w : Int), .int (m : Int), .own A (vN f)] ∧ limbs (2 ^ w) n.natAbs = f ++ limbs (2 ^ w) m ∧ k = m) ?_ n.natAbs ⟨n.natAbs, [], rfl, rfl, rfl⟩
  rintro k σ ⟨m, f, rfl, he, rfl⟩
  have hf : f.length ≤ 62 := by have := congrArg List.length he; rw [List.length_append] at this; k_subL
  top_strB <;> (try ((with_reducible first | show _ ≤ _ | show _ < _ | show (_ : Int) ≤ _ ∧ _ | show (_ : Nat) ≤ _ ∧ _ | show (_ : Int) < _ ∧ _ | show (_ : Nat) < _ ∧ _ | show (_ : Nat) = _ | show (_ : Int) = _); first | k_subL | (simp only [vN_length, List.length_append, List.length_cons, List.length_nil, List.length_replicate, List.length_set, List.length_take, List.length_drop, List.length_reverse] at * <;> k_subL)))
  · rename_i h
    refine ⟨k / 2 ^ w, Nat.div_lt_self (by k_subL) hB, k / 2 ^ w, f ++ [k % 2 ^ w], by rw [vN_snoc], ?_, rfl⟩
    rw [he, limbs_pos hB (by k_subL), List.append_assoc]; rfl
  · rename_i h
    have : k = 0 := by k_subL
    subst this
    rw [limbs_zero, List.append_nil] at he
    rw [sgn, L, he] at hK; exact hK
end
section
variable {prog : Program} {W : World} {p : Program} {loose : List Str} {mean : ExcName → Option Value} {mg mb : Str → Option Value}
inductive Stg where
  | ahead | minus | figures
def Stg.s : Stg → Str
  | .ahead => Str.ofString "ahead"
  | .minus => Str.ofString "minus"
  | .figures => Str.ofString "figures"
def optV : Option Nat → V
  | none => .none
  | some n => .int (n : Int)
structure Mach where
  stage : Stg
  below : Bool
  number : Nat
  wrong : Option Nat
  many : Nat
def Mach.v (m : Mach) : V := .tuple [.str m.stage.s, .bool m.below, .int (m.number : Int), optV m.wrong, .int (m.many : Int)]
def Mach.due (m : Mach) : Int := if m.below then 0 - (m.number : Int) else (m.number : Int)
def Mach.shown (m : Mach) : Nat ⊕ Int := match m.wrong, m.stage with
  | some p, _ => .inl p
  | none, .figures => .inr m.due
  | none, _ => .inl m.many
def shownV : Nat ⊕ Int → V
  | .inl p => .tuple [.str (Str.ofString "refused"), .int (p : Int)]
  | .inr n => .tuple [.str (Str.ofString "number"), .int n]
theorem t_law_shown {m : Mach} {K : V → Prop} (hK : K (shownV m.shown)) : Calls (GG prog W p loose mean mg mb) 1 (.ref 350) [m.v] K := by
  refine calls_of_body d_law_shown rfl fun D => ?_
  obtain ⟨stage, below, number, wrong, many⟩ := m
  unfold Mach.v
  top_reprB
  cases wrong <;> cases stage <;> cases below <;> dsimp only [optV, Stg.s]
  all_goals (top_strB; exact hK)
end
section
variable {prog : Program} {W : World} {p : Program} {loose : List Str} {mean : ExcName → Option Value} {mg mb : Str → Option Value}
def lwf (o b : Nat) : Option Nat := if 48 ≤ o ∧ o ≤ 57 then some (o - 48) else if (65 ≤ o ∧ o ≤ 90) ∨ (97 ≤ o ∧ o ≤ 122) then some (10 + (upo o - 65) + (if b > 36 ∧ o ≠ upo o then 26 else 0)) else none
def lw (o b : Nat) : Option Nat := (lwf o b).bind fun k => if k < b then some k else none
theorem lw_some {o b k : Nat} {e : Int} (h : lwf o b = some k) (he : e = (k : Int)) (hk : k < b) : V.int e = optV (lw o b) := by
  rw [lw, h, Option.bind_some, if_pos hk, he]; rfl
theorem lw_big {o b k : Nat} (h : lwf o b = some k) (hk : ¬ k < b) : V.none = optV (lw o b) := by
  rw [lw, h, Option.bind_some, if_neg hk]; rfl
theorem lw_none {o b : Nat} (h : lwf o b = none) : V.none = optV (lw o b) := by rw [lw, h]; rfl
theorem lwf_digit {o b : Nat} (h : 48 ≤ o ∧ o ≤ 57) : lwf o b = some (o - 48) := if_pos h
theorem lwf_plain {o b : Nat} (h : ¬ (48 ≤ o ∧ o ≤ 57)) (h2 : (65 ≤ o ∧ o ≤ 90) ∨ (97 ≤ o ∧ o ≤ 122)) (h3 : ¬ (b > 36 ∧ o ≠ upo o)) : lwf o b = some (10 + (upo o - 65) + 0) := by rw [lwf, if_neg h, if_pos h2, if_neg h3]
theorem lwf_small {o b : Nat} (h : ¬ (48 ≤ o ∧ o ≤ 57)) (h2 : (65 ≤ o ∧ o ≤ 90) ∨ (97 ≤ o ∧ o ≤ 122)) (h3 : b > 36 ∧ o ≠ upo o) : lwf o b = some (10 + (upo o - 65) + 26) := by rw [lwf, if_neg h, if_pos h2, if_pos h3]
theorem lwf_no {o b : Nat} (h : ¬ (48 ≤ o ∧ o ≤ 57)) (h2 : ¬ ((65 ≤ o ∧ o ≤ 90) ∨ (97 ≤ o ∧ o ≤ 122))) : lwf o b = none := by rw [lwf, if_neg h, if_neg h2]
theorem t_law_worth {o b : Nat} (ho : o < 128) {K : V → Prop} (hK : K (optV (lw o b))) : Calls (GG prog W p loose mean mg mb) 1 (.ref 336) [.int (o : Int), .int (b : Int)] K := by
  refine calls_of_body d_law_worth rfl fun D => ?_
  top_reprB
  top_strB <;> (try ((with_reducible first | show _ ≤ _ | show _ < _ | show (_ : Int) ≤ _ ∧ _ | show (_ : Nat) ≤ _ ∧ _ | show (_ : Int) < _ ∧ _ | show (_ : Nat) < _ ∧ _ | show (_ : Nat) = _ | show (_ : Int) = _); first | k_subL | (simp only [vN_length, List.length_append, List.length_cons, List.length_nil, List.length_replicate, List.length_set, List.length_take, List.length_drop, List.length_reverse] at * <;> k_subL)))
  all_goals first
    | (show 65 ≤ upo o ∧ upo o ≤ 90; unfold upo; split <;> k_subL)
    | (refine Eq.mp (congrArg K (lw_some (lwf_digit (by assumption)) rfl (by k_subL)).symm) hK)
    | (refine Eq.mp (congrArg K (lw_big (lwf_digit (by assumption)) (by k_subL)).symm) hK)
    | (refine Eq.mp (congrArg K (lw_some (lwf_plain (by assumption) (by assumption) (by k_subL)) (by k_subL) (by k_subL)).symm) hK)
    | (refine Eq.mp (congrArg K (lw_big (lwf_plain (by assumption) (by assumption) (by k_subL)) (by k_subL)).symm) hK)
    | (refine Eq.mp (congrArg K (lw_some (lwf_small (by assumption) (by assumption) (by k_subL)) (by k_subL) (by k_subL)).symm) hK)
    | (refine Eq.mp (congrArg K (lw_big (lwf_small (by assumption) (by assumption) (by k_subL)) (by k_subL)).symm) hK)
    | (refine Eq.mp (congrArg K (lw_none (lwf_no (by assumption) (by assumption))).symm) hK)
end
section
variable {prog : Program} {W : World} {p : Program} {loose : List Str} {mean : ExcName → Option Value} {mg mb : Str → Option Value}
def Mach.press (m : Mach) (o b : Nat) : Mach := match m.wrong, lw o b, m.stage with
  | some p, _, s => ⟨s, m.below, m.number, some p, m.many + 1⟩
  | none, some k, _ => ⟨.figures, m.below, m.number * b + k, none, m.many + 1⟩
  | none, none, .ahead => if o = 32 ∨ o = 9 then ⟨.ahead, m.below, m.number, none, m.many + 1⟩ else if o = 45 then ⟨.minus, true, m.number, none, m.many + 1⟩ else ⟨.ahead, m.below, m.number, some m.many, m.many + 1⟩
  | none, none, .figures => if o = 32 ∨ o = 9 then ⟨.figures, m.below, m.number, none, m.many + 1⟩ else ⟨.figures, m.below, m.number, some m.many, m.many + 1⟩
  | none, none, .minus => ⟨.minus, m.below, m.number, some m.many, m.many + 1⟩
theorem t_law_pressed {m : Mach} {o b : Nat} (ho : o < 128) (hn : m.number < 2 ^ 60) {K : V → Prop} (hK : K (m.press o b).v) : Calls (GG prog W p loose mean mg mb) 2 (.ref 343) [m.v, .int (o : Int), .int (b : Int)] K := by
  refine calls_of_body d_law_pressed rfl fun D => ?_
  obtain ⟨stage, below, number, wrong, many⟩ := m
  unfold Mach.v
  unfold Mach.press at hK
  top_reprB
  top_strB <;> (try ((with_reducible first | show _ ≤ _ | show _ < _ | show (_ : Int) ≤ _ ∧ _ | show (_ : Nat) ≤ _ ∧ _ | show (_ : Int) < _ ∧ _ | show (_ : Nat) < _ ∧ _ | show (_ : Nat) = _ | show (_ : Int) = _); first | k_subL | (simp only [vN_length, List.length_append, List.length_cons, List.length_nil, List.length_replicate, List.length_set, List.length_take, List.length_drop, List.length_reverse] at * <;> k_subL)))
  refine t_law_worth ho ?_
  generalize lw o b = r at *
  cases wrong <;> cases stage <;> cases r <;> dsimp only [optV, Stg.s] at *
  all_goals (top_strB)
  all_goals first | k_subL | exact hK | (rw [if_pos (by assumption)] at hK; exact hK) | (rw [if_neg (by assumption), if_pos (by k_subL)] at hK; exact hK) | (rw [if_neg (by assumption), if_neg (by k_subL)] at hK; exact hK) | (rw [if_neg (by assumption)] at hK; exact hK)
end
section
variable {prog : Program} {W : World} {p : Program} {loose : List Str} {mean : ExcName → Option Value} {mg mb : Str → Option Value}
def sg (d : Nat) : Nat := (bothA.toList.getD d 0).toNat
def signsS : Str := Str.ofString "0123456789ABCDEFGHIJKLMNOPQRSTUVWXYZabcdefghijklmnopqrstuvwxyz"
theorem signs_get {d : Nat} (h : d < 62) : signsS.cps[d]? = some (sg d) := by
  have : ∀ d : Fin 62, signsS.cps[d.val]? = some (sg d.val) := by decide +kernel
  exact this ⟨d, h⟩
theorem sg_lt {d : Nat} (h : d < 62) : sg d < 128 := by
  have : ∀ d : Fin 62, sg d.val < 128 := by decide +kernel
  exact this ⟨d, h⟩
def fin (b n : Nat) : List Nat := if n = 0 then [0] else (limbs b n).reverse
theorem fin_length {b n : Nat} (hb : 2 ≤ b) (hn : n < 2 ^ 60) : (fin b n).length ≤ 60 := by
  unfold fin; split
  · simp
  · rw [List.length_reverse]; exact limbs_length_le hb (Nat.lt_of_lt_of_le hn (Nat.pow_le_pow_left hb 60))
theorem fin_rng {b n : Nat} (hb : 2 ≤ b) : Rng b (fin b n) := by
  unfold fin; split
  · intro x hx; simp at hx; k_subL
  · exact (rng_limbs hb n).reverse
def figS (b n : Nat) : List Nat := (fin b n).map fun d => if b > 36 then sg d else lo (sg d)
theorem st_len (xs : List Nat) : (st xs).length = xs.length := by simp [st, Str.length]
theorem st_empty {xs : List Nat} : st xs = Str.ofString "" ↔ xs = [] := by
  have e : Str.ofString "" = st [] := by decide +kernel
  rw [e]; simp [st]
theorem minus_st : Str.ofString "-" = st [45] := by decide +kernel
theorem empty_st : Str.ofString "" = st [] := by decide +kernel
theorem figS_big {b n : Nat} (h : 36 < b) : figS b n = (fin b n).map sg := by unfold figS; simp [h]
theorem figS_small {b n : Nat} (h : ¬ 36 < b) : figS b n = ((fin b n).map sg).map lo := by unfold figS; simp [h]
theorem low_st {xs : List Nat} (h : ∀ c ∈ xs, c < 128) : st (xs.map lo) = ⟨placed (st xs) fun i _ => Unicode.lowerAt (st xs).cps i⟩ := by rw [lower_st h]; rfl
theorem fin_sg {b n : Nat} (hb : 2 ≤ b) (hb2 : b ≤ 62) : ∀ c ∈ (fin b n).map sg, c < 128 := fun c hc => by
  obtain ⟨d, hd, rfl⟩ := List.mem_map.mp hc
  exact sg_lt (Nat.lt_of_lt_of_le (fin_rng hb d hd) hb2)
theorem fig_step {b n m : Nat} {ds : List Nat} (hb : 2 ≤ b) (hd : ds = [] ∧ m = n ∨ ds ≠ [] ∧ (limbs b m).reverse ++ ds = fin b n) (hc : 0 < m ∨ ds = []) : (limbs b (m / b)).reverse ++ (m % b :: ds) = fin b n ∧ 2 * (m / b) < 2 * m + (if ds = [] then 1 else 0) := by
  rcases Nat.eq_zero_or_pos m with h0 | h0
  · subst h0
    have hds : ds = [] := hc.resolve_left (by k_subL)
    subst hds
    rcases hd with ⟨_, e⟩ | ⟨h, _⟩
    · subst e; simp [fin, limbs_zero]
    · exact absurd rfl h
  · refine ⟨?_, by have := Nat.div_lt_self h0 hb; k_subL⟩
    have e : (limbs b m).reverse ++ ds = fin b n := by
      rcases hd with ⟨h, e⟩ | ⟨_, h⟩
      · subst h; subst e; rw [fin, if_neg (by k_subL), List.append_nil]
      · exact h
    rw [← e, limbs_pos hb h0]; simp
theorem fig_len {b n m : Nat} {ds : List Nat} (hd : ds = [] ∧ m = n ∨ ds ≠ [] ∧ (limbs b m).reverse ++ ds = fin b n) (hl : (fin b n).length ≤ 60) : ds.length ≤ 60 := by
  rcases hd with ⟨h, _⟩ | ⟨_, h⟩
  · subst h; simp
  · have := congrArg List.length h; rw [List.length_append] at this; k_subL
theorem fig_end {b n m : Nat} {ds : List Nat} (hd : ds = [] ∧ m = n ∨ ds ≠ [] ∧ (limbs b m).reverse ++ ds = fin b n) (hm : m = 0) (hds : ds ≠ []) : ds = fin b n := by
  subst hm
  rcases hd with ⟨h, _⟩ | ⟨_, h⟩
  · exact absurd h hds
  · rwa [limbs_zero] at h
theorem t_law_figures {n : Int} {b : Nat} (hb : 2 ≤ b) (hb2 : b ≤ 62) (hn : n.natAbs < 2 ^ 60) {K : V → Prop} (hK : K (.str (st ((if n < 0 then [45] else []) ++ figS b n.natAbs)))) : Calls (GG prog W p loose mean mg mb) 1 (.ref 364) [.int n, .int (b : Int)] K := by
  have hfl := fin_length hb hn
  refine calls_of_body d_law_figures rfl fun D => ?_
  top_reprB
  top_strB <;> (try ((with_reducible first | show _ ≤ _ | show _ < _ | show (_ : Int) ≤ _ ∧ _ | show (_ : Nat) ≤ _ ∧ _ | show (_ : Int) < _ ∧ _ | show (_ : Nat) < _ ∧ _ | show (_ : Nat) = _ | show (_ : Int) = _); first | k_subL | (simp only [vN_length, List.length_append, List.length_cons, List.length_nil, List.length_replicate, List.length_set, List.length_take, List.length_drop, List.length_reverse] at * <;> k_subL)))
  refine wX_while (by rfl) (fun k σ => ∃ (m : Nat) (ds : List Nat), σ = [.int n, .int (b : Int), .str signsS, .str (st (ds.map sg)), .int (m : Int)] ∧ (ds = [] ∧ m = n.natAbs ∨ ds ≠ [] ∧ (limbs b m).reverse ++ ds = fin b n.natAbs) ∧ k = 2 * m + (if ds = [] then 1 else 0)) ?_ (2 * n.natAbs + 1) ⟨n.natAbs, [], rfl, .inl ⟨rfl, rfl⟩, rfl⟩
  rintro k σ ⟨m, ds, rfl, hd, rfl⟩
  have hdl := fig_len hd hfl
  have hmb := Nat.mod_lt m (show 0 < b by k_subL)
  have hml : (ds.map sg).length ≤ 60 := by rw [List.length_map]; exact hdl
  top_strB <;> (try ((with_reducible first | show _ ≤ _ | show _ < _ | show (_ : Int) ≤ _ ∧ _ | show (_ : Nat) ≤ _ ∧ _ | show (_ : Int) < _ ∧ _ | show (_ : Nat) < _ ∧ _ | show (_ : Nat) = _ | show (_ : Int) = _); first | k_subL | (simp only [vN_length, List.length_append, List.length_cons, List.length_nil, List.length_replicate, List.length_set, List.length_take, List.length_drop, List.length_reverse] at * <;> k_subL)))
  · rename_i hc
    obtain ⟨f1, f2⟩ := fig_step hb hd (.inl (by k_subL))
    refine ⟨signsS, ((m % b : Nat) : Int), sg (m % b), rfl, rfl, by k_subL, by k_subL, by rw [Int.toNat_natCast]; exact signs_get (by k_subL), ?_⟩
    top_strB <;> (try ((with_reducible first | show _ ≤ _ | show _ < _ | show (_ : Int) ≤ _ ∧ _ | show (_ : Nat) ≤ _ ∧ _ | show (_ : Int) < _ ∧ _ | show (_ : Nat) < _ ∧ _ | show (_ : Nat) = _ | show (_ : Int) = _); first | k_subL | (simp only [vN_length, List.length_append, List.length_cons, List.length_nil, List.length_replicate, List.length_set, List.length_take, List.length_drop, List.length_reverse] at * <;> k_subL)))
    · show 1 + (st (ds.map sg)).length ≤ 1000000
      rw [st_len]; k_subL
    exact ⟨2 * (m / b), by k_subL, m / b, m % b :: ds, by rw [show (⟨#[sg (m % b)]⟩ : Str) = st [sg (m % b)] from rfl, st_append]; rfl, .inr ⟨by simp, f1⟩, by simp⟩
  · rename_i h1 hc
    obtain ⟨f1, f2⟩ := fig_step hb hd (.inr (by rw [st_empty] at hc; simpa using hc))
    refine ⟨signsS, ((m % b : Nat) : Int), sg (m % b), rfl, rfl, by k_subL, by k_subL, by rw [Int.toNat_natCast]; exact signs_get (by k_subL), ?_⟩
    top_strB <;> (try ((with_reducible first | show _ ≤ _ | show _ < _ | show (_ : Int) ≤ _ ∧ _ | show (_ : Nat) ≤ _ ∧ _ | show (_ : Int) < _ ∧ _ | show (_ : Nat) < _ ∧ _ | show (_ : Nat) = _ | show (_ : Int) = _); first | k_subL | (simp only [vN_length, List.length_append, List.length_cons, List.length_nil, List.length_replicate, List.length_set, List.length_take, List.length_drop, List.length_reverse] at * <;> k_subL)))
    · show 1 + (st (ds.map sg)).length ≤ 1000000
      rw [st_len]; k_subL
    exact ⟨2 * (m / b), by k_subL, m / b, m % b :: ds, by rw [show (⟨#[sg (m % b)]⟩ : Str) = st [sg (m % b)] from rfl, st_append]; rfl, .inr ⟨by simp, f1⟩, by simp⟩
  all_goals (rename_i h1 h2 h3 h4; rw [st_empty] at h2)
  all_goals (have he := fig_end hd (by k_subL) (fun e => h2 (by rw [e]; rfl)); subst he)
  · rw [minus_st, st_len, st_len]; show 1 + _ ≤ _; k_subL
  · rw [if_pos h3, figS_big (by k_subL), ← st_append, ← minus_st] at hK; exact hK
  · refine ⟨_, _, rfl, low_st (fin_sg hb hb2), by rw [st_len, List.length_map]; k_subL, ?_⟩
    top_strB <;> (try ((with_reducible first | show _ ≤ _ | show _ < _ | show (_ : Int) ≤ _ ∧ _ | show (_ : Nat) ≤ _ ∧ _ | show (_ : Int) < _ ∧ _ | show (_ : Nat) < _ ∧ _ | show (_ : Nat) = _ | show (_ : Int) = _); first | k_subL | (simp only [vN_length, List.length_append, List.length_cons, List.length_nil, List.length_replicate, List.length_set, List.length_take, List.length_drop, List.length_reverse] at * <;> k_subL)))
    · rw [minus_st, st_len, st_len, List.length_map]; show 1 + _ ≤ _; k_subL
    · rw [if_pos h3, figS_small (by k_subL), ← st_append, ← minus_st] at hK; exact hK
  · rw [empty_st, st_len, st_len]; show 0 + _ ≤ _; k_subL
  · rw [if_neg h3, figS_big (by k_subL), ← st_append, ← empty_st] at hK; exact hK
  · refine ⟨_, _, rfl, low_st (fin_sg hb hb2), by rw [st_len, List.length_map]; k_subL, ?_⟩
    top_strB <;> (try ((with_reducible first | show _ ≤ _ | show _ < _ | show (_ : Int) ≤ _ ∧ _ | show (_ : Nat) ≤ _ ∧ _ | show (_ : Int) < _ ∧ _ | show (_ : Nat) < _ ∧ _ | show (_ : Nat) = _ | show (_ : Int) = _); first | k_subL | (simp only [vN_length, List.length_append, List.length_cons, List.length_nil, List.length_replicate, List.length_set, List.length_take, List.length_drop, List.length_reverse] at * <;> k_subL)))
    · rw [empty_st, st_len, st_len, List.length_map]; show 0 + _ ≤ _; k_subL
    · rw [if_neg h3, figS_small (by k_subL), ← st_append, ← empty_st] at hK; exact hK
end
section
variable {prog : Program} {W : World} {p : Program} {loose : List Str} {mean : ExcName → Option Value} {mg mb : Str → Option Value}
def pre (f : List Nat) : Nat ⊕ List Nat → Nat ⊕ List Nat
  | .inl q => .inl q
  | .inr ds => .inr (f ++ ds)
theorem pre_nil (r : Nat ⊕ List Nat) : pre [] r = r := by cases r <;> rfl
theorem pre_pre (f g : List Nat) (r : Nat ⊕ List Nat) : pre f (pre g r) = pre (f ++ g) r := by cases r <;> simp [pre]
def tdg (b : Nat) : Nat → List Nat → Nat ⊕ List Nat
  | _, [] => .inr []
  | p, o :: r => if blank o then tdg b (p + 1) r else if dw o b < b then pre [dw o b] (tdg b (p + 1) r) else .inl p
def sgd (bl : Bool) (n : Nat) : Int := if bl then 0 - (n : Int) else (n : Int)
def told? (bl : Bool) (n b : Nat) : Nat ⊕ List Nat → Nat ⊕ Int
  | .inl q => .inl q
  | .inr ds => .inr (sgd bl (ds.foldl (fun n d => n * b + d) n))
def negAt (xs : List Nat) : Bool := decide (lead xs < xs.length) && decide (xs.getD (lead xs) 0 = 45)
def begin_ (xs : List Nat) : Nat := if negAt xs then lead xs + 1 else lead xs
def readAt (b k : Nat) (xs : List Nat) : Nat ⊕ Int :=
  if begin_ xs < xs.length ∧ dw (xs.getD (begin_ xs) 0) b < b then told? (negAt xs) 0 b (tdg b (k + begin_ xs) (xs.drop (begin_ xs))) else .inl (k + begin_ xs)
def rd (b : Nat) (xs : List Nat) : Nat ⊕ Int := readAt b 0 xs
theorem lw_dw {o b : Nat} (h : o < 128) (hb : b ≤ 62) : lw o b = if dw o b < b then some (dw o b) else none := by
  unfold lw
  by_cases h1 : 48 ≤ o ∧ o ≤ 57
  · rw [lwf_digit h1, dw, if_pos h1]; rfl
  · by_cases h2 : (65 ≤ o ∧ o ≤ 90) ∨ (97 ≤ o ∧ o ≤ 122)
    · by_cases h3 : b > 36 ∧ o ≠ upo o
      · rw [lwf_small h1 h2 h3]
        have e : 10 + (upo o - 65) + 26 = dw o b := by
          unfold dw; unfold upo at h3 ⊢
          rw [if_neg h1]; split at h3 <;> split <;> (try split) <;> (try split) <;> k_subL
        rw [e]; rfl
      · rw [lwf_plain h1 h2 h3]
        have e : 10 + (upo o - 65) + 0 = dw o b := by
          unfold dw; unfold upo at h3 ⊢
          rw [if_neg h1]; split at h3 <;> split <;> (try split) <;> (try split) <;> k_subL
        rw [e]; rfl
    · have e : dw o b = 99 := by unfold dw; rw [if_neg (by k_subL), if_neg (by k_subL), if_neg (by k_subL)]
      rw [lwf_no h1 h2, e, if_neg (by k_subL)]; rfl
theorem blank_iff {o : Nat} : blank o = true ↔ o = 32 ∨ (9 ≤ o ∧ o ≤ 13) := by simp [blank]
theorem dw_blank {o b : Nat} (hb : b ≤ 62) (h : dw o b < b) : blank o = false := by
  cases hbl : blank o with
  | false => rfl
  | true =>
    rw [blank_iff] at hbl
    have : dw o b = 99 := by unfold dw; rw [if_neg (by k_subL), if_neg (by k_subL), if_neg (by k_subL)]
    k_subL
theorem dw_minus {b : Nat} (hb : b ≤ 62) : ¬ dw 45 b < b := by
  have : dw 45 b = 99 := by unfold dw; rw [if_neg (by k_subL), if_neg (by k_subL), if_neg (by k_subL)]
  k_subL
def Key (o : Nat) : Prop := o < 128 ∧ (blank o = true → o = 32 ∨ o = 9)
def runs (b : Nat) (m : Mach) (xs : List Nat) : Mach := xs.foldl (fun m o => m.press o b) m
theorem runs_cons (b : Nat) (m : Mach) (o : Nat) (xs : List Nat) : runs b m (o :: xs) = runs b (m.press o b) xs := rfl
theorem runs_snoc (b : Nat) (m : Mach) (o : Nat) (xs : List Nat) : runs b m (xs ++ [o]) = (runs b m xs).press o b := by simp [runs]
theorem runs_wrong (b : Nat) : ∀ (xs : List Nat) (s : Stg) (bl : Bool) (n p k : Nat), (runs b ⟨s, bl, n, some p, k⟩ xs).shown = .inl p
  | [], _, _, _, _, _ => rfl
  | o :: xs, s, bl, n, p, k => runs_wrong b xs s bl n p (k + 1)
theorem runs_fig {b : Nat} (hb : b ≤ 62) : ∀ (xs : List Nat), (∀ o ∈ xs, Key o) → ∀ (bl : Bool) (n k : Nat), (runs b ⟨.figures, bl, n, none, k⟩ xs).shown = told? bl n b (tdg b k xs)
  | [], _, bl, n, k => by cases bl <;> rfl
  | o :: xs, h, bl, n, k => by
    have ho := h o (.head _)
    have ih := runs_fig hb xs (fun q hq => h q (.tail _ hq))
    rw [runs_cons]
    unfold Mach.press tdg
    rw [lw_dw ho.1 hb]
    by_cases h1 : dw o b < b
    · rw [if_pos h1, dw_blank hb h1, if_pos h1]
      show (runs b ⟨.figures, bl, n * b + dw o b, none, k + 1⟩ xs).shown = _
      rw [ih bl (n * b + dw o b) (k + 1)]
      cases tdg b (k + 1) xs <;> simp [told?, pre]
    · rw [if_neg h1, if_neg h1]
      show (runs b (if o = 32 ∨ o = 9 then ⟨.figures, bl, n, none, k + 1⟩ else ⟨.figures, bl, n, some k, k + 1⟩) xs).shown = _
      by_cases h2 : blank o = true
      · rw [if_pos (ho.2 h2), if_pos h2]; exact ih bl n (k + 1)
      · rw [if_neg (fun q => h2 (blank_iff.mpr (by k_subL))), if_neg h2, runs_wrong]; rfl
theorem runs_minus {b : Nat} (hb : b ≤ 62) (k : Nat) : ∀ (xs : List Nat), (∀ o ∈ xs, Key o) → (runs b ⟨.minus, true, 0, none, k⟩ xs).shown = if 0 < xs.length ∧ dw (xs.getD 0 0) b < b then told? true 0 b (tdg b k xs) else .inl k
  | [], _ => rfl
  | o :: xs, h => by
    have ho := h o (.head _)
    have hf := runs_fig hb xs (fun q hq => h q (.tail _ hq))
    rw [runs_cons]
    unfold Mach.press
    rw [lw_dw ho.1 hb]
    show _ = if 0 < xs.length + 1 ∧ dw o b < b then _ else _
    by_cases h1 : dw o b < b
    · rw [if_pos h1]
      show (runs b ⟨.figures, true, 0 * b + dw o b, none, k + 1⟩ xs).shown = _
      rw [if_pos ⟨by k_subL, h1⟩, hf, tdg, dw_blank hb h1, if_pos h1]
      cases tdg b (k + 1) xs <;> simp [told?, pre]
    · rw [if_neg h1]
      show (runs b ⟨.minus, true, 0, some k, k + 1⟩ xs).shown = _
      rw [if_neg (fun q => h1 q.2)]
      exact runs_wrong b xs .minus true 0 k (k + 1)
theorem lead_cons {o : Nat} {xs : List Nat} (h : blank o = true) : lead (o :: xs) = lead xs + 1 := by simp [lead, h]
theorem lead_stop {o : Nat} {xs : List Nat} (h : blank o = false) : lead (o :: xs) = 0 := by simp [lead, h]
theorem negAt_cons {o : Nat} {xs : List Nat} (h : blank o = true) : negAt (o :: xs) = negAt xs := by
  unfold negAt; rw [lead_cons h]; simp
theorem begin_cons {o : Nat} {xs : List Nat} (h : blank o = true) : begin_ (o :: xs) = begin_ xs + 1 := by
  unfold begin_; rw [negAt_cons h, lead_cons h]; split <;> rfl
theorem readAt_cons {o b k : Nat} {xs : List Nat} (h : blank o = true) : readAt b k (o :: xs) = readAt b (k + 1) xs := by
  unfold readAt
  rw [begin_cons h, negAt_cons h]
  simp only [List.length_cons, Nat.add_lt_add_iff_right, List.getD_cons_succ, List.drop_succ_cons]
  rw [show k + (begin_ xs + 1) = k + 1 + begin_ xs by k_subL]
theorem runs_ahead {b : Nat} (hb : b ≤ 62) : ∀ (xs : List Nat), (∀ o ∈ xs, Key o) → ∀ (k : Nat), (runs b ⟨.ahead, false, 0, none, k⟩ xs).shown = readAt b k xs
  | [], _, k => by simp [runs, readAt, begin_, negAt, lead, Mach.shown]
  | o :: xs, h, k => by
    have ho := h o (.head _)
    have hx : ∀ o ∈ xs, Key o := fun q hq => h q (.tail _ hq)
    have ih := runs_ahead hb xs hx (k + 1)
    rw [runs_cons]
    unfold Mach.press
    rw [lw_dw ho.1 hb]
    by_cases h1 : dw o b < b
    · have hbl := dw_blank hb h1
      have h45 : o ≠ 45 := fun e => dw_minus hb (e ▸ h1)
      rw [if_pos h1]
      show (runs b ⟨.figures, false, 0 * b + dw o b, none, k + 1⟩ xs).shown = _
      have hn : negAt (o :: xs) = false := by simp [negAt, lead_stop hbl, h45]
      have hg : begin_ (o :: xs) = 0 := by simp [begin_, hn, lead_stop hbl]
      rw [runs_fig hb xs hx, readAt, hg, hn]
      show _ = if 0 < xs.length + 1 ∧ dw o b < b then told? false 0 b (tdg b (k + 0) (o :: xs)) else _
      rw [if_pos ⟨by k_subL, h1⟩, tdg, hbl, if_pos h1]
      cases tdg b (k + 1) xs <;> simp [told?, pre]
    · rw [if_neg h1]
      show (runs b (if o = 32 ∨ o = 9 then ⟨.ahead, false, 0, none, k + 1⟩ else if o = 45 then ⟨.minus, true, 0, none, k + 1⟩ else ⟨.ahead, false, 0, some k, k + 1⟩) xs).shown = _
      by_cases h2 : blank o = true
      · rw [if_pos (ho.2 h2), ih, readAt_cons h2]
      · have hbl : blank o = false := by simpa using h2
        rw [if_neg (fun q => h2 (blank_iff.mpr (by k_subL)))]
        by_cases h3 : o = 45
        · have hn : negAt (o :: xs) = true := by subst h3; simp [negAt, lead_stop hbl]
          have hg : begin_ (o :: xs) = 1 := by simp [begin_, hn, lead_stop hbl]
          rw [if_pos h3, runs_minus hb _ _ hx, readAt, hg, hn]
          simp
        · have hn : negAt (o :: xs) = false := by simp [negAt, lead_stop hbl, h3]
          have hg : begin_ (o :: xs) = 0 := by simp [begin_, hn, lead_stop hbl]
          rw [if_neg h3, runs_wrong, readAt, hg, if_neg (fun q => h1 (by simpa using q.2))]; rfl
def mach0 : Mach := ⟨.ahead, false, 0, none, 0⟩
theorem runs_rd {b : Nat} (hb : b ≤ 62) {xs : List Nat} (h : ∀ o ∈ xs, Key o) : (runs b mach0 xs).shown = rd b xs := runs_ahead hb xs h 0
theorem press_lt {b : Nat} (hb : 2 ≤ b) {m : Mach} {o : Nat} (h : m.number < b ^ m.many) : (m.press o b).number < b ^ (m.press o b).many := by
  have up : m.number < b ^ (m.many + 1) := Nat.lt_of_lt_of_le h (Nat.pow_le_pow_right (by k_subL) (by k_subL))
  obtain ⟨s, bl, n, wr, k⟩ := m
  unfold Mach.press
  have hlw : ∀ j, lw o b = some j → j < b := fun j hj => by
    unfold lw at hj
    cases hf : lwf o b with
    | none => rw [hf] at hj; cases hj
    | some i =>
      rw [hf] at hj
      simp only [Option.bind_some] at hj
      split at hj
      · cases hj; assumption
      · cases hj
  cases wr with
  | some p => exact up
  | none =>
    cases hl : lw o b with
    | some j =>
      have := hlw j hl
      show n * b + j < b ^ (k + 1)
      have h1 : n + 1 ≤ b ^ k := h
      have h2 := Nat.mul_le_mul_right b h1
      rw [Nat.pow_succ, Nat.add_mul] at *; k_subL
    | none =>
      cases s <;> dsimp only <;> (repeat' split) <;> exact up
theorem press_many (m : Mach) (o b : Nat) : (m.press o b).many = m.many + 1 := by
  obtain ⟨s, bl, n, wr, k⟩ := m
  unfold Mach.press
  cases wr with
  | some p => rfl
  | none =>
    cases lw o b with
    | some j => rfl
    | none => cases s <;> dsimp only <;> (repeat' split) <;> rfl
theorem runs_lt {b : Nat} (hb : 2 ≤ b) : ∀ (xs : List Nat) {m : Mach}, m.number < b ^ m.many → (runs b m xs).number < b ^ (m.many + xs.length)
  | [], _, h => h
  | o :: xs, m, h => by
    have := runs_lt hb xs (press_lt (o := o) hb h)
    rw [press_many] at this
    rw [runs_cons, List.length_cons, show m.many + (xs.length + 1) = m.many + 1 + xs.length by k_subL]; exact this
theorem runs0_lt {b : Nat} (hb : 2 ≤ b) (xs : List Nat) : (runs b mach0 xs).number < b ^ xs.length := by
  have := runs_lt hb xs (m := mach0) (by show 0 < b ^ 0; simp)
  rwa [show mach0.many = 0 from rfl, Nat.zero_add] at this
theorem shown_due {m : Mach} {n : Int} (h : m.shown = .inr n) : n.natAbs = m.number := by
  obtain ⟨s, bl, k, wr, j⟩ := m
  unfold Mach.shown at h
  cases wr <;> cases s <;> simp [Mach.due] at h
  subst h
  cases bl <;> simp
def toldL (b : Nat) (n : Int) : List Nat := (if n < 0 then [45] else []) ++ figS b n.natAbs
def fg (b d : Nat) : Nat := if b > 36 then sg d else lo (sg d)
theorem figS_fg (b n : Nat) : figS b n = (fin b n).map (fg b) := rfl
theorem fg_facts {b d : Nat} (h : d < b) (hb : b ≤ 62) : dw (fg b d) b = d ∧ blank (fg b d) = false ∧ fg b d ≠ 45 ∧ fg b d < 128 := by
  unfold fg
  by_cases h1 : b > 36
  · rw [if_pos h1]
    have e : ∀ d : Fin 62, dw (sg d.val) 62 = d.val ∧ blank (sg d.val) = false ∧ sg d.val ≠ 45 ∧ sg d.val < 128 := by decide +kernel
    have := e ⟨d, by k_subL⟩
    have e2 : dw (sg d) b = dw (sg d) 62 := by unfold dw; simp only [h1, if_true]; rfl
    rw [e2]; exact this
  · rw [if_neg h1]
    have e : ∀ d : Fin 36, dw (lo (sg d.val)) 36 = d.val ∧ blank (lo (sg d.val)) = false ∧ lo (sg d.val) ≠ 45 ∧ lo (sg d.val) < 128 := by decide +kernel
    have := e ⟨d, by k_subL⟩
    have e2 : dw (lo (sg d)) b = dw (lo (sg d)) 36 := by unfold dw; simp only [h1, if_false]; rfl
    rw [e2]; exact this
theorem tdg_fg {b : Nat} (hb : b ≤ 62) : ∀ (ds : List Nat) (p : Nat), Rng b ds → tdg b p (ds.map (fg b)) = .inr ds
  | [], _, _ => rfl
  | d :: ds, p, h => by
    obtain ⟨f1, f2, f3, f4⟩ := fg_facts (h d (.head _)) hb
    rw [List.map_cons, tdg, f2, f1, if_pos (h d (.head _)), tdg_fg hb ds (p + 1) (fun x hx => h x (.tail _ hx))]
    rfl
theorem fin_ne {b n : Nat} (hb : 2 ≤ b) : 0 < (fin b n).length := by
  unfold fin; split
  · simp
  · rw [List.length_reverse]; exact limbs_length_pos hb (by k_subL)
theorem hv_fin {b n : Nat} (hb : 2 ≤ b) : hv b (fin b n) = n := by
  unfold fin; split
  · subst_vars; simp [hv]
  · rw [hv_val, List.reverse_reverse, val_limbs hb]
theorem rd_told {b : Nat} {n : Int} (hb : 2 ≤ b) (hb2 : b ≤ 62) : rd b (toldL b n) = .inr n := by
  have hr := fin_rng (b := b) (n := n.natAbs) hb
  have h0 := fin_ne (b := b) (n := n.natAbs) hb
  have hv0 : (fin b n.natAbs).foldl (fun n d => n * b + d) 0 = n.natAbs := hv_fin hb
  have ht := fun p => tdg_fg hb2 (fin b n.natAbs) p hr
  unfold rd toldL
  rw [figS_fg]
  generalize fin b n.natAbs = ds at *
  cases ds with
  | nil => simp at h0
  | cons d ds =>
    obtain ⟨f1, f2, f3, f4⟩ := fg_facts (hr d (.head _)) hb2
    have hd := hr d (.head _)
    by_cases hn : n < 0
    · have hl : lead (45 :: (fg b d :: ds.map (fg b))) = 0 := lead_stop (by decide)
      have hg : negAt (45 :: (fg b d :: ds.map (fg b))) = true := by simp [negAt, hl]
      have hbg : begin_ (45 :: (fg b d :: ds.map (fg b))) = 1 := by simp [begin_, hg, hl]
      rw [if_pos hn]
      show readAt b 0 (45 :: (fg b d :: ds.map (fg b))) = _
      rw [readAt, hg, hbg, if_pos ⟨by simp, by simpa [f1] using hd⟩]
      show told? true 0 b (tdg b (0 + 1) ((d :: ds).map (fg b))) = _
      rw [ht, told?, hv0]
      simp only [sgd, if_true]
      congr 1; k_subL
    · have hl : lead (fg b d :: ds.map (fg b)) = 0 := lead_stop f2
      have hg : negAt (fg b d :: ds.map (fg b)) = false := by simp [negAt, hl, f3]
      have hbg : begin_ (fg b d :: ds.map (fg b)) = 0 := by simp [begin_, hg, hl]
      rw [if_neg hn]
      show readAt b 0 (fg b d :: ds.map (fg b)) = _
      rw [readAt, hg, hbg, if_pos ⟨by simp, by simpa [f1] using hd⟩]
      show told? false 0 b (tdg b (0 + 0) ((d :: ds).map (fg b))) = _
      rw [ht, told?, hv0]
      simp only [sgd]
      congr 1; simp; k_subL
theorem toldL_lt {b : Nat} {n : Int} (hb : 2 ≤ b) (hb2 : b ≤ 62) : ∀ o ∈ toldL b n, o < 128 := fun o ho => by
  unfold toldL at ho
  rw [figS_fg] at ho
  rcases List.mem_append.mp ho with h | h
  · split at h
    · simp at h; k_subL
    · simp at h
  · obtain ⟨d, hd, rfl⟩ := List.mem_map.mp h
    exact (fg_facts (fin_rng hb d hd) hb2).2.2.2
theorem toldL_length {b k : Nat} {n : Int} (hb : 2 ≤ b) (hk : 1 ≤ k) (hn : n.natAbs < b ^ k) : (toldL b n).length ≤ k + 1 := by
  unfold toldL
  rw [figS_fg, List.length_append, List.length_map]
  have h1 : (fin b n.natAbs).length ≤ k := by
    unfold fin; split
    · exact hk
    · rw [List.length_reverse]; exact limbs_length_le hb hn
  split <;> simp <;> k_subL
end
section
variable {prog : Program} {W : World} {p : Program} {loose : List Str} {mean : ExcName → Option Value} {mg mb : Str → Option Value}
theorem t_text_digits {xs : List Nat} {at_ b : Nat} (hr : Rng 256 xs) (hl : xs.length ≤ 1000) (hat : at_ ≤ xs.length) (hb2 : b ≤ 62) {K : V → Prop} {KE : Int → Prop} (hK : ∀ ds, tdg b at_ (xs.drop at_) = .inr ds → K (.list (vN ds))) (hKE : ∀ q : Nat, tdg b at_ (xs.drop at_) = .inl q → KE (q : Int)) :
    CallsE (GG PW W p loose mean mg mb) 2 (.ref 259) [.bytes (bt xs), .int (at_ : Int), .int (b : Int)] K KE := by
  refine callsE_of_body d_text_digits rfl fun D hR => ?_
  top_reprB
  top_strB <;> (try ((with_reducible first | show _ ≤ _ | show _ < _ | show (_ : Int) ≤ _ ∧ _ | show (_ : Nat) ≤ _ ∧ _ | show (_ : Int) < _ ∧ _ | show (_ : Nat) < _ ∧ _ | show (_ : Nat) = _ | show (_ : Int) = _); first | k_subL | (simp only [vN_length, List.length_append, List.length_cons, List.length_nil, List.length_replicate, List.length_set, List.length_take, List.length_drop, List.length_reverse] at * <;> k_subL)))
  rename_i A
  refine wX_forE hR (wIt_range2 ?_ (by with_unfolding_all rfl) (by with_unfolding_all rfl)) (fun _ => by with_unfolding_all rfl)
  top_strB <;> (try ((with_reducible first | show _ ≤ _ | show _ < _ | show (_ : Int) ≤ _ ∧ _ | show (_ : Nat) ≤ _ ∧ _ | show (_ : Int) < _ ∧ _ | show (_ : Nat) < _ ∧ _ | show (_ : Nat) = _ | show (_ : Int) = _); first | k_subL | (simp only [vN_length, List.length_append, List.length_cons, List.length_nil, List.length_replicate, List.length_set, List.length_take, List.length_drop, List.length_reverse] at * <;> k_subL)))
  · rw [bt_size]; k_subL
  · rw [bt_size]; k_subL
  refine ⟨fun k σ => ∃ (f : List Nat) (y z : V), σ = [.bytes (bt xs), .int (at_ : Int), .int (b : Int), .own A (vN f), y, z] ∧ f.length ≤ k ∧ tdg b at_ (xs.drop at_) = pre f (tdg b (at_ + k) (xs.drop (at_ + k))), ⟨[], _, _, rfl, by simp, by rw [pre_nil]; rfl⟩, ?_, ?_⟩
  · rintro E' hR' k x σ hk0 ⟨f, y, z, rfl, hf, he⟩
    obtain ⟨hk, rfl⟩ := upInts_get hk0
    rw [bt_size] at hk
    clear hk0
    have hj : at_ + k < xs.length := by k_subL
    have ho := hr.getD (by k_subL : 0 < 256) (at_ + k)
    rw [List.drop_eq_getElem_cons hj, tdg, ← getD_eq hj] at he
    rw [← Int.natCast_add]
    generalize hoo : xs.getD (at_ + k) 0 = o at he ho
    generalize hjk : at_ + k = j at *
    top_strB <;> (try ((with_reducible first | show _ ≤ _ | show _ < _ | show (_ : Int) ≤ _ ∧ _ | show (_ : Nat) ≤ _ ∧ _ | show (_ : Int) < _ ∧ _ | show (_ : Nat) < _ ∧ _ | show (_ : Nat) = _ | show (_ : Int) = _); first | k_subL | (simp only [vN_length, List.length_append, List.length_cons, List.length_nil, List.length_replicate, List.length_set, List.length_take, List.length_drop, List.length_reverse] at * <;> k_subL)))
    refine i_bt hr ⟨by k_subL, by k_subL, by k_subL⟩ ?_
    rw [Int.toNat_natCast, hoo]
    top_strB <;> (try ((with_reducible first | show _ ≤ _ | show _ < _ | show (_ : Int) ≤ _ ∧ _ | show (_ : Nat) ≤ _ ∧ _ | show (_ : Int) < _ ∧ _ | show (_ : Nat) < _ ∧ _ | show (_ : Nat) = _ | show (_ : Int) = _); first | k_subL | (simp only [vN_length, List.length_append, List.length_cons, List.length_nil, List.length_replicate, List.length_set, List.length_take, List.length_drop, List.length_reverse] at * <;> k_subL)))
    · rename_i hbl
      rw [if_pos hbl] at he
      exact ⟨f, _, z, rfl, by k_subL, by rw [he, ← hjk]; rfl⟩
    · rename_i hbl
      rw [if_neg (by rw [hbl]; decide)] at he
      refine i_bt hr ⟨by k_subL, by k_subL, by k_subL⟩ ?_
      rw [Int.toNat_natCast, hoo]
      top_strB <;> (try ((with_reducible first | show _ ≤ _ | show _ < _ | show (_ : Int) ≤ _ ∧ _ | show (_ : Nat) ≤ _ ∧ _ | show (_ : Int) < _ ∧ _ | show (_ : Nat) < _ ∧ _ | show (_ : Nat) = _ | show (_ : Int) = _); first | k_subL | (simp only [vN_length, List.length_append, List.length_cons, List.length_nil, List.length_replicate, List.length_set, List.length_take, List.length_drop, List.length_reverse] at * <;> k_subL)))
      refine t_digit_worth ?_
      top_strB <;> (try ((with_reducible first | show _ ≤ _ | show _ < _ | show (_ : Int) ≤ _ ∧ _ | show (_ : Nat) ≤ _ ∧ _ | show (_ : Int) < _ ∧ _ | show (_ : Nat) < _ ∧ _ | show (_ : Nat) = _ | show (_ : Int) = _); first | k_subL | (simp only [vN_length, List.length_append, List.length_cons, List.length_nil, List.length_replicate, List.length_set, List.length_take, List.length_drop, List.length_reverse] at * <;> k_subL)))
      · rename_i hw
        rw [if_neg (by k_subL)] at he
        refine wX_raise hR' (by k_subL) (by kernel_rfl) ?_ (by with_unfolding_all rfl)
        top_strB <;> (try ((with_reducible first | show _ ≤ _ | show _ < _ | show (_ : Int) ≤ _ ∧ _ | show (_ : Nat) ≤ _ ∧ _ | show (_ : Int) < _ ∧ _ | show (_ : Nat) < _ ∧ _ | show (_ : Nat) = _ | show (_ : Int) = _); first | k_subL | (simp only [vN_length, List.length_append, List.length_cons, List.length_nil, List.length_replicate, List.length_set, List.length_take, List.length_drop, List.length_reverse] at * <;> k_subL)))
        refine ⟨_, rfl, hKE j ?_⟩
        rw [he]; rfl
      · rename_i hw
        rw [if_pos (by k_subL)] at he
        refine ⟨f ++ [dw o b], _, _, by rw [vN_snoc], by simp; k_subL, ?_⟩
        rw [he, pre_pre, ← hjk]; rfl
  · rintro E' σ ⟨f, y, z, rfl, hf, he⟩
    rw [upInts_length, bt_size] at he
    rw [show at_ + ((xs.length : Int) - (at_ : Int)).toNat = xs.length by k_subL, List.drop_length] at he
    top_strB <;> (try ((with_reducible first | show _ ≤ _ | show _ < _ | show (_ : Int) ≤ _ ∧ _ | show (_ : Nat) ≤ _ ∧ _ | show (_ : Int) < _ ∧ _ | show (_ : Nat) < _ ∧ _ | show (_ : Nat) = _ | show (_ : Int) = _); first | k_subL | (simp only [vN_length, List.length_append, List.length_cons, List.length_nil, List.length_replicate, List.length_set, List.length_take, List.length_drop, List.length_reverse] at * <;> k_subL)))
    refine hK f ?_
    rw [he, tdg, pre, List.append_nil]
end
section
variable {prog : Program} {W : World} {p : Program} {loose : List Str} {mean : ExcName → Option Value} {mg mb : Str → Option Value}
local macro_rules | `(tactic| top_raise0) => `(tactic| ((show wF _ _ _ (Expr.Call (Expr.Name (Str.ofString "text_digits") _) _ _ _) _ _); refine wF_callE (by assumption) ?_ ?_ ?_))
theorem rd_short {b : Nat} {xs : List Nat} (h : ¬ (begin_ xs < xs.length ∧ dw (xs.getD (begin_ xs) 0) b < b)) : rd b xs = .inl (begin_ xs) := by
  unfold rd readAt; rw [if_neg h, Nat.zero_add]
theorem rd_ok {b : Nat} {xs : List Nat} (h : begin_ xs < xs.length ∧ dw (xs.getD (begin_ xs) 0) b < b) : rd b xs = told? (negAt xs) 0 b (tdg b (begin_ xs) (xs.drop (begin_ xs))) := by
  unfold rd readAt; rw [if_pos h, Nat.zero_add]
theorem neg_yes {xs : List Nat} (h : lead xs < xs.length) (h2 : xs.getD (lead xs) 0 = 45) : negAt xs = true ∧ begin_ xs = lead xs + 1 := by
  have : negAt xs = true := by simp only [negAt, h, h2, decide_true, Bool.and_true]
  exact ⟨this, by rw [begin_, this]; rfl⟩
theorem neg_no {xs : List Nat} (h : ¬ (lead xs < xs.length ∧ xs.getD (lead xs) 0 = 45)) : negAt xs = false ∧ begin_ xs = lead xs := by
  have : negAt xs = false := by
    unfold negAt
    by_cases h1 : lead xs < xs.length
    · rw [decide_eq_false (p := xs.getD (lead xs) 0 = 45) (fun q => h ⟨h1, q⟩), Bool.and_false]
    · rw [decide_eq_false h1, Bool.false_and]
  exact ⟨this, by rw [begin_, this]; rfl⟩
theorem tdg_rng {b : Nat} : ∀ {xs : List Nat} {p : Nat} {ds : List Nat}, tdg b p xs = .inr ds → Rng b ds ∧ ds.length ≤ xs.length
  | [], p, ds, h => by
    rw [tdg] at h; cases h; exact ⟨Rng.nil, Nat.le_refl _⟩
  | o :: xs, p, ds, h => by
    rw [tdg] at h
    split at h
    · obtain ⟨a, b⟩ := tdg_rng h; exact ⟨a, Nat.le_succ_of_le b⟩
    · split at h
      · rename_i ho
        cases h1 : tdg b (p + 1) xs with
        | inl q => rw [h1] at h; cases h
        | inr es =>
          rw [h1] at h
          cases h
          obtain ⟨a, c⟩ := tdg_rng h1
          exact ⟨fun x hx => (List.mem_cons.mp hx).elim (fun e => e ▸ ho) (a x), Nat.succ_le_succ c⟩
      · cases h
theorem sgn_pos (w n : Nat) : sgn w (sgd false n) = .tuple [.bool false, L (2 ^ w) n] := by
  have e : sgd false n = (n : Int) := rfl
  rw [e, sgn, decide_eq_false (by k_subL)]; rfl
theorem sgn_neg (w n : Nat) : sgn w (sgd true n) = .tuple [.bool (decide (0 < n)), L (2 ^ w) n] := by
  have e : sgd true n = 0 - (n : Int) := rfl
  rw [e, sgn, show (0 - (n : Int)).natAbs = n by k_subL]
  congr 3
  exact decide_eq_decide.mpr (by k_subL)
theorem limbs_pos_iff {B n : Nat} (hB : 2 ≤ B) : decide ((0 : Int) < ((limbs B n).length : Int)) = decide (0 < n) := decide_eq_decide.mpr ⟨fun h => by
  rcases Nat.eq_zero_or_pos n with rfl | h0
  · rw [limbs_zero] at h; simp at h
  · exact h0, fun h => by have := limbs_length_pos hB h; k_subL⟩
theorem t_from_text {xs : List Nat} {b w least : Nat} (hw : Wd w) (hr : Rng 256 xs) (hl : xs.length ≤ 9) (hb : 2 ≤ b) (hb2 : b ≤ 62) {K : V → Prop} {KE : Int → Prop} (hK : ∀ n, rd b xs = .inr n → K (sgn w n)) (hKE : ∀ q : Nat, rd b xs = .inl q → KE (q : Int)) :
    CallsE (GG PW W p loose mean mg mb) 30 (.ref 266) [.bytes (bt xs), .int (b : Int), .int (w : Int), .int (least : Int), FM] K KE := by
  refine callsE_of_body d_from_text rfl fun D hR => ?_
  have hlead := lead_le xs
  dsimp only [List.cons_append, List.nil_append] at hR
  top_reprB
  top_strB <;> (try ((with_reducible first | show _ ≤ _ | show _ < _ | show (_ : Int) ≤ _ ∧ _ | show (_ : Nat) ≤ _ ∧ _ | show (_ : Int) < _ ∧ _ | show (_ : Nat) < _ ∧ _ | show (_ : Nat) = _ | show (_ : Int) = _); first | k_subL | (simp only [vN_length, List.length_append, List.length_cons, List.length_nil, List.length_replicate, List.length_set, List.length_take, List.length_drop, List.length_reverse] at * <;> k_subL)))
  · k_subL
  · refine (t_blanks_end hr (by k_subL) ?_).le (by k_subL)
    top_strB <;> (try ((with_reducible first | show _ ≤ _ | show _ < _ | show (_ : Int) ≤ _ ∧ _ | show (_ : Nat) ≤ _ ∧ _ | show (_ : Int) < _ ∧ _ | show (_ : Nat) < _ ∧ _ | show (_ : Nat) = _ | show (_ : Int) = _); first | k_subL | (simp only [vN_length, List.length_append, List.length_cons, List.length_nil, List.length_replicate, List.length_set, List.length_take, List.length_drop, List.length_reverse] at * <;> k_subL)))
    · rw [bt_size]; k_subL
    · rename_i hlt
      rw [bt_size] at hlt
      have ho := hr.getD (by k_subL : 0 < 256) (lead xs)
      refine i_bt hr ⟨by k_subL, by k_subL, by k_subL⟩ ?_
      rw [Int.toNat_natCast]
      top_strB <;> (try ((with_reducible first | show _ ≤ _ | show _ < _ | show (_ : Int) ≤ _ ∧ _ | show (_ : Nat) ≤ _ ∧ _ | show (_ : Int) < _ ∧ _ | show (_ : Nat) < _ ∧ _ | show (_ : Nat) = _ | show (_ : Int) = _); first | k_subL | (simp only [vN_length, List.length_append, List.length_cons, List.length_nil, List.length_replicate, List.length_set, List.length_take, List.length_drop, List.length_reverse] at * <;> k_subL)))
      · rw [bt_size]; k_subL
      · rename_i h45 hge
        rw [bt_size] at hge
        obtain ⟨n1, n2⟩ := neg_yes (xs := xs) (by k_subL) (by k_subL)
        refine wX_raise hR (by k_subL) (by kernel_rfl) ?_ (by with_unfolding_all rfl)
        top_strB <;> (try ((with_reducible first | show _ ≤ _ | show _ < _ | show (_ : Int) ≤ _ ∧ _ | show (_ : Nat) ≤ _ ∧ _ | show (_ : Int) < _ ∧ _ | show (_ : Nat) < _ ∧ _ | show (_ : Nat) = _ | show (_ : Int) = _); first | k_subL | (simp only [vN_length, List.length_append, List.length_cons, List.length_nil, List.length_replicate, List.length_set, List.length_take, List.length_drop, List.length_reverse] at * <;> k_subL)))
        exact ⟨_, rfl, hKE (lead xs + 1) (by rw [rd_short (fun q => by k_subL), n2])⟩
      · rename_i h45 hge
        rw [bt_size] at hge
        obtain ⟨n1, n2⟩ := neg_yes (xs := xs) (by k_subL) (by k_subL)
        rw [show ((lead xs : Nat) : Int) + 1 = ((lead xs + 1 : Nat) : Int) from rfl]
        have hjl : lead xs + 1 < xs.length := by k_subL
        generalize lead xs + 1 = j at *
        have hoj := hr.getD (by k_subL : 0 < 256) j
        refine i_bt hr ⟨by k_subL, by k_subL, by k_subL⟩ ?_
        rw [Int.toNat_natCast]
        top_strB <;> (try ((with_reducible first | show _ ≤ _ | show _ < _ | show (_ : Int) ≤ _ ∧ _ | show (_ : Nat) ≤ _ ∧ _ | show (_ : Int) < _ ∧ _ | show (_ : Nat) < _ ∧ _ | show (_ : Nat) = _ | show (_ : Int) = _); first | k_subL | (simp only [vN_length, List.length_append, List.length_cons, List.length_nil, List.length_replicate, List.length_set, List.length_take, List.length_drop, List.length_reverse] at * <;> k_subL)))
        refine (t_digit_worth ?_).le (by k_subL)
        top_strB <;> (try ((with_reducible first | show _ ≤ _ | show _ < _ | show (_ : Int) ≤ _ ∧ _ | show (_ : Nat) ≤ _ ∧ _ | show (_ : Int) < _ ∧ _ | show (_ : Nat) < _ ∧ _ | show (_ : Nat) = _ | show (_ : Int) = _); first | k_subL | (simp only [vN_length, List.length_append, List.length_cons, List.length_nil, List.length_replicate, List.length_set, List.length_take, List.length_drop, List.length_reverse] at * <;> k_subL)))
        · k_subL
        · k_subL
        · k_subL
        · refine wX_raise hR (by k_subL) (by kernel_rfl) ?_ (by with_unfolding_all rfl)
          top_strB <;> (try ((with_reducible first | show _ ≤ _ | show _ < _ | show (_ : Int) ≤ _ ∧ _ | show (_ : Nat) ≤ _ ∧ _ | show (_ : Int) < _ ∧ _ | show (_ : Nat) < _ ∧ _ | show (_ : Nat) = _ | show (_ : Int) = _); first | k_subL | (simp only [vN_length, List.length_append, List.length_cons, List.length_nil, List.length_replicate, List.length_set, List.length_take, List.length_drop, List.length_reverse] at * <;> k_subL)))
          exact ⟨_, rfl, hKE j (by rw [rd_short (fun q => by rw [n2] at q; k_subL), n2])⟩
        · k_subL
        · rename_i hdw hb0
          have hrd := rd_ok (b := b) (xs := xs) ⟨by k_subL, by rw [n2]; k_subL⟩
          rw [n1, n2] at hrd
          refine (t_text_digits hr (by k_subL) (by k_subL) hb2 (fun ds hds => ?_) fun q hq => hKE q (by rw [hrd, hq]; rfl)).le (by k_subL)
          obtain ⟨hdr, hdl⟩ := tdg_rng hds
          rw [List.length_drop] at hdl
          rw [hds] at hrd
          have hKn := hK _ hrd
          have h60 := hv_60 (b := b) (by k_subL) hdr (by k_subL)
          have hl62 := limbs_62 hw (n := hv b ds) (by k_subL)
          top_strB <;> (try ((with_reducible first | show _ ≤ _ | show _ < _ | show (_ : Int) ≤ _ ∧ _ | show (_ : Nat) ≤ _ ∧ _ | show (_ : Int) < _ ∧ _ | show (_ : Nat) < _ ∧ _ | show (_ : Nat) = _ | show (_ : Int) = _); first | k_subL | (simp only [vN_length, List.length_append, List.length_cons, List.length_nil, List.length_replicate, List.length_set, List.length_take, List.length_drop, List.length_reverse] at * <;> k_subL)))
          refine (t_from_digits hw hb (by k_subL) hdr (by k_subL) ?_).le (by k_subL)
          top_strB <;> (try ((with_reducible first | show _ ≤ _ | show _ < _ | show (_ : Int) ≤ _ ∧ _ | show (_ : Nat) ≤ _ ∧ _ | show (_ : Int) < _ ∧ _ | show (_ : Nat) < _ ∧ _ | show (_ : Nat) = _ | show (_ : Int) = _); first | k_subL | (simp only [vN_length, List.length_append, List.length_cons, List.length_nil, List.length_replicate, List.length_set, List.length_take, List.length_drop, List.length_reverse] at * <;> k_subL)))
          · unfold L
            refine b_len_list (by ((with_reducible first | show _ ≤ _ | show _ < _ | show (_ : Int) ≤ _ ∧ _ | show (_ : Nat) ≤ _ ∧ _ | show (_ : Int) < _ ∧ _ | show (_ : Nat) < _ ∧ _ | show (_ : Nat) = _ | show (_ : Int) = _); first | k_subL | (simp only [vN_length, List.length_append, List.length_cons, List.length_nil, List.length_replicate, List.length_set, List.length_take, List.length_drop, List.length_reverse] at * <;> k_subL))) ?_
            top_strB <;> (try ((with_reducible first | show _ ≤ _ | show _ < _ | show (_ : Int) ≤ _ ∧ _ | show (_ : Nat) ≤ _ ∧ _ | show (_ : Int) < _ ∧ _ | show (_ : Nat) < _ ∧ _ | show (_ : Nat) = _ | show (_ : Int) = _); first | k_subL | (simp only [vN_length, List.length_append, List.length_cons, List.length_nil, List.length_replicate, List.length_set, List.length_take, List.length_drop, List.length_reverse] at * <;> k_subL)))
            rw [sgn_neg] at hKn
            rw [vN_length] 
            rw [← limbs_pos_iff hw.two] at hKn
            exact hKn
          · rename_i h; exact absurd h45 h
      · rw [bt_size]; k_subL
      · rename_i h45 hge
        rw [bt_size] at hge; k_subL
      · rename_i h45 hge
        rw [bt_size] at hge
        obtain ⟨n1, n2⟩ := neg_no (xs := xs) (fun q => by k_subL)
        generalize lead xs = j at *
        have hoj := hr.getD (by k_subL : 0 < 256) j
        refine i_bt hr ⟨by k_subL, by k_subL, by k_subL⟩ ?_
        rw [Int.toNat_natCast]
        top_strB <;> (try ((with_reducible first | show _ ≤ _ | show _ < _ | show (_ : Int) ≤ _ ∧ _ | show (_ : Nat) ≤ _ ∧ _ | show (_ : Int) < _ ∧ _ | show (_ : Nat) < _ ∧ _ | show (_ : Nat) = _ | show (_ : Int) = _); first | k_subL | (simp only [vN_length, List.length_append, List.length_cons, List.length_nil, List.length_replicate, List.length_set, List.length_take, List.length_drop, List.length_reverse] at * <;> k_subL)))
        refine (t_digit_worth ?_).le (by k_subL)
        top_strB <;> (try ((with_reducible first | show _ ≤ _ | show _ < _ | show (_ : Int) ≤ _ ∧ _ | show (_ : Nat) ≤ _ ∧ _ | show (_ : Int) < _ ∧ _ | show (_ : Nat) < _ ∧ _ | show (_ : Nat) = _ | show (_ : Int) = _); first | k_subL | (simp only [vN_length, List.length_append, List.length_cons, List.length_nil, List.length_replicate, List.length_set, List.length_take, List.length_drop, List.length_reverse] at * <;> k_subL)))
        · k_subL
        · k_subL
        · k_subL
        · refine wX_raise hR (by k_subL) (by kernel_rfl) ?_ (by with_unfolding_all rfl)
          top_strB <;> (try ((with_reducible first | show _ ≤ _ | show _ < _ | show (_ : Int) ≤ _ ∧ _ | show (_ : Nat) ≤ _ ∧ _ | show (_ : Int) < _ ∧ _ | show (_ : Nat) < _ ∧ _ | show (_ : Nat) = _ | show (_ : Int) = _); first | k_subL | (simp only [vN_length, List.length_append, List.length_cons, List.length_nil, List.length_replicate, List.length_set, List.length_take, List.length_drop, List.length_reverse] at * <;> k_subL)))
          exact ⟨_, rfl, hKE j (by rw [rd_short (fun q => by rw [n2] at q; k_subL), n2])⟩
        · k_subL
        · rename_i hdw hb0
          have hrd := rd_ok (b := b) (xs := xs) ⟨by k_subL, by rw [n2]; k_subL⟩
          rw [n1, n2] at hrd
          refine (t_text_digits hr (by k_subL) (by k_subL) hb2 (fun ds hds => ?_) fun q hq => hKE q (by rw [hrd, hq]; rfl)).le (by k_subL)
          obtain ⟨hdr, hdl⟩ := tdg_rng hds
          rw [List.length_drop] at hdl
          rw [hds] at hrd
          have hKn := hK _ hrd
          have h60 := hv_60 (b := b) (by k_subL) hdr (by k_subL)
          have hl62 := limbs_62 hw (n := hv b ds) (by k_subL)
          top_strB <;> (try ((with_reducible first | show _ ≤ _ | show _ < _ | show (_ : Int) ≤ _ ∧ _ | show (_ : Nat) ≤ _ ∧ _ | show (_ : Int) < _ ∧ _ | show (_ : Nat) < _ ∧ _ | show (_ : Nat) = _ | show (_ : Int) = _); first | k_subL | (simp only [vN_length, List.length_append, List.length_cons, List.length_nil, List.length_replicate, List.length_set, List.length_take, List.length_drop, List.length_reverse] at * <;> k_subL)))
          refine (t_from_digits hw hb (by k_subL) hdr (by k_subL) ?_).le (by k_subL)
          top_strB <;> (try ((with_reducible first | show _ ≤ _ | show _ < _ | show (_ : Int) ≤ _ ∧ _ | show (_ : Nat) ≤ _ ∧ _ | show (_ : Int) < _ ∧ _ | show (_ : Nat) < _ ∧ _ | show (_ : Nat) = _ | show (_ : Int) = _); first | k_subL | (simp only [vN_length, List.length_append, List.length_cons, List.length_nil, List.length_replicate, List.length_set, List.length_take, List.length_drop, List.length_reverse] at * <;> k_subL)))
          rw [sgn_pos] at hKn; exact hKn
    · rename_i h1 h2
      rw [bt_size] at h1 h2
      obtain ⟨n1, n2⟩ := neg_no (xs := xs) (fun q => by k_subL)
      refine wX_raise hR (by k_subL) (by kernel_rfl) ?_ (by with_unfolding_all rfl)
      top_strB <;> (try ((with_reducible first | show _ ≤ _ | show _ < _ | show (_ : Int) ≤ _ ∧ _ | show (_ : Nat) ≤ _ ∧ _ | show (_ : Int) < _ ∧ _ | show (_ : Nat) < _ ∧ _ | show (_ : Nat) = _ | show (_ : Int) = _); first | k_subL | (simp only [vN_length, List.length_append, List.length_cons, List.length_nil, List.length_replicate, List.length_set, List.length_take, List.length_drop, List.length_reverse] at * <;> k_subL)))
      exact ⟨_, rfl, hKE (lead xs) (by rw [rd_short (fun q => by k_subL), n2])⟩
    · rename_i h1 h2
      rw [bt_size] at h1 h2; k_subL
  · k_subL
end
section
variable {prog : Program} {W : World} {p : Program} {loose : List Str} {mean : ExcName → Option Value} {mg mb : Str → Option Value}
local macro_rules | `(tactic| top_raise0) => `(tactic| ((show wF _ _ _ (Expr.Call (Expr.Name (Str.ofString "from_text") _) _ _ _) _ _); refine wF_callE (by assumption) ?_ ?_ ?_))
def rdV (w : Nat) : Nat ⊕ Int → V
  | .inl q => .tuple [.str (Str.ofString "refused"), .int (q : Int)]
  | .inr n => .tuple [.str (Str.ofString "number"), sgn w n]
def Calls0 (G : Gl) (n : Nat) (f : Value) (args : List V) (K : V → Prop) : Prop :=
  ∀ C fz keep σ s vs, C.outer = [] → Ok G C n → In C fz keep σ s → FRs [] vs args → wpAny G.M C.A (call f vs) (PC C fz keep σ K) C.E s
def onlyRet (K : V → Prop) (f : Fl) : Prop := match f with
  | .ret x => K x
  | _ => False
theorem body_in {G : Gl} {n : Nat} {D : Fc} {body : List Stmt} {K : V → Prop} {σ : List V} {E₁ : Value → Shared → Prop} {Qf : Flow → Shared → Prop} {KE : Int → Prop} {s : Shared} (hR : Raises (D.setE E₁) KE)
    (h : Raises (D.setE E₁) KE → wS G (D.setE E₁) n body (fun fl _ => onlyRet K fl) σ) (ok : Ok G (D.setE E₁) n) (i : In (D.setE E₁) [] [] σ s) (hq : ∀ v s', PS (D.setE E₁) [] [] (fun fl _ => onlyRet K fl) (.ret v) s' → Qf (.ret v) s') : wpAny G.M D.A (execs body D.env) Qf E₁ s :=
  wpAny_mono (h hR ok [] [] s i) (fun fl s' q => by
    cases fl with
    | ret v => exact hq v s' q
    | next => obtain ⟨_, _, _, _, z⟩ := q; exact z.elim
    | brk => obtain ⟨_, _, _, _, z⟩ := q; exact z.elim
    | cont => obtain ⟨_, _, _, _, z⟩ := q; exact z.elim) fun _ _ x => x
theorem t_law_read {xs : List Nat} {b w least : Nat} (hw : Wd w) (hr : Rng 256 xs) (hl : xs.length ≤ 9) (hb : 2 ≤ b) (hb2 : b ≤ 62) {K : V → Prop} (hK : K (rdV w (rd b xs))) :
    Calls0 (GG PW W p loose mean mg mb) 40 (.ref 357) [.bytes (bt xs), .int (b : Int), .int (w : Int), .int (least : Int)] K := fun C fz keep σ s vs hout ok i r => by
  obtain ⟨m, ol, F, L, N, D, hh, tt, es⟩ := id i
  have d := d_law_read (prog := PW) (w := W) (p := p) (loose := loose) (mean := mean) (mg := mg) (mb := mb)
  obtain ⟨oc, od, osl, params, dV, kV, doc, pm, an, ct, hob, hbind⟩ := d.ob
  have hvl : vs.length = 4 := r.length
  have hloc : ∀ x ∈ [Str.ofString "text", Str.ofString "base", Str.ofString "w", Str.ofString "least"] ++ [Str.ofString "wrong"], s_law_read.names.lookup x = some .local ∧ (x == ("__debug__" : Str)) = false := fun x hx => by
    have := List.all_eq_true.mp d.loc x hx
    simpa using this
  have X1 : (GG PW W p loose mean mg mb).K.In s.heap := ok.X.keeps F.keep
  have T1 : Top p loose mean mg mb s.heap := ok.T.keeps fun b o q => F.keep b o q
  refine wpAny_call (codeAny_call_def (fd := fnOf _ _ params b_law_read s_law_read dV kV doc pm an _ ct) (body := b_law_read) (binds := [Str.ofString "text", Str.ofString "base", Str.ofString "w", Str.ofString "least"].zip vs) (by have := ok.depth; k_subL) (X1 _ _ hob) rfl T1.nolimit (codeRec_of X1 d.code) rfl (hbind s vs hvl) d.cell (fun y hy => ?_) (fun h₁ hns hk₁ => ?_) d.co d.gen d.kind)
  · obtain ⟨a, b⟩ := y
    exact (hloc a (List.mem_append_left _ (List.of_mem_zip hy).1)).1
  · show wpAny _ (C.A.deeper (rdE s.heap.objs.size)) (execs b_law_read (rdE s.heap.objs.size)) _ _ _
    refine wpAny_execs_cons (wpAny_Try_except ?_)
    let D' : Fc := { A := C.A.deeper (rdE s.heap.objs.size), A₀ := C.A, base := C.base, h₀ := s.heap, outer := C.env :: C.outer, cn := Str.ofString "_law_read", cs := s_law_read, L := s.heap.objs.size, a := 357, ccd := .ref 356, cl := [], r := s, names := [Str.ofString "text", Str.ofString "base", Str.ofString "w", Str.ofString "least", Str.ofString "wrong"], E := fun _ _ => False }
    have B' : Below C.A C.base (C.env :: C.outer) s.heap := ⟨ok.hA, fun b o e => F.keep b o (ok.B.stays b o e), ok.frames F⟩
    have ok' : ∀ E₁, Ok (GG PW W p loose mean mg mb) (D'.setE E₁) 39 := fun E₁ => ⟨B', X1, T1, by show (C.A.frames.map _) = _; rw [ok.hA]; rfl, ok.hh, d.kind, by show C.A.depth + 1 + 39 < _; have := ok.depth; k_subL, by show C.A.units + 3 + 8 * 39 + 16 < _; have := ok.units; k_subL, d.nodup, hloc⟩
    have i' : ∀ E₁, In (D'.setE E₁) [] [] [.bytes (bt xs), .int (b : Int), .int (w : Int), .int (least : Int), .undef] { s with heap := h₁, toks := s.toks + ([Str.ofString "text", Str.ofString "base", Str.ofString "w", Str.ofString "least"].zip vs).length } := fun E₁ =>
      ⟨_, [], ⟨hns, hk₁, Nat.le_refl _⟩, locR_init (ps := [Str.ofString "text", Str.ofString "base", Str.ofString "w", Str.ofString "least"]) (rest := [Str.ofString "wrong"]) r hvl.symm (fun j x v h1 h2 => lookup_zip_rev (List.nodup_append.mp d.nodup).1 h1 h2), fun p hp => by simp at hp, ⟨by simp, fun p hp => by simp at hp⟩, h₁, _, rfl⟩
    refine body_in (D := D') (K := K) (KE := fun j => ∃ q : Nat, j = (q : Int) ∧ K (rdV w (.inl q))) (fun G' m' e D0 j t s' F' kj x hs => ?_) (fun hR => ?_) (ok' _) (i' _) (fun v s' hps => ?_)
    · obtain ⟨q, rfl, kq⟩ := kj
      show wpAny _ _ _ _ _ _
      refine read_caught (K := K) ok hout i F' x hs fun v s2 hpc => ?_
      obtain ⟨y, f', a1, a2, a3, rfl⟩ := hpc
      exact ⟨_, f', a1, a2, a3, kq⟩
    · top_strB
      refine (t_from_text hw hr hl hb hb2 (fun n hn => ?_) fun q hq => ⟨q, rfl, by rw [hq] at hK; exact hK⟩).le (by k_subL)
      rw [hn] at hK
      top_strB
      exact hK
    · obtain ⟨σ', f', sub, ⟨m', ol', Fx, Lx, Nx, Dx, h', t', ex⟩, x, rx, kx⟩ := hps
      have I' : In C (f' ++ fz) keep σ s' := i.addFz Fx.keep ⟨h', t', ex⟩ fun q hq => ⟨(Nx q (List.mem_append_right _ hq)).1, (Nx q (List.mem_append_right _ hq)).2.2⟩
      exact ⟨x, _, fun q hq => List.mem_append_right _ hq, rx.mono fun q hq => List.mem_append_left _ hq, I', kx⟩
end
section
variable {prog : Program} {W : World} {p : Program} {loose : List Str} {mean : ExcName → Option Value} {mg mb : Str → Option Value}
noncomputable def b_to_text : List Stmt := defB 35
noncomputable def s_to_text : Scope := defS 35
def ttP : List Str := [Str.ofString "x", Str.ofString "base", Str.ofString "w", Str.ofString "least", Str.ofString "divrem", Str.ofString "mul"]
noncomputable abbrev ttC (D : Fc) (c : Addr) : Fc := { D with cn := Str.ofString "to_text", cs := s_to_text, cl := [(Str.ofString "letters", c)], names := [Str.ofString "x", Str.ofString "base", Str.ofString "w", Str.ofString "least", Str.ofString "divrem", Str.ofString "mul", Str.ofString "is_below", Str.ofString "a", Str.ofString "digits", Str.ofString "told"], E := fun _ _ => False }
theorem letters_size {b : Nat} (hb2 : b ≤ 62) : b ≤ (lettersA b).size ∧ (lettersA b).size ≤ 62 := by
  unfold lettersA; split
  · rw [show smallA.size = 36 from rfl]; k_subL
  · rw [show bothA.size = 62 from rfl]; k_subL
theorem letters_fg {b d : Nat} (h : d < b) (hb2 : b ≤ 62) : ((lettersA b).toList.getD d 0).toNat = fg b d := by
  unfold lettersA fg
  by_cases h1 : b ≤ 36
  · rw [if_pos h1, if_neg (by k_subL)]
    have : ∀ d : Fin 36, (smallA.toList.getD d.val 0).toNat = lo (sg d.val) := by decide +kernel
    exact this ⟨d, by k_subL⟩
  · rw [if_neg h1, if_pos (by k_subL)]; rfl
def onlyNext (P : List V → Prop) (f : Fl) (σ : List V) : Prop := match f with
  | .next => P σ
  | _ => False
theorem execs_step {G : Gl} {C : Fc} {n : Nat} {σ : List V} {st : Stmt} {ss : List Stmt} {fz keep : Led} {s : Shared} {Qf : Flow → Shared → Prop} {P : List V → Prop} (ok : Ok G C n) (i : In C fz keep σ s) (h : wX G C n st (onlyNext P) σ)
    (k : ∀ f1 σ1 s1, Sub fz f1 → In C f1 keep σ1 s1 → P σ1 → wpAny G.M C.A (execs ss C.env) Qf C.E s1) : wpAny G.M C.A (execs (st :: ss) C.env) Qf C.E s :=
  wpAny_execs_cons (wpAny_mono (h ok fz keep s i) (fun f s1 ⟨σ1, f1, sub, i1, q⟩ => by
    cases f with
    | next => exact k f1 σ1 s1 sub i1 q
    | brk => exact q.elim
    | cont => exact q.elim
    | ret v => obtain ⟨x, _, q⟩ := q; exact q.elim) fun _ _ x => x)
theorem execs_stepAt {G : Gl} {C : Fc} {n : Nat} {σ : List V} {st : Stmt} {ss : List Stmt} {fz keep : Led} {s : Shared} {Qf : Flow → Shared → Prop} {P : List V → Prop} (ok : Ok G C n) (i : In C fz keep σ s) (h : wpAny G.M C.A (exec st C.env) (PS C fz keep (onlyNext P)) C.E s)
    (k : ∀ f1 σ1 s1, Sub fz f1 → In C f1 keep σ1 s1 → P σ1 → wpAny G.M C.A (execs ss C.env) Qf C.E s1) : wpAny G.M C.A (execs (st :: ss) C.env) Qf C.E s :=
  wpAny_execs_cons (wpAny_mono h (fun f s1 ⟨σ1, f1, sub, i1, q⟩ => by
    cases f with
    | next => exact k f1 σ1 s1 sub i1 q
    | brk => exact q.elim
    | cont => exact q.elim
    | ret v => obtain ⟨x, _, q⟩ := q; exact q.elim) fun _ _ x => x)
theorem ifexp_at {G : Gl} {C : Fc} {n : Nat} {σ : List V} {t a b : Expr} {pos : Pos} {fz keep : Led} {s : Shared} {Q : Value → Shared → Prop} {P : Bool → List V → Prop} (ok : Ok G C n) (i : In C fz keep σ s) (h : wT G C n t P σ)
    (ka : ∀ f1 σ1 s1, Sub fz f1 → In C f1 keep σ1 s1 → P true σ1 → wpAny G.M C.A (eval a C.env) Q C.E s1) (kb : ∀ f1 σ1 s1, Sub fz f1 → In C f1 keep σ1 s1 → P false σ1 → wpAny G.M C.A (eval b C.env) Q C.E s1) : wpAny G.M C.A (eval (.IfExp t a b pos) C.env) Q C.E s :=
  wpAny_IfExp (wpAny_mono (h ok fz keep s i) (fun c s1 ⟨σ1, f1, sub, i1, q1⟩ => by
    cases c with
    | true => exact ka f1 σ1 s1 sub i1 q1
    | false => exact kb f1 σ1 s1 sub i1 q1) fun _ _ x => x)
theorem call_at {G : Gl} {C : Fc} {n : Nat} {σ : List V} {x : Str} {p pos : Pos} {e : Expr} {fv : Value} {y : V} {K : V → Prop} {fz keep : Led} {s : Shared} (ok : Ok G C n) (i : In C fz keep σ s) (hn : wF G C n (.Name x p) (fun f σ1 => f = .fn fv ∧ σ1 = σ) σ) (hc : Callee G fv)
    (he : ∀ f1 s1, Sub fz f1 → In C f1 keep σ s1 → wpAny G.M C.A (eval e C.env) (fun v s2 => ∃ f2, Sub f1 f2 ∧ FR f2 v y ∧ In C f2 keep σ s2) C.E s1) (hcall : Calls G n fv [y] K) (hst : starEach [e] C.env = (false, eval e C.env) :: starEach [] C.env) :
    wpAny G.M C.A (eval (.Call (.Name x p) [e] [] pos) C.env) (PF C fz keep (fun r σ1 => K r ∧ σ1 = σ)) C.E s := by
  refine Call_Name rfl (wpAny_mono (hn ok fz keep s i) (fun f s1 ⟨f', σ1, f1, sub1, r, i1, hf, hσ⟩ => ?_) fun _ _ x => x)
  subst hf; subst hσ
  refine r.fn_c ?_
  refine callWith_ok (es := []) ok i1 hc hst (by rfl) ?_
  refine wpAny_items_cons (wpAny_mono (he f1 s1 sub1 i1) (fun v s2 ⟨f2, sub2, r2, i2⟩ => wpAny_items_nil ⟨⟨_, _, _, i2⟩, ?_⟩) fun _ _ x => x) hst
  exact wpAny_mono (hcall C f2 keep _ s2 [v] ok i2 (.cons r2 .nil)) (fun v' s3 ⟨z, f3, sub3, r3, i3, k3⟩ => ⟨z, _, f3, (sub1.trans sub2).trans sub3, r3, i3, k3, rfl⟩) fun _ _ x => x
theorem execs_last {G : Gl} {C : Fc} {n : Nat} {σ : List V} {ss : List Stmt} {fz keep : Led} {s : Shared} {Qf : Flow → Shared → Prop} {P : V → Prop} (ok : Ok G C n) (i : In C fz keep σ s) (h : wS G C n ss (fun fl _ => onlyRet P fl) σ)
    (k : ∀ v x f1 σ1 s1, Sub fz f1 → FR f1 v x → In C f1 keep σ1 s1 → P x → Qf (.ret v) s1) : wpAny G.M C.A (execs ss C.env) Qf C.E s :=
  wpAny_mono (h ok fz keep s i) (fun f s1 ⟨σ1, f1, sub, i1, q⟩ => by
    cases f with
    | ret v => obtain ⟨x, r, q⟩ := q; exact k v x f1 σ1 s1 sub r i1 q
    | next => exact q.elim
    | brk => exact q.elim
    | cont => exact q.elim) fun _ _ x => x
theorem tt_body (D : Fc) {w b least : Nat} {n : Int} {fz keep : Led} {s : Shared} {c : Addr} {o : Obj} (hw : Wd w) (hb : 2 ≤ b) (hb2 : b ≤ 62) (hn : n.natAbs < 2 ^ 60) (ok : Ok (GG PW W p loose mean mg mb) (ttC D c) 29) (ho : o.data = .cell none)
    (i : In (ttC D c) fz ((c, o) :: keep) [sgn w n, .int (b : Int), .int (w : Int), .int (least : Int), FD, FM, .undef, .undef, .undef, .undef] s) :
    wpAny (GG PW W p loose mean mg mb).M (ttC D c).A (execs b_to_text (ttC D c).env) (fun fl s' => ∃ v f' σ', fl = .ret v ∧ Sub fz f' ∧ FR f' v (.bytes (bt (toldL b n))) ∧ In (ttC D c) f' keep σ' s') (fun _ _ => False) s := by
  have hls := letters_size hb2
  refine wpAny_execs_cons (Assign_Tuple ?_ (by with_unfolding_all rfl) (by with_unfolding_all rfl))
  have e1 : wF (GG PW W p loose mean mg mb) (ttC D c) 29 (Expr.Tuple [(Expr.Name (Str.ofString "letters_of") { line := 175, col := 30, endLine := 175, endCol := 40 }).Call [Expr.Name (Str.ofString "base") { line := 175, col := 41, endLine := 175, endCol := 45 }] [] { line := 175, col := 30, endLine := 175, endCol := 46 },
                      Expr.Name (Str.ofString "x") { line := 175, col := 48, endLine := 175, endCol := 49 }]
                    0 { line := 175, col := 29, endLine := 175, endCol := 50 }) (fun v σ1 => v = .tuple [.bytes (lettersA b), sgn w n] ∧ σ1 = [sgn w n, .int (b : Int), .int (w : Int), .int (least : Int), FD, FM, .undef, .undef, .undef, .undef]) [sgn w n, .int (b : Int), .int (w : Int), .int (least : Int), FD, FM, .undef, .undef, .undef, .undef] := by
    top_strB
    refine (t_letters_of hb hb2 ?_).le (by k_subL)
    top_strB
    exact ⟨Nat.le_of_ble_eq_true rfl, rfl, rfl⟩
  refine wpAny_mono (e1 ok fz _ s i) (fun v s1 ⟨y, σ1, f1, sub1, r, i1, hy, hσ⟩ => ?_) fun _ _ x => x
  subst hy; subst hσ
  refine r.tuple_c fun ta to arr tm hm hc hd hr => ?_
  · refine assign_Tuple_tuple ok.hh ⟨to, i1.get hm, hc, tm, hd⟩ (by rw [← Array.length_toList, hr.length]; rfl) (by with_unfolding_all rfl) fun h' hx => ?_
    have i2 := i1.ext (t := s1.toks) hx
    clear hm hd hx
    generalize arr.toList = l at hr
    refine hr.cons_c fun _ _ q1 q2 => q1.bytes_c fun tkl => ?_
    · show wpAny _ _ (do holding _ (assign (Expr.Name (Str.ofString "letters") _) (ttC D c).env (.bytes (lettersA b) tkl)); assignInOrder ((assignEach [Expr.Tuple [Expr.Name (Str.ofString "is_below") { line := 175, col := 14, endLine := 175, endCol := 22 }, Expr.Name (Str.ofString "a") { line := 175, col := 24, endLine := 175, endCol := 25 }] 0 { line := 175, col := 13, endLine := 175, endCol := 26 }] (ttC D c).env).map (·.2)) _) _ _ _
      refine wpAny_bind (wpAny_holding (PyProof.Rows.assign_Name (store_cell ok i2 rfl ho (by kernel_rfl) fun o' s3 ho' i3 => ?_)))
      have e2 : wGs (GG PW W p loose mean mg mb) (ttC D c) 29 [Expr.Tuple [Expr.Name (Str.ofString "is_below") { line := 175, col := 14, endLine := 175, endCol := 22 }, Expr.Name (Str.ofString "a") { line := 175, col := 24, endLine := 175, endCol := 25 }] 0 { line := 175, col := 13, endLine := 175, endCol := 26 }] [sgn w n] (fun σ1 => σ1 = [sgn w n, .int (b : Int), .int (w : Int), .int (least : Int), FD, FM, .bool (decide (n < 0)), L (2 ^ w) n.natAbs, .undef, .undef]) [sgn w n, .int (b : Int), .int (w : Int), .int (least : Int), FD, FM, .undef, .undef, .undef, .undef] := by
        unfold sgn
        top_strB
        rfl
      refine wpAny_mono (e2 ok f1 _ s3 _ q2 i3) (fun _ s4 ⟨σ4, f4, sub4, i4, hσ⟩ => ?_) fun _ _ x => x
      subst hσ
      show wpAny _ (ttC D c).A (execs _ (ttC D c).env) _ (ttC D c).E _
      refine execs_step (P := fun σ1 => σ1 = [sgn w n, .int (b : Int), .int (w : Int), .int (least : Int), FD, FM, .bool (decide (n < 0)), L (2 ^ w) n.natAbs, .list (vN (limbs b n.natAbs).reverse), .undef]) ok i4 ?_ fun f5 σ5 s5 sub5 i5 hσ5 => ?_
      · top_strB
        rw [Int.natAbs_natCast]
        refine (t_to_digits hw hb (by k_subL) hn ?_).le (by k_subL)
        top_strB
        rfl
      · subst hσ5
        have hlen : (limbs b n.natAbs).length ≤ 60 := limbs_length_le hb (Nat.lt_of_lt_of_le hn (Nat.pow_le_pow_left hb 60))
        refine execs_stepAt (P := fun σ1 => σ1 = [sgn w n, .int (b : Int), .int (w : Int), .int (least : Int), FD, FM, .bool (decide (n < 0)), L (2 ^ w) n.natAbs, .list (vN (limbs b n.natAbs).reverse), .bytes (bt (figS b n.natAbs))]) ok i5 ?_ fun f6 σ6 s6 sub6 i6 hσ6 => ?_
        · refine wpAny_Assign_Name (wpAny_mono (Q := PF (ttC D c) f5 ((c, o') :: keep) (fun v σ1 => v = .bytes (bt (figS b n.natAbs)) ∧ σ1 = [sgn w n, .int (b : Int), .int (w : Int), .int (least : Int), FD, FM, .bool (decide (n < 0)), L (2 ^ w) n.natAbs, .list (vN (limbs b n.natAbs).reverse), .undef])) ?_ (fun v s7 ⟨y, σ7, f7, sub7, r7, i7, hy, hσ7⟩ => ?_) fun _ _ x => x) (by with_unfolding_all rfl)
          · refine ifexp_at (P := fun c' σ1 => c' = decide ((0 : Int) < ((limbs b n.natAbs).reverse.length : Int)) ∧ σ1 = [sgn w n, .int (b : Int), .int (w : Int), .int (least : Int), FD, FM, .bool (decide (n < 0)), L (2 ^ w) n.natAbs, .list (vN (limbs b n.natAbs).reverse), .undef]) ok i5 ?_ (fun f7 σ7 s7 sub7 i7 h7 => ?_) (fun f7 σ7 s7 sub7 i7 h7 => ?_)
            · top_strB
              · rw [vN_length, List.length_reverse]; k_subL
              · exact ⟨by rw [vN_length], rfl⟩
            · obtain ⟨h7a, rfl⟩ := h7
              have hpos : 0 < n.natAbs := by
                have h8 := of_decide_eq_true h7a.symm
                rcases Nat.eq_zero_or_pos n.natAbs with z | z
                · rw [z, limbs_zero] at h8; simp at h8
                · exact z
              have hrng : Rng b (limbs b n.natAbs).reverse := (rng_limbs hb _).reverse
              have hfig : (limbs b n.natAbs).reverse.map (fun d => ((lettersA b).toList.getD d 0).toNat) = figS b n.natAbs := by
                rw [figS_fg, fin, if_neg (by k_subL)]
                exact List.map_congr_left fun d hd => letters_fg (hrng d hd) hb2
              refine wpAny_mono (call_at (K := fun y => y = .bytes (bt (figS b n.natAbs))) (fv := .type "bytes") ok i7 (by top_strB; exact ⟨rfl, rfl⟩) trivial (fun f8 s8 sub8 i8 => comp_index (bs := lettersA b) (ds := (limbs b n.natAbs).reverse) ok i8 (.head _) ho' (by kt_at_item) (fun d hd => by have := hrng d hd; k_subL) (by k_subL) (by rw [List.length_reverse]; k_subL) (by with_unfolding_all rfl) (by decide +kernel) (by rfl) (by decide +kernel) (by kernel_rfl) (fun _ => by rfl) (fun _ => by rfl) (fun _ => by rfl) (fun _ => by with_unfolding_all rfl) (fun _ _ => by with_unfolding_all rfl) (fun v s' fz' g1 g2 g3 => ⟨fz', g1, g2, g3⟩)) ?_ (by with_unfolding_all rfl)) (fun v s' p => p.le sub7) fun _ _ x => x
              rw [hfig]
              refine b_bytes (fun x hx => ?_) ?_ rfl
              · rw [figS_fg] at hx
                obtain ⟨d, hd, rfl⟩ := List.mem_map.mp hx
                have := (fg_facts (fin_rng hb d hd) hb2).2.2.2; k_subL
              · rw [← hfig, List.length_map, List.length_reverse]; k_subL
            · obtain ⟨h7a, rfl⟩ := h7
              have hz : n.natAbs = 0 := by
                have h8 := of_decide_eq_false h7a.symm
                rcases Nat.eq_zero_or_pos n.natAbs with z | z
                · exact z
                · have := limbs_length_pos hb z; rw [List.length_reverse] at h8; k_subL
              have hfig : bt (figS b n.natAbs) = [48].toArray := by
                rw [hz, figS_fg, show fin b 0 = [0] from rfl, List.map_cons, List.map_nil]
                have : fg b 0 = 48 := by unfold fg; split <;> rfl
                rw [this]; rfl
              rw [hfig]
              refine wpAny_mono ((wF_bytes (G := GG PW W p loose mean mg mb) (n := 29) (Q := fun v σ1 => v = .bytes [48].toArray ∧ σ1 = _) ⟨rfl, rfl⟩ : wF _ (ttC D c) 29 (.Constant (.bytes [48]) 0 _) _ _) ok f7 _ s7 i7) (fun v s' p => p.le sub7) fun _ _ x => x
          · subst hy; subst hσ7
            exact store_val ok i7 (k := 9) (by kt_at_get) r7 fun s' i' => ⟨_, f7, sub7, i', rfl⟩
        · subst hσ6
          refine execs_last (P := fun x => x = .bytes (bt (toldL b n))) ok i6 ?_ fun v x f7 σ7 s7 sub7 r7 i7 hx => ?_
          · top_strB
            · show 1 + (bt _).size ≤ _
              rw [bt_size, figS_fg, List.length_map]
              have := fin_length hb hn; k_subL
            · rename_i hneg
              show V.bytes (#[45] ++ bt (figS b n.natAbs)) = V.bytes (bt (toldL b n))
              rw [toldL, if_pos hneg, ← bt_append]; rfl
            · rename_i hneg
              show V.bytes (bt (figS b n.natAbs)) = V.bytes (bt (toldL b n))
              rw [toldL, if_neg hneg]; rfl
          · subst hx
            exact ⟨v, f7, σ7, rfl, (((sub1.trans sub4).trans sub5).trans sub6).trans sub7, r7, In.drop (tl := [(c, o')]) i7⟩
theorem t_to_text {w b least : Nat} {n : Int} (hw : Wd w) (hb : 2 ≤ b) (hb2 : b ≤ 62) (hn : n.natAbs < 2 ^ 60) {K : V → Prop} (hK : K (.bytes (bt (toldL b n)))) :
    Calls (GG PW W p loose mean mg mb) 30 (.ref 231) [sgn w n, .int (b : Int), .int (w : Int), .int (least : Int), FD, FM] K := fun C fz keep σ s vs ok i r => by
  obtain ⟨m, ol, F, L, N, Di, hh, tt, es⟩ := i
  have hob : (GG PW W p loose mean mg mb).K.lookup 231 = some ⟨.type "function", none, .func (fnOf (Str.ofString "to_text") (Str.ofString "to_text") (defP 35) b_to_text s_to_text .none .none .none (.str (Str.ofString "gmp.radix") 371) none (.ref 230) .none), #[]⟩ := by kernel_rfl
  obtain ⟨v0, v1, v2, v3, v4, v5, rfl, r0, r1, r2, r3, r4, r5⟩ : ∃ v0 v1 v2 v3 v4 v5, vs = [v0, v1, v2, v3, v4, v5] ∧ FR fz v0 (sgn w n) ∧ FR fz v1 (.int (b : Int)) ∧ FR fz v2 (.int (w : Int)) ∧ FR fz v3 (.int (least : Int)) ∧ FR fz v4 FD ∧ FR fz v5 FM := by
    exact r.cons_c fun _ _ r0 r => r.cons_c fun _ _ r1 r => r.cons_c fun _ _ r2 r => r.cons_c fun _ _ r3 r => r.cons_c fun _ _ r4 r => r.cons_c fun _ _ r5 r => r.nil_c ⟨_, _, _, _, _, _, rfl, r0, r1, r2, r3, r4, r5⟩
  refine wpAny_call (code_defC (K := (GG PW W p loose mean mg mb).K) (binds := ttP.zip [v0, v1, v2, v3, v4, v5]) ok.B F ok.X N ok.T ok.hA rfl ok.hk hob (by kernel_rfl) (by have := ok.depth; k_subL) (BindsTo.of_eq (by kernel_rfl)) (by kernel_rfl) (by decide +kernel) ?_ (by kernel_rfl) (by kernel_rfl) (by kernel_rfl))
  intro g L' h₁ tk cells FG F' N' Y B' X' T' hlt
  obtain ⟨o0, rfl, ho0⟩ : ∃ o, cells = [(L' + 1, o)] ∧ o.data = .cell none := by
    have Y' : CellsAre (bindC (envOfC (Str.ofString "to_text") s_to_text L' 231 (.ref 230)).kindOf (ttP.zip [v0, v1, v2, v3, v4, v5]) fun _ => none) [(Str.ofString "letters", L' + 1)] cells := Y
    obtain ⟨o, e, h⟩ := Y'.one
    exact ⟨o, e, h⟩
  let D : Fc := { A := C.A.deeper (envX (Str.ofString "to_text") s_to_text L' 231 (.ref 230) [(Str.ofString "letters", L' + 1)]), A₀ := C.A, base := C.base, h₀ := g, outer := C.env :: C.outer, cn := Str.ofString "to_text", cs := s_to_text, L := L', a := 231, ccd := .ref 230, cl := [], r := s, names := [], E := fun _ _ => False }
  have ok' : Ok (GG PW W p loose mean mg mb) (ttC D (L' + 1)) 29 := ⟨B', X', T', by show (C.A.frames.map _) = _; rw [ok.hA]; rfl, ok.hh, by kernel_rfl, by show C.A.depth + 1 + 29 < _; have := ok.depth; k_subL, by show C.A.units + 3 + 8 * 29 + 16 < _; have := ok.units; k_subL, show List.Nodup [Str.ofString "x", Str.ofString "base", Str.ofString "w", Str.ofString "least", Str.ofString "divrem", Str.ofString "mul", Str.ofString "is_below", Str.ofString "a", Str.ofString "digits", Str.ofString "told"] from by decide +kernel, show ∀ x ∈ [Str.ofString "x", Str.ofString "base", Str.ofString "w", Str.ofString "least", Str.ofString "divrem", Str.ofString "mul", Str.ofString "is_below", Str.ofString "a", Str.ofString "digits", Str.ofString "told"], s_to_text.names.lookup x = some .local ∧ (x == ("__debug__" : Str)) = false from by decide +kernel⟩
  have i' : In (ttC D (L' + 1)) fz ((L' + 1, o0) :: (ol ++ keep)) [sgn w n, .int (b : Int), .int (w : Int), .int (least : Int), FD, FM, .undef, .undef, .undef, .undef] { s with heap := h₁, toks := tk } := by
    refine ⟨_, [], F', .val (by rfl) r0 (.val (by rfl) r1 (.val (by rfl) r2 (.val (by rfl) r3 (.val (by rfl) r4 (.val (by rfl) r5 (.undef (.undef (.undef (.undef .nil))))))))), N', ⟨?_, fun q hq q' hq' => ?_⟩, h₁, tk, rfl⟩
    · rw [List.nil_append, List.map_cons, List.nodup_cons]
      refine ⟨fun hm => ?_, Di.1⟩
      obtain ⟨q, hq, e⟩ := List.mem_map.mp hm
      have := hlt q (List.mem_append_left _ hq)
      rw [e] at this
      exact absurd this (Nat.not_lt.mpr (Nat.le_succ _))
    · rcases List.mem_cons.mp hq with rfl | hq
      · have := hlt q' (List.mem_append_right _ hq')
        intro e
        have e' : L' + 1 = q'.1 := e
        rw [← e'] at this
        exact absurd this (Nat.not_lt.mpr (Nat.le_succ _))
      · exact Di.2 q hq q' hq'
  refine wpAny_mono (tt_body D hw hb hb2 hn ok' ho0 i') (fun fl s' ⟨v, f', σ', hfl, sub, rv, ⟨m', ol', Fx, Lx, Nx, Dx, h', t', ex⟩⟩ => ?_) fun _ _ x => x.elim
  subst hfl
  refine leaveK_ (m := m) (news' := ol ++ keep ++ f') Fx (fun q hq => Nx q ?_) fun kF kN => ?_
  · rcases List.mem_append.mp hq with q | q
    · exact List.mem_append_left _ (List.mem_append_right _ q)
    · exact List.mem_append_right _ q
  · exact ⟨_, f', sub, rv, ⟨m, ol, kF, L.mono sub, kN, ⟨(Dx.sub (List.sublist_append_right ol' (ol ++ keep))).1, (Dx.sub (List.sublist_append_right ol' (ol ++ keep))).2⟩, h', t', by rw [ex]; show ({ s with heap := h', toks := t' } : Shared) = _; rw [es]⟩, hK⟩
end
section
variable {prog : Program} {W : World} {p : Program} {loose : List Str} {mean : ExcName → Option Value} {mg mb : Str → Option Value}
@[reducible] def kC0 (G : Gl) (n : Nat) (Q : V → List V → Prop) (fv : Value) (xs σ2 : List V) : Prop := Calls0 G n fv xs (kV Q σ2)
theorem wF_call0 {G : Gl} {C : Fc} {n : Nat} {σ : List V} {Q : V → List V → Prop} {x : Str} {p pos : Pos} {e : Expr} {es : List Expr} (hout : C.outer = []) (h : wF G C n (.Name x p) (kClF G C n (e :: es) (kC0 G n Q)) σ)
    (he : Pl (starEach (e :: es) C.env = (false, eval e C.env) :: starEach es C.env)) (hp : Pl ((backTo pos (starEach es C.env)).any (·.1) = false)) : wF G C n (.Call (.Name x p) (e :: es) [] pos) Q σ := fun ok fz keep s i => by
  refine Call_Name rfl (wpAny_mono (h ok fz keep s i) (fun f s1 ⟨y, σ1, f1, s1', r, i1, fv, ey, hc, q⟩ => ?_) fun _ _ x => x)
  subst ey
  refine r.fn_c ?_
  refine callWith_ok ok i1 hc he hp (wpAny_mono (q ok f1 keep s1 pos i1) (fun vs s2 ⟨xs, σ2, f2, s2', r2, i2, hfl, q2⟩ => ⟨⟨_, _, _, i2⟩, ?_⟩) fun _ _ x => x)
  exact wpAny_mono (q2 C f2 keep σ2 s2 vs hout ok i2 (r2.flat hfl)) (fun v s3 ⟨z, f3, s3', r3, i3, k3⟩ => ⟨z, σ2, f3, (s1'.trans s2').trans s3', r3, i3, k3⟩) fun _ _ x => x
theorem Calls0.le {G : Gl} {n m : Nat} {f : Value} {args : List V} {K : V → Prop} (h : Calls0 G m f args K) (hm : m ≤ n) : Calls0 G n f args K := fun C fz keep σ s vs ho ok i r => h C fz keep σ s vs ho (ok.le hm) i r
def keysOf (is : List Int) : List Nat := (is.take 12).map Int.natAbs
theorem paired_abs {fz fz' : Led} {vs ys : List Value} {is : List Int} (P : Paired (fun v y => ∀ (i : Int) t, v = .int i t → ∃ t', y = .int (i.natAbs : Int) t') vs ys) (r : FRs fz vs (is.map V.int)) : FRs fz' ys (vN (is.map Int.natAbs)) := by
  induction P generalizing is with
  | nil =>
    cases is with
    | nil => exact .nil
    | cons d ds => exact (show False by obtain ⟨_, _, e, _⟩ := r.inv; exact nomatch e).elim
  | cons h p ih =>
    cases is with
    | nil => exact nomatch (show _ = [] from r.inv)
    | cons d ds =>
      obtain ⟨_, _, e, r1, r2⟩ := r.inv
      obtain ⟨rfl, rfl⟩ := List.cons.inj e
      obtain ⟨t, e⟩ : ∃ t, _ = Value.int d t := r1.inv
      obtain ⟨t', rfl⟩ := h d t e
      exact .cons (.int _ _) (ih r2)
theorem frs_of_ints {fz : Led} {vs : List Value} {is : List Int} (h : IntsAre vs is) : FRs fz vs (is.map V.int) := by
  induction h with
  | nil => exact .nil
  | cons _ _ _ ih => exact .cons (.int _ _) ih
theorem wF_compAbs {C : Fc} {n : Nat} {σ : List V} {Q : V → List V → Prop} {l : Addr} {arr : Array Value} {is : List Int} {kk : Nat} {scope : Scope} {p1 p2 p3 p4 p5 p6 p7 p8 p9 p10 pos : Pos} {k12 : Nat} (hsc : At C.names σ (Str.ofString "script") kk (.fn (.ref l))) (hl : C.h₀.IsList l arr) (hI : IntsAre arr.toList is) (hz : is.length ≤ 1000)
    (hcell : ∀ y ∈ scope.names, y.2 ≠ .cell) (hkind : scope.kind = .function) (hnames : ∀ y ∈ scope.names, y.2 = .local → scope.names.lookup y.1 = some .local) (hx : scope.names.lookup (Str.ofString "key") = some .local)
    (hclos : closureFor scope C.env = pure []) (hk1 : ∀ Cc, (compEnvC scope [] Cc C.env).scope.kind = .function) (hk2 : ∀ Cc, (compEnvC scope [] Cc C.env).kindOf (Str.ofString "abs") = some .globalImplicit) (hk3 : ∀ Cc, (compEnvC scope [] Cc C.env).kindOf (Str.ofString "int") = some .globalImplicit) (hk4 : ∀ Cc, (compEnvC scope [] Cc C.env).kindOf (Str.ofString "key") = some .local)
    (hs : ∀ x, foldedSetIterable (.Subscript (.Name (Str.ofString "script") p6) (.Slice none (some (.Constant (.int 12) k12 p7)) none p8) p9) C.env x = pure x)
    (q : Q (.list (vN (keysOf is))) σ) :
    wF (GG PW W p loose mean mg mb) C n (.ListComp (.Call (.Name (Str.ofString "abs") p1) [.Call (.Name (Str.ofString "int") p2) [.Name (Str.ofString "key") p3] [] p4] [] p5) [⟨.Name (Str.ofString "key") p10, .Subscript (.Name (Str.ofString "script") p6) (.Slice none (some (.Constant (.int 12) k12 p7)) none p8) p9, [], 0⟩] scope pos) Q σ := fun ok fz keep s i => by
  have hsl : wF (GG PW W p loose mean mg mb) C n (.Subscript (.Name (Str.ofString "script") p6) (.Slice none (some (.Constant (.int 12) k12 p7)) none p8) p9) (fun v σ1 => v = .list ((is.take 12).map V.int) ∧ σ1 = σ) σ := fun ok fz keep s i => by
    refine Subscript_ (wpAny_mono ((wF_local (Q := fun y σ' => y = .fn (.ref l) ∧ σ' = σ) hsc rfl ⟨rfl, rfl⟩ : wF (GG PW W p loose mean mg mb) C n (.Name (Str.ofString "script") p6) _ σ) ok fz keep s i) (fun v s1 ⟨y, σ1, f1, s1', r, i1, hy, hσ⟩ => ?_) fun _ _ x => x)
    subst hy; subst hσ
    refine r.fn_c ?_
    have up : ∀ {s' : Shared} {fz' : Led} {σ' : List V}, In C fz' keep σ' s' → s'.heap.IsList l arr := fun {s' fz' σ'} i' => by
      obtain ⟨o, ho, r⟩ := hl
      obtain ⟨m, ol, F, _⟩ := i'
      exact ⟨o, F.keep _ _ ho, r⟩
    refine wpAny_mono (slice_ok (value := .Name (Str.ofString "script") p6) (Q := fun y σ' => y = .list ((is.take 12).map V.int) ∧ σ' = σ1) ok i1 (up i1) (frs_of_ints hI) (by rw [List.length_map]; k_subL) (fun s' fz' σ' _ i' => up i') ?_) (fun iv s2 h2 => ?_) fun _ _ x => x
    · refine wF_int ⟨none, some 12, rfl, rfl, ?_, rfl⟩
      have e : pick (is.map V.int) none (some 12) = (is.map V.int).take 12 := pick_upto (e := 12) rfl
      rw [e, List.map_take]
    · exact wpAny_mono h2 (fun _ _ p => p.le s1') fun _ _ x => x
  refine comp_list (fun v y => ∀ (i : Int) t, v = .int i t → ∃ t', y = .int (i.natAbs : Int) t') ok.hh hclos hcell hkind hnames hx ?_ hs
  refine wpAny_mono (hsl ok fz keep s i) (fun v s1 ⟨y, σ1, f1, s1', r, i1, hy, hσ⟩ => ?_) fun _ _ x => x
  subst hy; subst hσ
  refine r.list_c fun a arr2 m hmem hr => ?_
  · have hlen : arr2.size ≤ 1000 := by rw [← Array.length_toList, hr.length, List.length_map, List.length_take]; k_subL
    obtain ⟨m1, ol1, F1, _⟩ := id i1
    refine ⟨a, arr2, rfl, ⟨_, i1.get hmem, rfl, m, rfl⟩, by rw [sizeLine_eq]; k_subL, fun Cc v s₂ m₂ E' hv hns hmx hkeep => ?_, fun D ys n' h' tk' hD hD' hkeep hP => ?_⟩
    · have T := topRead_of ok.T
      have up : ∀ b o, C.h₀.get? b = some o → s₂.heap.get? b = some o := fun b o e => hkeep b o (F1.keep b o e)
      obtain ⟨j, hj⟩ := List.getElem?_of_mem hv
      have hint : ∃ i t, v = .int i t := by
        have hjl : j < arr2.toList.length := (List.getElem?_eq_some_iff.mp hj).1
        have hjv : j < ((is.take 12).map V.int).length := by rw [← hr.length]; exact hjl
        obtain ⟨v', hv', rv'⟩ := hr.get (List.getElem?_eq_getElem hjv)
        rw [hj] at hv'; cases hv'
        rw [List.getElem_map] at rv'
        exact rv'.int_c fun _ => ⟨_, _, rfl⟩
      obtain ⟨i, t, rfl⟩ := hint
      refine Call_Name rfl (Name_function_global (hk1 Cc) (hk2 Cc) (loadGlobal_builtin (env := compEnvC scope [] Cc C.env) (T.g.keeps up) (mg_none_of ok.X T.g (by kernel_rfl)) (T.b.keeps up) ((T.builtins _ (by decide +kernel)).trans (by kernel_rfl : bootBuiltins (Str.ofString "abs") = some (.builtin "abs"))) ?_) (by decide +kernel))
      refine PyProof.Rows.callWith_builtin1 (wpAny_items_cons ?_ (by rfl)) (by rfl) (by rfl)
      refine Call_Name rfl (Name_function_global (hk1 Cc) (hk3 Cc) (loadGlobal_builtin (env := compEnvC scope [] Cc C.env) (T.g.keeps up) (mg_none_of ok.X T.g (by kernel_rfl)) (T.b.keeps up) ((T.builtins _ (by decide +kernel)).trans (by kernel_rfl : bootBuiltins (Str.ofString "int") = some (.type "int"))) ?_) (by decide +kernel))
      refine PyProof.Rows.callWith_type1 (wpAny_items_cons (ldVarK hns hmx (wpAny_items_nil ?_) (hk1 Cc) (hk4 Cc) (by decide +kernel)) (by rfl)) (by rfl) (by rfl)
      refine call_int_int (wpAny_items_nil (call_abs_int fun u tk => ?_))
      refine ⟨fun i' t' e => ?_, ⟨s₂.heap, tk, rfl, fun b o q => q⟩⟩
      cases e
      exact ⟨u, by congr 1; split <;> k_subL⟩
    · have i2 := i1.pushNew (tk := tk') hD hD' hkeep
      have hp := paired_abs (fz' := (D, listOf ys n') :: f1) hP hr
      exact ⟨_, _, (D, listOf ys n') :: f1, s1'.trans Sub.cons, .list D ys n' _ (.head _) hp, i2, q⟩
end
section
variable {prog : Program} {W : World} {p : Program} {loose : List Str} {mean : ExcName → Option Value} {mg mb : Str → Option Value}
local macro_rules | `(tactic| top_raise0) => `(tactic| ((show wF _ _ _ (Expr.ListComp _ _ _ _) _ _); refine wF_compAbs (by kt_at_item) (by assumption) (by assumption) (by k_subL) (by decide +kernel) (by with_unfolding_all rfl) (by decide +kernel) (by kernel_rfl) (by with_unfolding_all rfl) (fun _ => by with_unfolding_all rfl) (fun _ => by with_unfolding_all rfl) (fun _ => by with_unfolding_all rfl) (fun _ => by with_unfolding_all rfl) (fun _ => by with_unfolding_all rfl) ?_))
local macro_rules | `(tactic| top_raise0) => `(tactic| ((show wF _ _ _ (Expr.Call (Expr.Name (Str.ofString "_law_read") _) _ _ _) _ _); refine wF_call0 (by assumption) ?_ ?_ ?_))
theorem c_nebT {x : Array UInt8} {B : Bool → Prop} (h : B false) : cmpV .NotEq (.bytes x) (.bytes x) B := CmpR.neb (by
  rw [show (x.toList != x.toList) = false by simp]; exact h)
local macro_rules | `(tactic| top_args) => `(tactic| refine c_nebT ?_)
local macro_rules | `(tactic| kt_at_in) => `(tactic| ((show wT _ _ _ (Expr.Compare (Expr.Call (Expr.Name (Str.ofString "_law_read") _) _ _ _) _ _ _) _ _); refine wT_neSame ?_ (by with_unfolding_all rfl)))
local macro_rules | `(tactic| top_raise0) => `(tactic| ((show wF _ _ _ (Expr.Call (Expr.Attribute _ (Str.ofString "encode") _) [] _ _) _ _); refine wF_encode ?_ _ (by with_unfolding_all rfl)))
noncomputable abbrev lwC (D : Fc) : Fc := { D with cn := Str.ofString "law", cs := s_law, cl := [], names := [Str.ofString "script", Str.ofString "roll", Str.ofString "turn", Str.ofString "base", Str.ofString "w", Str.ofString "least", Str.ofString "text", Str.ofString "machine", Str.ofString "octet", Str.ofString "kind", Str.ofString "due", Str.ofString "told"], E := fun _ _ => False }
theorem typed_lt (c : Nat) (keys : List Nat) {many : Nat} (h : 0 < many) : typed c keys many < many := by
  unfold typed; split <;> exact Nat.mod_lt _ h
theorem keys_len (is : List Int) : (keysOf is).length ≤ 12 := by
  rw [keysOf, List.length_map, List.length_take]; k_subL
def bases : List Nat := [2, 8, 10, 16, 36, 37, 62]
def baseOf (j : Nat) : Nat := bases.getD j 0
theorem base_facts {j : Nat} (h : j < 7) : 2 ≤ baseOf j ∧ baseOf j ≤ 62 := by
  have : ∀ j : Fin 7, 2 ≤ baseOf j.val ∧ baseOf j.val ≤ 62 := by decide
  exact this ⟨j, h⟩
theorem i_base {j : Nat} (h : j < 7) {K : V → Prop} (hK : K (.int ((baseOf j : Nat) : Int))) : itemV (.list [.int 2, .int 8, .int 10, .int 16, .int 36, .int 37, .int 62]) (.int (j : Int)) K := by
  refine i_list (x := .int ((baseOf j : Nat) : Int)) (by k_subL) (by simp) ?_ hK
  have : ∀ j : Fin 7, (vN bases)[((j.val : Int)).toNat]? = some (V.int ((baseOf j.val : Nat) : Int)) := fun j => by
    rw [Int.toNat_natCast, baseOf, vN, List.getElem?_map, List.getD_eq_getElem?_getD]
    have hj : j.val < bases.length := j.isLt
    rw [List.getElem?_eq_getElem hj]; rfl
  exact this ⟨j, h⟩
theorem key_facts {j : Nat} (h : j < keysA.size) : Key (keysA.toList.getD j 0).toNat := by
  have : ∀ j : Fin keysA.size, (keysA.toList.getD j.val 0).toNat < 128 ∧ (blank (keysA.toList.getD j.val 0).toNat = true → (keysA.toList.getD j.val 0).toNat = 32 ∨ (keysA.toList.getD j.val 0).toNat = 9) := by decide +kernel
  exact this ⟨j, h⟩
theorem num_60 {b : Nat} (hb : 2 ≤ b) (hb2 : b ≤ 62) (xs : List Nat) (h : xs.length ≤ 8) : (runs b mach0 xs).number < 2 ^ 60 := by
  refine Nat.lt_of_lt_of_le (runs0_lt hb xs) (Nat.le_trans (Nat.pow_le_pow_right (by k_subL) h) (Nat.le_trans (Nat.pow_le_pow_left hb2 8) (by decide)))
theorem rdV_same (w : Nat) (r : Nat ⊕ Int) : ∃ xs, rdV w r = .tuple xs ∧ ∀ x ∈ xs, Same 10 x := by
  cases r with
  | inl q =>
    refine ⟨_, rfl, fun x hx => ?_⟩
    rcases List.mem_cons.mp hx with rfl | hx
    · exact same_str _ _
    · rw [List.mem_singleton.mp hx]; exact same_int _ _
  | inr n =>
    refine ⟨_, rfl, fun x hx => ?_⟩
    rcases List.mem_cons.mp hx with rfl | hx
    · exact same_str _ _
    · rw [List.mem_singleton.mp hx]
      refine same_tuple (k := 9) fun x hx => ?_
      rcases List.mem_cons.mp hx with rfl | hx
      · exact same_bool _ _
      · rw [List.mem_singleton.mp hx]
        refine same_list (k := 8) fun x hx => ?_
        obtain ⟨d, _, rfl⟩ := List.mem_map.mp hx
        exact same_int _ _
theorem toldL_pos {b : Nat} {n : Int} (hb : 2 ≤ b) : 0 < (toldL b n).length := by
  unfold toldL
  rw [figS_fg, List.length_append, List.length_map]
  have := fin_ne (b := b) (n := n.natAbs) hb
  k_subL
theorem law_body (D : Fc) (hout : (lwC D).outer = []) {l : Addr} {arr : Array Value} {is : List Int} (hl : (lwC D).h₀.IsList l arr) (hI : IntsAre arr.toList is) (hz : is.length ≤ 63) :
    wS (GG PW W p loose mean mg mb) (lwC D) 41 b_law (fun fl _ => onlyRet (fun x => x = .bool true) fl) [.fn (.ref l), .undef, .undef, .undef, .undef, .undef, .undef, .undef, .undef, .undef, .undef, .undef] := by
  refine wS_cons ?_
  top_strB <;> (try ((with_reducible first | show _ ≤ _ | show _ < _ | show (_ : Int) ≤ _ ∧ _ | show (_ : Nat) ≤ _ ∧ _ | show (_ : Int) < _ ∧ _ | show (_ : Nat) < _ ∧ _ | show (_ : Nat) = _ | show (_ : Int) = _); first | k_subL | (simp only [vN_length, List.length_append, List.length_cons, List.length_nil, List.length_replicate, List.length_set, List.length_take, List.length_drop, List.length_reverse] at * <;> k_subL)))
  rename_i A _
  have hkl := keys_len is
  refine CallsO.le (t_law_typed (c := 0) (many := 7) (keys := keysOf is) (by k_subL) (by k_subL) (by k_subL) ?_) (by k_subL)
  top_strB <;> (try ((with_reducible first | show _ ≤ _ | show _ < _ | show (_ : Int) ≤ _ ∧ _ | show (_ : Nat) ≤ _ ∧ _ | show (_ : Int) < _ ∧ _ | show (_ : Nat) < _ ∧ _ | show (_ : Nat) = _ | show (_ : Int) = _); first | k_subL | (simp only [vN_length, List.length_append, List.length_cons, List.length_nil, List.length_replicate, List.length_set, List.length_take, List.length_drop, List.length_reverse] at * <;> k_subL)))
  have h7 := typed_lt 0 (keysOf is) (many := 7) (by k_subL)
  generalize typed 0 (keysOf is) 7 = j0 at *
  obtain ⟨hb, hb2⟩ := base_facts h7
  refine i_base h7 ?_
  generalize baseOf j0 = b at *
  top_strB <;> (try ((with_reducible first | show _ ≤ _ | show _ < _ | show (_ : Int) ≤ _ ∧ _ | show (_ : Nat) ≤ _ ∧ _ | show (_ : Int) < _ ∧ _ | show (_ : Nat) < _ ∧ _ | show (_ : Nat) = _ | show (_ : Int) = _); first | k_subL | (simp only [vN_length, List.length_append, List.length_cons, List.length_nil, List.length_replicate, List.length_set, List.length_take, List.length_drop, List.length_reverse] at * <;> k_subL)))
  refine CallsO.le (t_law_typed (c := 1) (many := 5) (keys := keysOf is) (by k_subL) (by k_subL) (by k_subL) ?_) (by k_subL)
  have h5 := typed_lt 1 (keysOf is) (many := 5) (by k_subL)
  generalize typed 1 (keysOf is) 5 = j1 at *
  top_strB <;> (try ((with_reducible first | show _ ≤ _ | show _ < _ | show (_ : Int) ≤ _ ∧ _ | show (_ : Nat) ≤ _ ∧ _ | show (_ : Int) < _ ∧ _ | show (_ : Nat) < _ ∧ _ | show (_ : Nat) = _ | show (_ : Int) = _); first | k_subL | (simp only [vN_length, List.length_append, List.length_cons, List.length_nil, List.length_replicate, List.length_set, List.length_take, List.length_drop, List.length_reverse] at * <;> k_subL)))
  refine CallsO.le (t_law_typed (c := 2) (many := 4) (keys := keysOf is) (by k_subL) (by k_subL) (by k_subL) ?_) (by k_subL)
  generalize typed 2 (keysOf is) 4 = j2 at *
  top_strB <;> (try ((with_reducible first | show _ ≤ _ | show _ < _ | show (_ : Int) ≤ _ ∧ _ | show (_ : Nat) ≤ _ ∧ _ | show (_ : Int) < _ ∧ _ | show (_ : Nat) < _ ∧ _ | show (_ : Nat) = _ | show (_ : Int) = _); first | k_subL | (simp only [vN_length, List.length_append, List.length_cons, List.length_nil, List.length_replicate, List.length_set, List.length_take, List.length_drop, List.length_reverse] at * <;> k_subL)))
  have hw : Wd (4 + j1) := by constructor <;> k_subL
  rw [show (4 : Int) + (j1 : Int) = ((4 + j1 : Nat) : Int) by k_subL, show (1 : Int) + (j2 : Int) = ((1 + j2 : Nat) : Int) by k_subL]
  generalize 4 + j1 = w at *
  generalize 1 + j2 = least at *
  top_raiseB0
  top_strB <;> (try ((with_reducible first | show _ ≤ _ | show _ < _ | show (_ : Int) ≤ _ ∧ _ | show (_ : Nat) ≤ _ ∧ _ | show (_ : Int) < _ ∧ _ | show (_ : Nat) < _ ∧ _ | show (_ : Nat) = _ | show (_ : Int) = _); first | k_subL | (simp only [vN_length, List.length_append, List.length_cons, List.length_nil, List.length_replicate, List.length_set, List.length_take, List.length_drop, List.length_reverse] at * <;> k_subL)))
  refine CallsO.le (t_law_typed (c := 3) (many := 7) (keys := keysOf is) (by k_subL) (by k_subL) (by k_subL) ?_) (by k_subL)
  have ht := typed_lt 3 (keysOf is) (many := 7) (by k_subL)
  generalize typed 3 (keysOf is) 7 = j3 at *
  top_strB <;> (try ((with_reducible first | show _ ≤ _ | show _ < _ | show (_ : Int) ≤ _ ∧ _ | show (_ : Nat) ≤ _ ∧ _ | show (_ : Int) < _ ∧ _ | show (_ : Nat) < _ ∧ _ | show (_ : Nat) = _ | show (_ : Int) = _); first | k_subL | (simp only [vN_length, List.length_append, List.length_cons, List.length_nil, List.length_replicate, List.length_set, List.length_take, List.length_drop, List.length_reverse] at * <;> k_subL)))
  refine ⟨fun k σ => ∃ (xs : List Nat) (y0 y1 y2 y3 y4 : V), σ = [.fn (.ref l), .own A [.int ((4 + k : Nat) : Int), .list (vN (keysOf is))], y0, .int (b : Int), .int (w : Int), .int (least : Int), .bytes (bt xs), (runs b mach0 xs).v, y1, y2, y3, y4] ∧ xs.length = k ∧ (∀ o ∈ xs, Key o), ⟨[], _, _, _, _, _, rfl, rfl, by simp⟩, ?_, ?_⟩
  · rintro k x σ hk0 ⟨xs, y0, y1, y2, y3, y4, rfl, rfl, hkey⟩
    obtain ⟨hk, rfl⟩ := upInts_get hk0
    clear hk0
    have hk7 : xs.length < 7 := by k_subL
    top_strB <;> (try ((with_reducible first | show _ ≤ _ | show _ < _ | show (_ : Int) ≤ _ ∧ _ | show (_ : Nat) ≤ _ ∧ _ | show (_ : Int) < _ ∧ _ | show (_ : Nat) < _ ∧ _ | show (_ : Nat) = _ | show (_ : Int) = _); first | k_subL | (simp only [vN_length, List.length_append, List.length_cons, List.length_nil, List.length_replicate, List.length_set, List.length_take, List.length_drop, List.length_reverse] at * <;> k_subL)))
    · decide +kernel
    · refine CallsO.le (t_law_typed (c := 4 + xs.length) (many := keysA.size) (keys := keysOf is) (by k_subL) (by k_subL) (by decide +kernel) ?_) (by k_subL)
      have hj := typed_lt (4 + xs.length) (keysOf is) (many := keysA.size) (by decide +kernel)
      generalize typed (4 + xs.length) (keysOf is) keysA.size = j at *
      top_strB <;> (try ((with_reducible first | show _ ≤ _ | show _ < _ | show (_ : Int) ≤ _ ∧ _ | show (_ : Nat) ≤ _ ∧ _ | show (_ : Int) < _ ∧ _ | show (_ : Nat) < _ ∧ _ | show (_ : Nat) = _ | show (_ : Int) = _); first | k_subL | (simp only [vN_length, List.length_append, List.length_cons, List.length_nil, List.length_replicate, List.length_set, List.length_take, List.length_drop, List.length_reverse] at * <;> k_subL)))
      refine i_bytes (by k_subL) (by k_subL) (by decide +kernel) ?_
      have hkf := key_facts hj
      rw [Int.toNat_natCast]
      generalize (keysA.toList.getD j 0).toNat = o at *
      top_strB <;> (try ((with_reducible first | show _ ≤ _ | show _ < _ | show (_ : Int) ≤ _ ∧ _ | show (_ : Nat) ≤ _ ∧ _ | show (_ : Int) < _ ∧ _ | show (_ : Nat) < _ ∧ _ | show (_ : Nat) = _ | show (_ : Int) = _); first | k_subL | (simp only [vN_length, List.length_append, List.length_cons, List.length_nil, List.length_replicate, List.length_set, List.length_take, List.length_drop, List.length_reverse] at * <;> k_subL)))
      refine b_bytes (xs := [o]) (fun x hx => by rw [List.mem_singleton.mp hx]; have := hkf.1; k_subL) (by simp) ?_
      top_strB <;> (try ((with_reducible first | show _ ≤ _ | show _ < _ | show (_ : Int) ≤ _ ∧ _ | show (_ : Nat) ≤ _ ∧ _ | show (_ : Int) < _ ∧ _ | show (_ : Nat) < _ ∧ _ | show (_ : Nat) = _ | show (_ : Int) = _); first | k_subL | (simp only [vN_length, List.length_append, List.length_cons, List.length_nil, List.length_replicate, List.length_set, List.length_take, List.length_drop, List.length_reverse] at * <;> k_subL)))
      · rw [bt_size, bt_size]; simp; k_subL
      · have hnum := num_60 hb hb2 xs (by k_subL)
        refine (t_law_pressed hkf.1 hnum ?_).le (by k_subL)
        rw [← runs_snoc]
        have hkey' : ∀ o' ∈ xs ++ [o], Key o' := fun o' ho' => (List.mem_append.mp ho').elim (hkey o') fun h => by rw [List.mem_singleton.mp h]; exact hkf
        have hlen : (xs ++ [o]).length = xs.length + 1 := by simp
        have hnum' := num_60 hb hb2 (xs ++ [o]) (by k_subL)
        have hnb := runs0_lt hb (xs ++ [o])
        generalize hys : xs ++ [o] = ys at *
        top_strB <;> (try ((with_reducible first | show _ ≤ _ | show _ < _ | show (_ : Int) ≤ _ ∧ _ | show (_ : Nat) ≤ _ ∧ _ | show (_ : Int) < _ ∧ _ | show (_ : Nat) < _ ∧ _ | show (_ : Nat) = _ | show (_ : Int) = _); first | k_subL | (simp only [vN_length, List.length_append, List.length_cons, List.length_nil, List.length_replicate, List.length_set, List.length_take, List.length_drop, List.length_reverse] at * <;> k_subL)))
        rw [bt_append, hys]
        refine (t_law_shown ?_).le (by k_subL)
        rw [runs_rd hb2 hkey']
        have hkr : Rng 256 ys := fun x hx => by have := (hkey' x hx).1; k_subL
        cases hrd : rd b ys with
        | inl q =>
          dsimp only [shownV]
          top_strB <;> (try ((with_reducible first | show _ ≤ _ | show _ < _ | show (_ : Int) ≤ _ ∧ _ | show (_ : Nat) ≤ _ ∧ _ | show (_ : Int) < _ ∧ _ | show (_ : Nat) < _ ∧ _ | show (_ : Nat) = _ | show (_ : Int) = _); first | k_subL | (simp only [vN_length, List.length_append, List.length_cons, List.length_nil, List.length_replicate, List.length_set, List.length_take, List.length_drop, List.length_reverse] at * <;> k_subL)))
          refine Calls0.le (t_law_read hw hkr (by k_subL) hb hb2 ?_) (by k_subL)
          rw [hrd]
          have hsm := rdV_same w (.inl q)
          dsimp only [rdV] at hsm ⊢
          top_strB <;> (try ((with_reducible first | show _ ≤ _ | show _ < _ | show (_ : Int) ≤ _ ∧ _ | show (_ : Nat) ≤ _ ∧ _ | show (_ : Int) < _ ∧ _ | show (_ : Nat) < _ ∧ _ | show (_ : Nat) = _ | show (_ : Int) = _); first | k_subL | (simp only [vN_length, List.length_append, List.length_cons, List.length_nil, List.length_replicate, List.length_set, List.length_take, List.length_drop, List.length_reverse] at * <;> k_subL)))
          refine ⟨Nat.le_of_ble_eq_true rfl, rfl, hsm, ?_⟩
          top_strB <;> (try ((with_reducible first | show _ ≤ _ | show _ < _ | show (_ : Int) ≤ _ ∧ _ | show (_ : Nat) ≤ _ ∧ _ | show (_ : Int) < _ ∧ _ | show (_ : Nat) < _ ∧ _ | show (_ : Nat) = _ | show (_ : Int) = _); first | k_subL | (simp only [vN_length, List.length_append, List.length_cons, List.length_nil, List.length_replicate, List.length_set, List.length_take, List.length_drop, List.length_reverse] at * <;> k_subL)))
          exact ⟨ys, _, _, _, _, _, rfl, hlen, hkey'⟩
        | inr n =>
          dsimp only [shownV]
          have hsh := runs_rd hb2 hkey'
          rw [hrd] at hsh
          have hn := shown_due hsh
          have hn60 : n.natAbs < 2 ^ 60 := by rw [hn]; exact hnum'
          have hnb' : n.natAbs < b ^ ys.length := by rw [hn]; exact hnb
          have htl := toldL_length hb (by k_subL) hnb'
          have hta := toldL_lt (n := n) hb hb2
          have hrt := rd_told (n := n) hb hb2
          top_strB <;> (try ((with_reducible first | show _ ≤ _ | show _ < _ | show (_ : Int) ≤ _ ∧ _ | show (_ : Nat) ≤ _ ∧ _ | show (_ : Int) < _ ∧ _ | show (_ : Nat) < _ ∧ _ | show (_ : Nat) = _ | show (_ : Int) = _); first | k_subL | (simp only [vN_length, List.length_append, List.length_cons, List.length_nil, List.length_replicate, List.length_set, List.length_take, List.length_drop, List.length_reverse] at * <;> k_subL)))
          refine Calls0.le (t_law_read hw hkr (by k_subL) hb hb2 ?_) (by k_subL)
          rw [hrd]
          have hsm := rdV_same w (.inr n)
          dsimp only [rdV] at hsm ⊢
          top_strB <;> (try ((with_reducible first | show _ ≤ _ | show _ < _ | show (_ : Int) ≤ _ ∧ _ | show (_ : Nat) ≤ _ ∧ _ | show (_ : Int) < _ ∧ _ | show (_ : Nat) < _ ∧ _ | show (_ : Nat) = _ | show (_ : Int) = _); first | k_subL | (simp only [vN_length, List.length_append, List.length_cons, List.length_nil, List.length_replicate, List.length_set, List.length_take, List.length_drop, List.length_reverse] at * <;> k_subL)))
          refine (t_law_signed hw hn60 ?_).le (by k_subL)
          top_strB <;> (try ((with_reducible first | show _ ≤ _ | show _ < _ | show (_ : Int) ≤ _ ∧ _ | show (_ : Nat) ≤ _ ∧ _ | show (_ : Int) < _ ∧ _ | show (_ : Nat) < _ ∧ _ | show (_ : Nat) = _ | show (_ : Int) = _); first | k_subL | (simp only [vN_length, List.length_append, List.length_cons, List.length_nil, List.length_replicate, List.length_set, List.length_take, List.length_drop, List.length_reverse] at * <;> k_subL)))
          refine ⟨Nat.le_of_ble_eq_true rfl, rfl, hsm, ?_⟩
          top_strB <;> (try ((with_reducible first | show _ ≤ _ | show _ < _ | show (_ : Int) ≤ _ ∧ _ | show (_ : Nat) ≤ _ ∧ _ | show (_ : Int) < _ ∧ _ | show (_ : Nat) < _ ∧ _ | show (_ : Nat) = _ | show (_ : Int) = _); first | k_subL | (simp only [vN_length, List.length_append, List.length_cons, List.length_nil, List.length_replicate, List.length_set, List.length_take, List.length_drop, List.length_reverse] at * <;> k_subL)))
          refine (t_law_signed hw hn60 ?_).le (by k_subL)
          top_strB <;> (try ((with_reducible first | show _ ≤ _ | show _ < _ | show (_ : Int) ≤ _ ∧ _ | show (_ : Nat) ≤ _ ∧ _ | show (_ : Int) < _ ∧ _ | show (_ : Nat) < _ ∧ _ | show (_ : Nat) = _ | show (_ : Int) = _); first | k_subL | (simp only [vN_length, List.length_append, List.length_cons, List.length_nil, List.length_replicate, List.length_set, List.length_take, List.length_drop, List.length_reverse] at * <;> k_subL)))
          refine (t_to_text hw hb hb2 hn60 ?_).le (by k_subL)
          top_strB <;> (try ((with_reducible first | show _ ≤ _ | show _ < _ | show (_ : Int) ≤ _ ∧ _ | show (_ : Nat) ≤ _ ∧ _ | show (_ : Int) < _ ∧ _ | show (_ : Nat) < _ ∧ _ | show (_ : Nat) = _ | show (_ : Int) = _); first | k_subL | (simp only [vN_length, List.length_append, List.length_cons, List.length_nil, List.length_replicate, List.length_set, List.length_take, List.length_drop, List.length_reverse] at * <;> k_subL)))
          refine (t_law_figures hb hb2 hn60 ?_).le (by k_subL)
          refine ⟨toldL b n, rfl, hta, ⟨?_, by k_subL⟩, ?_⟩
          · exact toldL_pos hb
          top_strB <;> (try ((with_reducible first | show _ ≤ _ | show _ < _ | show (_ : Int) ≤ _ ∧ _ | show (_ : Nat) ≤ _ ∧ _ | show (_ : Int) < _ ∧ _ | show (_ : Nat) < _ ∧ _ | show (_ : Nat) = _ | show (_ : Int) = _); first | k_subL | (simp only [vN_length, List.length_append, List.length_cons, List.length_nil, List.length_replicate, List.length_set, List.length_take, List.length_drop, List.length_reverse] at * <;> k_subL)))
          refine Calls0.le (t_law_read (xs := toldL b n) hw (fun x hx => by have := hta x hx; k_subL) (by k_subL) hb hb2 ?_) (by k_subL)
          rw [hrt]
          have hsm := rdV_same w (.inr n)
          dsimp only [rdV] at hsm ⊢
          top_strB <;> (try ((with_reducible first | show _ ≤ _ | show _ < _ | show (_ : Int) ≤ _ ∧ _ | show (_ : Nat) ≤ _ ∧ _ | show (_ : Int) < _ ∧ _ | show (_ : Nat) < _ ∧ _ | show (_ : Nat) = _ | show (_ : Int) = _); first | k_subL | (simp only [vN_length, List.length_append, List.length_cons, List.length_nil, List.length_replicate, List.length_set, List.length_take, List.length_drop, List.length_reverse] at * <;> k_subL)))
          refine (t_law_signed hw hn60 ?_).le (by k_subL)
          top_strB <;> (try ((with_reducible first | show _ ≤ _ | show _ < _ | show (_ : Int) ≤ _ ∧ _ | show (_ : Nat) ≤ _ ∧ _ | show (_ : Int) < _ ∧ _ | show (_ : Nat) < _ ∧ _ | show (_ : Nat) = _ | show (_ : Int) = _); first | k_subL | (simp only [vN_length, List.length_append, List.length_cons, List.length_nil, List.length_replicate, List.length_set, List.length_take, List.length_drop, List.length_reverse] at * <;> k_subL)))
          refine ⟨Nat.le_of_ble_eq_true rfl, rfl, hsm, ?_⟩
          top_strB <;> (try ((with_reducible first | show _ ≤ _ | show _ < _ | show (_ : Int) ≤ _ ∧ _ | show (_ : Nat) ≤ _ ∧ _ | show (_ : Int) < _ ∧ _ | show (_ : Nat) < _ ∧ _ | show (_ : Nat) = _ | show (_ : Int) = _); first | k_subL | (simp only [vN_length, List.length_append, List.length_cons, List.length_nil, List.length_replicate, List.length_set, List.length_take, List.length_drop, List.length_reverse] at * <;> k_subL)))
          exact ⟨ys, _, _, _, _, _, rfl, hlen, hkey'⟩
  · rintro σ ⟨xs, y0, y1, y2, y3, y4, rfl, _, _⟩
    top_strB <;> (try ((with_reducible first | show _ ≤ _ | show _ < _ | show (_ : Int) ≤ _ ∧ _ | show (_ : Nat) ≤ _ ∧ _ | show (_ : Int) < _ ∧ _ | show (_ : Nat) < _ ∧ _ | show (_ : Nat) = _ | show (_ : Int) = _); first | k_subL | (simp only [vN_length, List.length_append, List.length_cons, List.length_nil, List.length_replicate, List.length_set, List.length_take, List.length_drop, List.length_reverse] at * <;> k_subL)))
    rfl
end
section
open PySem PySem.W PySem.Calls PyProof.Rows
set_option Elab.async false
set_option maxRecDepth 100000
set_option maxHeartbeats 8000000
noncomputable abbrev lwD (s₁ : Shared) (fa cd : Addr) : Fc := { A := callerA.deeper (envX (Str.ofString "law") s_law s₁.heap.objs.size fa (.ref cd) []), A₀ := callerA, base := s₁.heap, h₀ := s₁.heap, outer := [], cn := Str.ofString "law", cs := s_law, L := s₁.heap.objs.size, a := fa, ccd := .ref cd, cl := [], r := s₁, names := [], E := fun _ _ => False }
theorem law_runs {w : World} {p : Program} {loose : List Str} {mean : ExcName → Option Value} {mg mb : Str → Option Value} {s₁ : Shared} {h₁ : Heap} {tk : Nat} {fa cd l : Addr} {vs : List Value} {is : List Int} (KX : (KF w.params).In s₁.heap) (T : Top p loose mean mg mb s₁.heap)
    (hl : s₁.heap.IsList l vs.toArray) (hI : IntsAre vs is) (hz : is.length ≤ 63) (F : Fr s₁.heap s₁.heap.objs.size h₁ (fun x => List.lookup x [(Str.ofString "script", Value.ref l)].reverse)) :
    wpAny (model PW w) (callerA.deeper (envX (Str.ofString "law") s_law s₁.heap.objs.size fa (.ref cd) [])) (execs b_law (envX (Str.ofString "law") s_law s₁.heap.objs.size fa (.ref cd) []))
      (fun fl s' => ∃ h' t' m', fl = .ret (.bool true) ∧ s' = { s₁ with heap := h', toks := t' } ∧ Fr s₁.heap s₁.heap.objs.size h' m') (fun _ _ => False) { s₁ with heap := h₁, toks := tk } := by
  have ok : Ok (GG PW w p loose mean mg mb) (lwC (lwD s₁ fa cd)) 41 := ⟨below_caller _, KX, T, rfl, rfl, by kernel_rfl, by show callerA.depth + 1 + 41 < recursionLimit; decide +kernel, by show callerA.units + 3 + 8 * 41 + 16 < cLine; decide +kernel,
    show List.Nodup [Str.ofString "script", Str.ofString "roll", Str.ofString "turn", Str.ofString "base", Str.ofString "w", Str.ofString "least", Str.ofString "text", Str.ofString "machine", Str.ofString "octet", Str.ofString "kind", Str.ofString "due", Str.ofString "told"] from by decide +kernel,
    show ∀ x ∈ [Str.ofString "script", Str.ofString "roll", Str.ofString "turn", Str.ofString "base", Str.ofString "w", Str.ofString "least", Str.ofString "text", Str.ofString "machine", Str.ofString "octet", Str.ofString "kind", Str.ofString "due", Str.ofString "told"], s_law.names.lookup x = some .local ∧ (x == ("__debug__" : Str)) = false from by decide +kernel⟩
  have i : In (lwC (lwD s₁ fa cd)) [] [] [.fn (.ref l), .undef, .undef, .undef, .undef, .undef, .undef, .undef, .undef, .undef, .undef, .undef] { s₁ with heap := h₁, toks := tk } :=
    ⟨_, [], F, .val (by rfl) (.fn _) (.undef (.undef (.undef (.undef (.undef (.undef (.undef (.undef (.undef (.undef (.undef .nil))))))))))), fun q hq => by simp at hq, ⟨by simp, fun q hq => by simp at hq⟩, h₁, tk, rfl⟩
  refine wpAny_mono (law_body (lwD s₁ fa cd) rfl hl (by simpa using hI) hz ok [] [] _ i) (fun fl s' ⟨σ', f', sub, ⟨m', ol', Fx, Lx, Nx, Dx, h', t', ex⟩, q⟩ => ?_) fun _ _ x => x
  cases fl with
  | ret v =>
    obtain ⟨x, rx, hx⟩ := q
    have hx' : x = .bool true := hx
    subst hx'
    generalize hy : V.bool true = y at rx
    cases rx with
    | bool b => cases hy; exact ⟨h', t', m', rfl, ex, by rw [ex] at Fx; exact Fx⟩
    | _ => cases hy
  | next => exact q.elim
  | brk => exact q.elim
  | cont => exact q.elim
end
section
open PySem PySem.W PySem.Calls PyProof.Rows
set_option Elab.async false
set_option maxRecDepth 100000
set_option maxHeartbeats 8000000
theorem X : PySem.Challenge.rw_sj0089_01.Holds := by
  refine hdQ ?_
  generalize hdLo = lo0
  suffices H : (let q0 := qv; WalkO q0 lo0 (XL q0 []) HkK.says PySem.Challenge.rw_sj0089_01.row.toRowW lawR [] (fun f vs => PySem.call f vs)) from H
  intro q0
  intro w s₀ s₁ mg mb G Y fa o pm cd doc dV kV ho hd hcd hD hmg hg args vals as hpre hlay hrd hwl hlo
  have KX := kIn_of Y
  k_behind G ho hd hcd hD hmg hpre hlay hrd hwl hlo cd
  rename_i is _ _ _ _ _ _ _ l vs _ hlist _ _ _ hI _ hc _ K0 h₁ F N0
  refine wpAny_mono (law_runs (by assumption) (by assumption) hlist hI (by omega) F) (fun fl s' h => ?_) (fun e s' h => h.elim)
  obtain ⟨h', t', m', rfl, rfl, Fx⟩ := h
  dsimp only
  exact goodW_bool Fx (by assumption) (raisesW_false (by wrow_none_raised)) (by wrow_post)
end
end Mine
end
theorem PySem.Challenge.cw_sj0089_01_holds : PySem.Challenge.rw_sj0089_01.Holds :=
  Mine.X
