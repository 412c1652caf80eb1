import PyProof.Rows.All
import Wide.All
import OpenK.AllK
import Wide.FinOn
import PySem.Challenge.RW_nt0433_01

set_option linter.all false
set_option genSizeOf false
set_option genSizeOfSpec false

section
open PySem PySem.W PyProof.Rows
set_option Elab.async false
set_option autoImplicit false
set_option maxRecDepth 100000
set_option maxHeartbeats 0

namespace Mz

/-! ### the top, run once by the kernel -/

noncomputable abbrev pw : Program := PySem.Challenge.pw_nt0433_01
noncomputable def topS (i : Nat) : Option Stmt := pw.main.body[i]?
noncomputable def metS (i j : Nat) : Option Stmt := match pw.main.body[i]? with
  | some (.ClassDef _ _ _ b _ _ _ _ _ _ _) => b[j]?
  | _ => none
noncomputable def fO (s : Option Stmt) (q m : Str) (t : Tok) (c : Addr) : Obj := match s with
  | some (.FunctionDef n a b _ _ _ sc _ _ _) => { cls := .type "function", data := .func { name := n, qualname := q, params := a, body := .stmts b, scope := sc, globals := 3, closure := [], defaults := .none, kwdefaults := .none, pyModule := .str m t, code := .ref c } }
  | _ => default
noncomputable def cO (n : Str) (t1 : Tok) (q : Str) (t2 t3 : Tok) (l ac : Int) (r1 r2 r3 r4 r5 r6 : Value) (x : Int) (t4 : Tok) : Obj :=
  { cls := .type "code", data := .fields #[.str n t1, .str q t2, .str "/claim/cut.py" t3, .int l 0, .int ac 0, .int 0 0, .int 0 0, .int 3 0, r1, .bool true, .int 181 0, r2, r3, r4, r5, r6, .int x 0, .int l 0, .str "/claim/cut.py" t4] }
noncomputable def eD (P : Params) (x : Str) (t : Tok) (v : Value) : DictEntry := ⟨PyData.keyHash P x, .str x t, v⟩
noncomputable def dO (n : Nat) (es : List DictEntry) : Obj := { cls := .type "dict", data := .dict es.toArray n }
noncomputable def tO (vs : List Value) : Obj := { cls := .type "tuple", data := .seq vs.toArray 0 }
noncomputable def kO (n : Str) (a ns : Addr) (q : Str) (sl : List Value) : Obj :=
  { cls := .type "type", data := .cls { name := n, bases := [.type "object"], mro := [.ref a, .type "object"], ns := ns, qualname := q }, slots := (sl.map fun v => match v with | .none => none | v => some v).toArray }

noncomputable def KK (P : Params) : Frag := [
  (3, dO 54 [eD P "__name__" 165 (.str "law_nt0433_01" 659), eD P "__doc__" 166 (.none), eD P "__package__" 167 (.none), eD P "__loader__" 168 (.builtin "__main__.__loader__#opaque"), eD P "__spec__" 169 (.none), eD P "__annotations__" 170 (.ref 6), eD P "__builtins__" 171 (.ref 4), eD P "__file__" 173 (.str "/claim/cut.py" 172), eD P "__cached__" 174 (.none), eD P "_wall" 193 (.ref 21), eD P "WHITE" 197 (.int 0 196), eD P "BLACK" 199 (.int 1 198), eD P "PAWN" 201 (.int 1 200), eD P "KING" 203 (.int 6 202), eD P "EMPTY" 205 (.int 0 204), eD P "side_of" 212 (.ref 28), eD P "kind_of" 219 (.ref 35), eD P "WORD" 227 (.int 18446744073709551615 226), eD P "STAR" 229 (.int 2685821657736338717 228), eD P "Random" 281 (.ref 73), eD P "Zobrist" 318 (.ref 94), eD P "draw_row" 328 (.ref 105), eD P "rights_row" 339 (.ref 112), eD P "make_zobrist" 352 (.ref 119), eD P "state_key" 361 (.ref 126), eD P "full_key" 372 (.ref 133), eD P "pawn_key" 383 (.ref 140), eD P "non_pawn_key" 395 (.ref 147), eD P "material_key" 406 (.ref 154), eD P "ChessError" 437 (.ref 171), eD P "STEP_FILES" 451 (.ref 175), eD P "STEP_RANKS" 463 (.ref 176), eD P "Geometry" 508 (.ref 193), eD P "is_growing" 515 (.ref 204), eD P "add_masks" 526 (.ref 211), eD P "inner_squares" 535 (.ref 218), eD P "add_rays" 549 (.ref 225), eD P "add_pawns" 557 (.ref 232), eD P "add_knights" 574 (.ref 239), eD P "add_castles" 587 (.ref 246), eD P "make_geometry" 598 (.ref 253), eD P "Position" 641 (.ref 270), eD P "put_piece" 651 (.ref 281), eD P "settle_key" 658 (.ref 288), eD P "_law_shapes" 666 (.ref 295), eD P "_law_kinds" 677 (.ref 296), eD P "_law_at" 685 (.ref 303), eD P "_law_xor" 694 (.ref 310), eD P "_law_drawn" 700 (.ref 315), eD P "_law_place" 706 (.ref 320), eD P "_law_position" 720 (.ref 327), eD P "_law_told" 726 (.ref 332), eD P "_law_alike" 732 (.ref 337), eD P "law" 738 (.ref 342)]),
  (27, cO "side_of" 206 "side_of" 207 208 10 1 (.ref 22) (.ref 23) (.none) (.ref 24) (.ref 25) (.ref 26) 210 211),
  (28, fO (topS 7) "side_of" "chess.kinds" 194 27),
  (34, cO "kind_of" 213 "kind_of" 214 215 12 1 (.ref 29) (.ref 30) (.none) (.ref 31) (.ref 32) (.ref 33) 217 218),
  (35, fO (topS 8) "kind_of" "chess.kinds" 194 34),
  (48, cO "__init__" 242 "Random.__init__" 243 244 19 2 (.ref 43) (.ref 44) (.none) (.ref 45) (.ref 46) (.ref 47) 247 248),
  (49, fO (metS 12 0) "Random.__init__" "chess.rng" 220 48),
  (55, cO "next" 250 "Random.next" 251 252 24 1 (.ref 50) (.ref 51) (.none) (.ref 52) (.ref 53) (.ref 54) 255 256),
  (56, fO (metS 12 1) "Random.next" "chess.rng" 220 55),
  (72, dO 4 [eD P "__module__" 237 (.str "chess.rng" 220), eD P "__firstlineno__" 241 (.int 17 240), eD P "__init__" 249 (.ref 49), eD P "next" 257 (.ref 56), eD P "sparse" 264 (.ref 63), eD P "below" 272 (.ref 70), eD P "__static_attributes__" 274 (.ref 71), eD P "__dict__" 276 (.ref 74), eD P "__weakref__" 278 (.ref 75), eD P "__doc__" 279 (.none)]),
  (73, kO "Random" 73 72 "Random" [.none, .none, .str "Random" 230, .str "Random" 238, .builtin "object.__new__", .bool true]),
  (90, cO "__init__" 296 "Zobrist.__init__" 297 298 40 5 (.ref 85) (.ref 86) (.none) (.ref 87) (.ref 88) (.ref 89) 304 305),
  (91, fO (metS 14 0) "Zobrist.__init__" "chess.zobrist" 282 90),
  (93, dO 4 [eD P "__module__" 291 (.str "chess.zobrist" 282), eD P "__firstlineno__" 295 (.int 38 294), eD P "__init__" 306 (.ref 91), eD P "__static_attributes__" 311 (.ref 92), eD P "__dict__" 313 (.ref 95), eD P "__weakref__" 315 (.ref 96), eD P "__doc__" 316 (.none)]),
  (94, kO "Zobrist" 94 93 "Zobrist" [.none, .none, .str "Zobrist" 284, .str "Zobrist" 292, .builtin "object.__new__", .bool true]),
  (104, cO "draw_row" 319 "draw_row" 320 321 45 2 (.ref 99) (.ref 100) (.none) (.ref 101) (.ref 102) (.ref 103) 326 327),
  (105, fO (topS 15) "draw_row" "chess.zobrist" 282 104),
  (111, cO "rights_row" 329 "rights_row" 330 331 50 1 (.ref 106) (.ref 107) (.none) (.ref 108) (.ref 109) (.ref 110) 337 338),
  (112, fO (topS 16) "rights_row" "chess.zobrist" 282 111),
  (118, cO "make_zobrist" 340 "make_zobrist" 341 342 59 2 (.ref 113) (.ref 114) (.none) (.ref 115) (.ref 116) (.ref 117) 350 351),
  (119, fO (topS 17) "make_zobrist" "chess.zobrist" 282 118),
  (125, cO "state_key" 353 "state_key" 354 355 70 1 (.ref 120) (.ref 121) (.none) (.ref 122) (.ref 123) (.ref 124) 359 360),
  (126, fO (topS 18) "state_key" "chess.zobrist" 282 125),
  (132, cO "full_key" 362 "full_key" 363 364 78 1 (.ref 127) (.ref 128) (.none) (.ref 129) (.ref 130) (.ref 131) 370 371),
  (133, fO (topS 19) "full_key" "chess.zobrist" 282 132),
  (139, cO "pawn_key" 373 "pawn_key" 374 375 87 1 (.ref 134) (.ref 135) (.none) (.ref 136) (.ref 137) (.ref 138) 381 382),
  (140, fO (topS 20) "pawn_key" "chess.zobrist" 282 139),
  (146, cO "non_pawn_key" 384 "non_pawn_key" 385 386 96 2 (.ref 141) (.ref 142) (.none) (.ref 143) (.ref 144) (.ref 145) 393 394),
  (147, fO (topS 21) "non_pawn_key" "chess.zobrist" 282 146),
  (153, cO "material_key" 396 "material_key" 397 398 105 1 (.ref 148) (.ref 149) (.none) (.ref 150) (.ref 151) (.ref 152) 404 405),
  (154, fO (topS 22) "material_key" "chess.zobrist" 282 153),
  (175, tO [.int 0 440, .int 1 441, .int 0 442, .int (-1) 444, .int 1 445, .int 1 446, .int (-1) 448, .int (-1) 450]),
  (176, tO [.int 1 452, .int 0 453, .int (-1) 455, .int 0 456, .int 1 457, .int (-1) 459, .int (-1) 461, .int 1 462]),
  (189, cO "__init__" 476 "Geometry.__init__" 477 478 125 5 (.ref 184) (.ref 185) (.none) (.ref 186) (.ref 187) (.ref 188) 484 485),
  (190, fO (metS 28 0) "Geometry.__init__" "chess.geometry" 438 189),
  (192, dO 4 [eD P "__module__" 471 (.str "chess.geometry" 438), eD P "__firstlineno__" 475 (.int 123 474), eD P "__init__" 486 (.ref 190), eD P "__static_attributes__" 501 (.ref 191), eD P "__dict__" 503 (.ref 194), eD P "__weakref__" 505 (.ref 195), eD P "__doc__" 506 (.none)]),
  (193, kO "Geometry" 193 192 "Geometry" [.none, .none, .str "Geometry" 464, .str "Geometry" 472, .builtin "object.__new__", .bool true]),
  (203, cO "is_growing" 509 "is_growing" 510 511 140 1 (.ref 198) (.ref 199) (.none) (.ref 200) (.ref 201) (.ref 202) 513 514),
  (204, fO (topS 29) "is_growing" "chess.geometry" 438 203),
  (210, cO "add_masks" 516 "add_masks" 517 518 142 1 (.ref 205) (.ref 206) (.none) (.ref 207) (.ref 208) (.ref 209) 524 525),
  (211, fO (topS 30) "add_masks" "chess.geometry" 438 210),
  (217, cO "inner_squares" 527 "inner_squares" 528 529 150 2 (.ref 212) (.ref 213) (.none) (.ref 214) (.ref 215) (.ref 216) 533 534),
  (218, fO (topS 31) "inner_squares" "chess.geometry" 438 217),
  (224, cO "add_rays" 536 "add_rays" 537 538 161 1 (.ref 219) (.ref 220) (.none) (.ref 221) (.ref 222) (.ref 223) 547 548),
  (225, fO (topS 32) "add_rays" "chess.geometry" 438 224),
  (231, cO "add_pawns" 550 "add_pawns" 551 552 176 1 (.ref 226) (.ref 227) (.none) (.ref 228) (.ref 229) (.ref 230) 555 556),
  (232, fO (topS 33) "add_pawns" "chess.geometry" 438 231),
  (238, cO "add_knights" 558 "add_knights" 559 560 180 1 (.ref 233) (.ref 234) (.none) (.ref 235) (.ref 236) (.ref 237) 572 573),
  (239, fO (topS 34) "add_knights" "chess.geometry" 438 238),
  (245, cO "add_castles" 575 "add_castles" 576 577 192 1 (.ref 240) (.ref 241) (.none) (.ref 242) (.ref 243) (.ref 244) 585 586),
  (246, fO (topS 35) "add_castles" "chess.geometry" 438 245),
  (252, cO "make_geometry" 588 "make_geometry" 589 590 209 4 (.ref 247) (.ref 248) (.none) (.ref 249) (.ref 250) (.ref 251) 596 597),
  (253, fO (topS 36) "make_geometry" "chess.geometry" 438 252),
  (266, cO "__init__" 613 "Position.__init__" 614 615 222 3 (.ref 261) (.ref 262) (.none) (.ref 263) (.ref 264) (.ref 265) 619 620),
  (267, fO (metS 38 0) "Position.__init__" "chess.position" 599 266),
  (269, dO 4 [eD P "__module__" 608 (.str "chess.position" 599), eD P "__firstlineno__" 612 (.int 220 611), eD P "__init__" 621 (.ref 267), eD P "__static_attributes__" 634 (.ref 268), eD P "__dict__" 636 (.ref 271), eD P "__weakref__" 638 (.ref 272), eD P "__doc__" 639 (.none)]),
  (270, kO "Position" 270 269 "Position" [.none, .none, .str "Position" 601, .str "Position" 609, .builtin "object.__new__", .bool true]),
  (280, cO "put_piece" 642 "put_piece" 643 644 235 3 (.ref 275) (.ref 276) (.none) (.ref 277) (.ref 278) (.ref 279) 649 650),
  (281, fO (topS 39) "put_piece" "chess.position" 599 280),
  (287, cO "settle_key" 652 "settle_key" 653 654 241 1 (.ref 282) (.ref 283) (.none) (.ref 284) (.ref 285) (.ref 286) 656 657),
  (288, fO (topS 40) "settle_key" "chess.position" 599 287),
  (294, cO "_law_shapes" 661 "_law_shapes" 662 663 244 0 (.ref 289) (.ref 290) (.none) (.ref 291) (.ref 292) (.ref 293) 664 665),
  (295, fO (topS 42) "_law_shapes" "law_nt0433_01" 659 294),
  (296, tO [.int 1 667, .int 2 668, .int 3 669, .int 4 670, .int 5 671, .int 9 672, .int 10 673, .int 11 674, .int 12 675, .int 13 676]),
  (302, cO "_law_at" 678 "_law_at" 679 680 247 2 (.ref 297) (.ref 298) (.none) (.ref 299) (.ref 300) (.ref 301) 683 684),
  (303, fO (topS 44) "_law_at" "law_nt0433_01" 659 302),
  (309, cO "_law_xor" 686 "_law_xor" 687 688 249 1 (.ref 304) (.ref 305) (.none) (.ref 306) (.ref 307) (.ref 308) 692 693),
  (310, fO (topS 45) "_law_xor" "law_nt0433_01" 659 309),
  (314, cO "_law_drawn" 695 "_law_drawn" 696 697 254 4 (.ref 311) (.ref 312) (.none) (.none) (.none) (.ref 313) 698 699),
  (315, fO (topS 46) "_law_drawn" "law_nt0433_01" 659 314),
  (319, cO "_law_place" 701 "_law_place" 702 703 271 3 (.ref 316) (.ref 317) (.none) (.none) (.none) (.ref 318) 704 705),
  (320, fO (topS 47) "_law_place" "law_nt0433_01" 659 319),
  (326, cO "_law_position" 707 "_law_position" 708 709 277 5 (.ref 321) (.ref 322) (.none) (.ref 323) (.ref 324) (.ref 325) 718 719),
  (327, fO (topS 48) "_law_position" "law_nt0433_01" 659 326),
  (331, cO "_law_told" 721 "_law_told" 722 723 289 4 (.ref 328) (.ref 329) (.none) (.none) (.none) (.ref 330) 724 725),
  (332, fO (topS 49) "_law_told" "law_nt0433_01" 659 331),
  (336, cO "_law_alike" 727 "_law_alike" 728 729 307 5 (.ref 333) (.ref 334) (.none) (.none) (.none) (.ref 335) 730 731),
  (337, fO (topS 50) "_law_alike" "law_nt0433_01" 659 336),
  (341, cO "law" 733 "law" 734 735 320 1 (.ref 338) (.ref 339) (.none) (.none) (.none) (.ref 340) 736 737),
  (342, fO (topS 51) "law" "law_nt0433_01" 659 341)]
noncomputable def asK : List Addr := [3, 27, 28, 34, 35, 48, 49, 55, 56, 72, 73, 90, 91, 93, 94, 104, 105, 111, 112, 118, 119, 125, 126, 132, 133, 139, 140, 146, 147, 153, 154, 175, 176, 189, 190, 192, 193, 203, 204, 210, 211, 217, 218, 224, 225, 231, 232, 238, 239, 245, 246, 252, 253, 266, 267, 269, 270, 280, 281, 287, 288, 294, 295, 296, 302, 303, 309, 310, 314, 315, 319, 320, 326, 327, 331, 332, 336, 337, 341, 342]
noncomputable def vw : Program := PySem.W.view pw [0, 2, 3, 4, 5, 6, 7, 8, 10, 11, 12, 14, 15, 16, 17, 18, 19, 20, 21, 22, 24, 26, 27, 28, 29, 30, 31, 32, 33, 34, 35, 36, 38, 39, 40, 42, 43, 44, 45, 46, 47, 48, 49, 50, 51]
noncomputable def hk : Hook := kHook KK asK (fun _ => by kernel_rfl)
noncomputable def looseK : List Str := [Str.ofString "WORD"]
noncomputable def lvK : List (Str × WData) := [(Str.ofString "WORD", WData.int 18446744073709551615)]

theorem left_boot {p q : Program} {loose : List Str} {Xt : Shared → Bool} {α : Type} {Yf : Shared → α} {Ya : World → α} {N : Nat} {H₀ : Params → Heap} {gs₀ : Array GenState} {d₀ : Drawn} {k₀ : Nat}
    (open_ : ∀ w : World, (fencedOpening treeTable p w N).map (fun s => (s.heap, s.gens, s.drawn, s.toks)) = some (H₀ w.params, gs₀, d₀, k₀))
    (go : ∀ (w : World) (os : OsState), (topFrom treeTable p w N ⟨H₀ w.params, gs₀, d₀, k₀, os⟩).map (fun s => (openSeen q loose (importedModules p.main.body) Xt true s, Yf s)) = some (openGood q loose, Ya w)) :
    LeftO p q loose Xt Yf Ya N := fun w => by
  obtain ⟨⟨h, gs, d, k, os⟩, e, e'⟩ := Option.map_eq_some_iff.mp (open_ w)
  obtain ⟨rfl, rfl, rfl, rfl⟩ : h = H₀ w.params ∧ gs = gs₀ ∧ d = d₀ ∧ k = k₀ := by simpa using e'
  unfold openEnds
  rw [e]
  exact go w os

theorem my_open (w : World) : (fencedOpening treeTable pw w 4930).map (fun s => (s.heap, s.gens, s.drawn, s.toks)) = some (boot_heap w.params, Array.mk [], boot_drawn, boot_toks) :=
  boot_open (p := pw) (by kernel_rfl) (by decide) (fun s => by kernel_rfl) w

theorem my_go (w : World) (os : OsState) : (topFrom treeTable pw w 4930 ⟨boot_heap w.params, Array.mk [], boot_drawn, boot_toks, os⟩).map
    (fun s => (openSeen vw looseK (importedModules pw.main.body) (fun s => xlAt vw lvK s && recOk (RowW.records (OpenRow.toRowW PySem.Challenge.rw_nt0433_01.row)) s) true s, Hook.obs hk s)) = some (openGood vw looseK, Hook.val hk w) := by
  unfold topFrom openSeen openGood
  simp only [PySem.W.Fast.te5160383126252970620, PySem.W.Fast.te3399658132070893891, PySem.W.Fast.te5991557255702980513, PySem.W.Fast.te10880121769531294198, PySem.W.Fast.te821141287760084731, PySem.W.Fast.te7409074990110511671, PySem.W.Fast.te13664370479719496447, PySem.W.Fast.te14722251495701143533, PySem.W.Fast.te5923862056798008813, PySem.W.Fast.te10994771534591457954, PySem.W.Fast.te479339242167458305, PySem.W.Fast.te16090120013241838585, PySem.W.Fast.te3247288618530077131, PySem.W.Fast.te2386780881361962483, PySem.W.Fast.te11698064438423848299, PySem.W.Fast.te7317090234206586261, PySem.W.Fast.te7369524293546568484, PySem.W.Fast.te14082659384304107361, PySem.W.Fast.te14364793385576792824, PySem.W.Fast.te8920871248978507458]
  kernel_rfl

noncomputable def lawD : DefRec := ((defOf vw ("law" : Str)).map (·.1)).getD ⟨"law", ⟨[], [], none, [], [], none, []⟩, [], ⟨.function, [], false, false, []⟩, ⟨0, 0, 0, 0⟩⟩
theorem law_def : defOf vw PySem.Challenge.rw_nt0433_01.row.name = some (lawD, []) := by kernel_rfl
theorem law_is : PySem.Challenge.rw_nt0433_01.row.prog.theDef PySem.Challenge.rw_nt0433_01.row.name = some (lawD.params, lawD.body, lawD.scope) := by kernel_rfl
theorem law_kw : kwWritten? lawD.params.kwonlyargs lawD.params.kw_defaults = some [] := by kernel_rfl
theorem law_ok : (chainsOk vw && opensWell PySem.Challenge.rw_nt0433_01.row.prog && (frees (OpenRow.toRowW PySem.Challenge.rw_nt0433_01.row) && PySem.Challenge.rw_nt0433_01.row.within.isEmpty)) = true := by kernel_rfl
theorem law_bare : PySem.Challenge.rw_nt0433_01.row.prog.bare := ⟨rfl, rfl, rfl, rfl, rfl, by decide +kernel⟩
theorem law_said : PySem.Challenge.rw_nt0433_01.wellSaid = true := by kernel_rfl
theorem law_wit : (OpenRow.toRowW PySem.Challenge.rw_nt0433_01.row).promised := by w_witness2

theorem head (call : WalkO vw looseK (XL vw lvK) (Hook.says hk) (OpenRow.toRowW PySem.Challenge.rw_nt0433_01.row) lawD [] fun f vs => PySem.call f vs) : PySem.Challenge.rw_nt0433_01.Holds :=
  holds_law law_said fun said =>
    holds_open (q := vw) (loose := looseK) (Xt := fun s => xlAt vw lvK s && recOk (RowW.records (OpenRow.toRowW PySem.Challenge.rw_nt0433_01.row)) s) (XP := XL vw lvK) (Yf := Hook.obs hk) (Ya := Hook.val hk) (YP := Hook.says hk) (N := 4930)
      (left_boot my_open my_go) (Hook.of hk) (Hook.keeps hk) (fun s e => xl_of s (Bool.and_eq_true_iff.mp e).1) XL.keeps law_def law_is law_kw (fun s e => recFacts_of (Bool.and_eq_true_iff.mp e).2) (by rfl) said law_ok law_bare law_wit call

end Mz
end

section
open PySem PySem.W PyProof.Rows
set_option Elab.async false

set_option tactic.hygienic false
set_option genSizeOf false
set_option genSizeOfSpec false
namespace Mz

inductive V where
  | none | bool (b : Bool) | int (i : Int) | ref (k : Nat)
  deriving DecidableEq

inductive O where
  | list (vs : List V)
  | tup (vs : List V)
  | rng (a c : Int) (n : Nat)
  | inst (c : Nat) (fs : List (Nat × V))
  /-- a list that is only cut -/
  | ro (vs : List V)

noncomputable abbrev Hp := List O
noncomputable abbrev Loc := List (Option V)

inductive Bop where
  | add | sub | mul | fdiv | mod | pow | shl | shr | band | bor | bxor
  deriving DecidableEq
inductive Cop where
  | eq | ne | lt | le | gt | ge
  deriving DecidableEq

set_option genInjectivity false in
mutual
inductive X where
  | lit (v : V)
  | loc (i : Nat)
  | bin (op : Bop) (l r : X)
  | neg (e : X)
  | inv (e : X)
  | not (e : X)
  | and (l r : X)
  | or (l r : X)
  | cmp (op : Cop) (l r : X)
  | cmp2 (o1 o2 : Cop) (l m r : X)
  | mem (pos : Bool) (e : X) (ks : List Int)
  | ite (c t e : X)
  | call (f : Nat) (as : Xs)
  | new (c : Nat) (as : Xs)
  | meth (o : X) (m : Nat) (as : Xs)
  | len (e : X)
  | listOf (e : X)
  | sorted (e : X)
  | rng1 (b : X)
  | rng2 (a b : X)
  | rng3 (a b c : X)
  | append (l x : X)
  | count (l x : X)
  | attr (o : X) (a : Nat)
  | idx (o i : X)
  | slTo (o hi : X)
  | slFrom (o lo : X)
  | slBt (o lo hi : X)
  | rev (o : X)
  | list (es : Xs)
  | tup (es : Xs)
  | comp (e it : X)
  | compIf (e it c : X)
inductive Xs where
  | nil
  | cons (e : X) (es : Xs)
end

set_option genInjectivity false in
mutual
inductive S where
  | asn (i : Nat) (e : X)
  | asn2 (i j : Nat) (e : X)
  | setattr (o : X) (a : Nat) (e : X)
  | setidx (o i e : X)
  | aug (i : Nat) (op : Bop) (e : X)
  | augidx (o i : X) (op : Bop) (e : X)
  | augattr (o : X) (a : Nat) (op : Bop) (e : X)
  | ite (c : X) (t f : B)
  | loop (x : Nat) (it : X) (b : B)
  | ret (e : X)
  | expr (e : X)
  | fail
inductive B where
  | nil
  | cons (s : S) (b : B)
end

structure Fn where
  nargs : Nat
  nslots : Nat
  body : B

structure Tab where
  fn : Nat → Option Fn
  init : Nat → Option Nat
  meth : Nat → Nat → Option Nat

noncomputable abbrev FnT := Nat → List V → Hp → Option (V × Hp)

/-! ## operations -/

noncomputable def opI : Bop → Int → Int → Option Int
  | .add, a, b => some (a + b)
  | .sub, a, b => some (a - b)
  | .mul, a, b => if a.natAbs < 2 ^ 64 then some (a * b) else none
  | .fdiv, a, b => if b ≠ 0 ∧ b.natAbs < 1073741824 then some (a.fdiv b) else none
  | .mod, a, b => if b = 0 then none else some (a.fmod b)
  | .pow, a, b => if 0 ≤ b ∧ b ≤ 1000 ∧ a.natAbs < 2 ^ 64 then some (a ^ b.toNat) else none
  | .shl, a, b => if 0 ≤ b ∧ b ≤ 1000000 ∧ a.natAbs < 2 ^ 64 then some (a * 2 ^ b.toNat) else none
  | .shr, a, b => if 0 ≤ b then some (a.fdiv (2 ^ b.toNat)) else none
  | .band, a, b => some (Builtin.bitAnd a b)
  | .bor, a, b => some (Builtin.bitOr a b)
  | .bxor, a, b => some (Builtin.bitXor a b)

noncomputable def getL : Hp → V → Option (List V)
  | h, .ref k => match h[k]? with | some (.list vs) => some vs | _ => none
  | _, _ => none

noncomputable def getR : Hp → V → Option (List V)
  | h, .ref k => match h[k]? with | some (.list vs) => some vs | some (.ro vs) => some vs | _ => none
  | _, _ => none

noncomputable def ints? : List V → Option (List Int)
  | [] => some []
  | .int i :: r => (ints? r).map (i :: ·)
  | _ :: _ => none

noncomputable def opV (op : Bop) : V → V → Hp → Option (V × Hp)
  | .int a, .int b, h => (opI op a b).map fun c => (.int c, h)
  | .ref a, .ref b, h => match op, h[a]?, h[b]? with
    | .add, some (.list vs), some (.list ws) => if vs.length + ws.length ≤ 1000 then some (.ref h.length, h ++ [.list (vs ++ ws)]) else none
    | .add, some (.tup vs), some (.tup ws) => if vs.length + ws.length ≤ 1000 ∧ vs.length ≠ 0 ∧ ws.length ≠ 0 then some (.ref h.length, h ++ [.tup (vs ++ ws)]) else none
    | _, _, _ => none
  | .ref a, .int n, h => match op, h[a]? with
    | .mul, some (.list [v]) => match v with
      | .int i => if 0 ≤ n ∧ n ≤ 1000 then some (.ref h.length, h ++ [.list (List.replicate n.toNat (.int i))]) else none
      | _ => none
    | _, _ => none
  | _, _, _ => none

noncomputable def cmpI : Cop → Int → Int → Bool
  | .eq, a, b => decide (a = b)
  | .ne, a, b => !decide (a = b)
  | .lt, a, b => decide (a < b)
  | .le, a, b => decide (a ≤ b)
  | .gt, a, b => decide (a > b)
  | .ge, a, b => decide (a ≥ b)

mutual
noncomputable def dataOf : Nat → Hp → V → Option PyData
  | 0, _, _ => none
  | n + 1, h, v => match v with
    | .int i => some (.int i)
    | .ref k => match h[k]? with
      | some (.list vs) => (dataAll n h vs).map PyData.list
      | _ => none
    | _ => none
noncomputable def dataAll : Nat → Hp → List V → Option (List PyData)
  | 0, _, _ => none
  | _ + 1, _, [] => some []
  | n + 1, h, v :: vs => match dataOf n h v, dataAll n h vs with
    | some d, some ds => some (d :: ds)
    | _, _ => none
end

noncomputable def cmpV (op : Cop) : V → V → Hp → Option Bool
  | .int a, .int b, _ => some (cmpI op a b)
  | .bool a, .bool b, _ => match op with
    | .eq => some (a == b)
    | .ne => some (!(a == b))
    | _ => none
  | .ref a, .ref b, h => match op, dataOf 60 h (.ref a), dataOf 60 h (.ref b) with
    | .eq, some d, some e => some (PyData.eqv d e)
    | .ne, some d, some e => some (!PyData.eqv d e)
    | _, _, _ => none
  | _, _, _ => none

noncomputable def truthy : V → Option Bool
  | .none => some false
  | .bool b => some b
  | .int i => some (decide (i ≠ 0))
  | .ref _ => none

noncomputable def insertI (x : Int) : List Int → List Int
  | [] => [x]
  | y :: r => if x ≤ y then x :: y :: r else y :: insertI x r
noncomputable def sortI : List Int → List Int
  | [] => []
  | x :: r => insertI x (sortI r)

noncomputable def lookupA (a : Nat) : List (Nat × V) → Option V
  | [] => none
  | (b, v) :: r => if a = b then some v else lookupA a r
noncomputable def storeA (a : Nat) (v : V) : List (Nat × V) → List (Nat × V)
  | [] => [(a, v)]
  | (b, w) :: r => if a = b then (b, v) :: r else (b, w) :: storeA a v r

noncomputable def rngLen (a b c : Int) : Nat :=
  if c > 0 then (if a < b then ((b - a - 1) / c + 1).toNat else 0)
  else if c < 0 then (if b < a then ((a - b - 1) / (-c) + 1).toNat else 0)
  else 0

inductive It where
  | lst (k : Nat)
  | tup (k : Nat)
  | rng (a c : Int) (n : Nat)
noncomputable def itOf (h : Hp) : V → Option It
  | .ref k => match h[k]? with
    | some (.list _) => some (.lst k)
    | some (.tup _) => some (.tup k)
    | some (.rng a c n) => some (.rng a c n)
    | _ => none
  | _ => none
noncomputable def lenIt (h : Hp) : It → Option Nat
  | .lst k => match h[k]? with
    | some (.list vs) => some vs.length
    | _ => none
  | .tup k => match h[k]? with
    | some (.tup vs) => some vs.length
    | _ => none
  | .rng _ _ n => some n
noncomputable def itemAt (h : Hp) : It → Nat → Option V
  | .lst k, i => match h[k]? with
    | some (.list vs) => vs[i]?
    | _ => none
  | .tup k, i => match h[k]? with
    | some (.tup vs) => vs[i]?
    | _ => none
  | .rng a c n, i => if i < n then some (.int (a + i * c)) else none

noncomputable def getIdx (h : Hp) : V → V → Option V
  | .ref k, .int i => if 0 ≤ i then (match h[k]? with
      | some (.list vs) => if vs.length ≤ 1000 then vs[i.toNat]? else none
      | some (.tup vs) => if vs.length ≤ 1000 then vs[i.toNat]? else none
      | _ => none) else none
  | _, _ => none
noncomputable def setIdx (h : Hp) : V → V → V → Option Hp
  | .ref k, .int i, v => if 0 ≤ i then (match h[k]? with
      | some (.list vs) => if i < vs.length ∧ vs.length ≤ 1000 then some (h.set k (.list (vs.set i.toNat v))) else none
      | _ => none) else none
  | _, _, _ => none
noncomputable def getA (h : Hp) : V → Nat → Option V
  | .ref k, a => match h[k]? with
    | some (.inst _ fs) => lookupA a fs
    | _ => none
  | _, _ => none
noncomputable def setA (h : Hp) : V → Nat → V → Option Hp
  | .ref k, a, v => match h[k]? with
    | some (.inst c fs) => if fs.length ≤ 100 then some (h.set k (.inst c (storeA a v fs))) else none
    | _ => none
  | _, _, _ => none
noncomputable def cutL {α : Type} (vs : List α) (lo hi : Option Int) : List α := (hi.elim vs fun y => vs.take y.toNat).drop (lo.elim 0 Int.toNat)
noncomputable def cut (h : Hp) (o : V) (lo hi : Option Int) : Option (V × Hp) :=
  match getR h o with
  | some vs => if (lo.all fun x => decide (0 ≤ x)) && (hi.all fun x => decide (0 ≤ x)) && decide (vs.length ≤ 1000) then some (.ref h.length, h ++ [.list (cutL vs lo hi)]) else none
  | none => none

noncomputable def asInt : V → Option Int
  | .int i => some i
  | _ => none

noncomputable def mkRng (h : Hp) (a b c : Int) : Option (V × Hp) :=
  if c ≠ 0 ∧ a.natAbs ≤ 100000 ∧ b.natAbs ≤ 100000 ∧ c.natAbs ≤ 100000 then some (.ref h.length, h ++ [.rng a c (rngLen a b c)]) else none

noncomputable def mkList (h : Hp) (v : V) : Option (V × Hp) :=
  match v with
  | .ref k => match h[k]? with
    | some (.list vs) => if vs.length ≤ 1000 then some (.ref h.length, h ++ [.list vs]) else none
    | some (.rng a c n) => if n ≤ 1000 then some (.ref h.length, h ++ [.list ((List.range n).map fun i : Nat => V.int (a + i * c))]) else none
    | _ => none
  | _ => none
noncomputable def mkSorted (h : Hp) (v : V) : Option (V × Hp) :=
  match getL h v with
  | some vs => match ints? vs with
    | some ns => if ns.length < 64 then some (.ref h.length, h ++ [.list ((sortI ns).map V.int)]) else none
    | none => none
  | none => none
noncomputable def doAppend (h : Hp) (l v : V) : Option (V × Hp) :=
  match l with
  | .ref k => match h[k]? with
    | some (.list vs) => if vs.length ≤ 1000 then some (.none, h.set k (.list (vs ++ [v]))) else none
    | _ => none
  | _ => none
noncomputable def doCount (h : Hp) (l v : V) : Option V :=
  match getL h l, v with
  | some vs, .int k => (ints? vs).map fun ns => V.int (ns.count k : Nat)
  | _, _ => none
noncomputable def doLen (h : Hp) (l : V) : Option V :=
  match getL h l with
  | some vs => if vs.length ≤ 1000 then some (V.int vs.length) else none
  | none => none

/-! ## loops -/

noncomputable def compGo (f : V → Hp → Option (Option V × Hp)) (it : It) : Nat → Nat → Hp → Option (List V × Hp)
  | 0, i, h => if lenIt h it = some i then some ([], h) else none
  | n + 1, i, h => match itemAt h it i with
    | some v => match f v h with
      | some (r, h₁) => match compGo f it n (i + 1) h₁ with
        | some (vs, h₂) => some (match r with | some x => x :: vs | none => vs, h₂)
        | none => none
      | none => none
    | none => none
noncomputable def compAll (f : V → Hp → Option (Option V × Hp)) (v : V) (h : Hp) : Option (V × Hp) :=
  match itOf h v with
  | some it => match lenIt h it with
    | some n => if n ≤ 1000 then (match compGo f it n 0 h with
      | some (vs, h') => some (.ref h'.length, h' ++ [.list vs])
      | none => none) else none
    | none => none
  | none => none

inductive Fl where
  | next
  | ret (v : V)

noncomputable def loopGo (f : Loc → Hp → Option (Fl × Loc × Hp)) (x : Nat) (it : It) : Nat → Nat → Loc → Hp → Option (Fl × Loc × Hp)
  | 0, i, l, h => if lenIt h it = some i then some (.next, l, h) else none
  | n + 1, i, l, h => match itemAt h it i with
    | some v => match f (l.set x (some v)) h with
      | some (.next, l₁, h₁) => loopGo f x it n (i + 1) l₁ h₁
      | some (.ret v, l₁, h₁) => some (.ret v, l₁, h₁)
      | none => none
    | none => none
noncomputable def loopAll (f : Loc → Hp → Option (Fl × Loc × Hp)) (x : Nat) (v : V) (l : Loc) (h : Hp) : Option (Fl × Loc × Hp) :=
  match itOf h v with
  | some it => match lenIt h it with
    | some n => if n ≤ 1000 then loopGo f x it n 0 l h else none
    | none => none
  | none => none

/-! ## the interpreter -/

mutual
noncomputable def ev (T : Tab) (F : FnT) : X → Loc → Hp → Option (V × Hp)
  | .lit v, _, h => some (v, h)
  | .loc i, l, h => match l[i]? with
    | some (some v) => some (v, h)
    | _ => none
  | .bin op a b, l, h => match ev T F a l h with
    | some (u, h₁) => match ev T F b l h₁ with
      | some (v, h₂) => opV op u v h₂
      | none => none
    | none => none
  | .neg a, l, h => match ev T F a l h with
    | some (.int i, h₁) => some (.int (-i), h₁)
    | _ => none
  | .inv a, l, h => match ev T F a l h with
    | some (.int i, h₁) => some (.int (Builtin.bitNot i), h₁)
    | _ => none
  | .not a, l, h => match ev T F a l h with
    | some (v, h₁) => (truthy v).map fun b => (.bool !b, h₁)
    | none => none
  | .and a b, l, h => match ev T F a l h with
    | some (v, h₁) => match truthy v with
      | some true => ev T F b l h₁
      | some false => some (v, h₁)
      | none => none
    | none => none
  | .or a b, l, h => match ev T F a l h with
    | some (v, h₁) => match truthy v with
      | some true => some (v, h₁)
      | some false => ev T F b l h₁
      | none => none
    | none => none
  | .cmp op a b, l, h => match ev T F a l h with
    | some (u, h₁) => match ev T F b l h₁ with
      | some (v, h₂) => (cmpV op u v h₂).map fun r => (.bool r, h₂)
      | none => none
    | none => none
  | .cmp2 o1 o2 a b c, l, h => match ev T F a l h with
    | some (u, h₁) => match ev T F b l h₁ with
      | some (v, h₂) => match cmpV o1 u v h₂ with
        | some true => match ev T F c l h₂ with
          | some (w, h₃) => (cmpV o2 v w h₃).map fun r => (.bool r, h₃)
          | none => none
        | some false => some (.bool false, h₂)
        | none => none
      | none => none
    | none => none
  | .mem p a ks, l, h => match ev T F a l h with
    | some (.int i, h₁) => some (.bool (if p then ks.contains i else !ks.contains i), h₁)
    | _ => none
  | .ite c a b, l, h => match ev T F c l h with
    | some (v, h₁) => match truthy v with
      | some true => ev T F a l h₁
      | some false => ev T F b l h₁
      | none => none
    | none => none
  | .call f as, l, h => match evs T F as l h with
    | some (vs, h₁) => F f vs h₁
    | none => none
  | .new c as, l, h => match evs T F as l h with
    | some (vs, h₁) => match T.init c with
      | some f => match F f (.ref h₁.length :: vs) (h₁ ++ [.inst c []]) with
        | some (.none, h₂) => some (.ref h₁.length, h₂)
        | _ => none
      | none => none
    | none => none
  | .meth o m as, l, h => match ev T F o l h with
    | some (.ref k, h₁) => match h₁[k]? with
      | some (.inst c fs) => match lookupA m fs, T.meth c m with
        | none, some f => match evs T F as l h₁ with
          | some (vs, h₂) => F f (.ref k :: vs) h₂
          | none => none
        | _, _ => none
      | _ => none
    | _ => none
  | .len a, l, h => match ev T F a l h with
    | some (v, h₁) => (doLen h₁ v).map fun r => (r, h₁)
    | none => none
  | .listOf a, l, h => match ev T F a l h with
    | some (v, h₁) => mkList h₁ v
    | none => none
  | .sorted a, l, h => match ev T F a l h with
    | some (v, h₁) => mkSorted h₁ v
    | none => none
  | .rng1 b, l, h => match ev T F b l h with
    | some (.int n, h₁) => mkRng h₁ 0 n 1
    | _ => none
  | .rng2 a b, l, h => match ev T F a l h with
    | some (.int x, h₁) => match ev T F b l h₁ with
      | some (.int y, h₂) => mkRng h₂ x y 1
      | _ => none
    | _ => none
  | .rng3 a b c, l, h => match ev T F a l h with
    | some (.int x, h₁) => match ev T F b l h₁ with
      | some (.int y, h₂) => match ev T F c l h₂ with
        | some (.int z, h₃) => mkRng h₃ x y z
        | _ => none
      | _ => none
    | _ => none
  | .append a b, l, h => match ev T F a l h with
    | some (u, h₁) => match getL h₁ u, ev T F b l h₁ with
      | some _, some (v, h₂) => doAppend h₂ u v
      | _, _ => none
    | none => none
  | .count a b, l, h => match ev T F a l h with
    | some (u, h₁) => match getL h₁ u, ev T F b l h₁ with
      | some _, some (v, h₂) => (doCount h₂ u v).map fun r => (r, h₂)
      | _, _ => none
    | none => none
  | .attr o a, l, h => match ev T F o l h with
    | some (u, h₁) => (getA h₁ u a).map fun r => (r, h₁)
    | none => none
  | .idx o i, l, h => match ev T F o l h with
    | some (u, h₁) => match ev T F i l h₁ with
      | some (v, h₂) => (getIdx h₂ u v).map fun r => (r, h₂)
      | none => none
    | none => none
  | .slTo o b, l, h => match ev T F o l h with
    | some (u, h₁) => match ev T F b l h₁ with
      | some (.int j, h₂) => cut h₂ u none (some j)
      | _ => none
    | none => none
  | .slFrom o a, l, h => match ev T F o l h with
    | some (u, h₁) => match ev T F a l h₁ with
      | some (.int i, h₂) => cut h₂ u (some i) none
      | _ => none
    | none => none
  | .slBt o a b, l, h => match ev T F o l h with
    | some (u, h₁) => match ev T F a l h₁ with
      | some (.int i, h₂) => match ev T F b l h₂ with
        | some (.int j, h₃) => cut h₃ u (some i) (some j)
        | _ => none
      | _ => none
    | none => none
  | .rev o, l, h => match ev T F o l h with
    | some (u, h₁) => match getL h₁ u with
      | some vs => if vs.length ≤ 1000 then some (.ref h₁.length, h₁ ++ [.list vs.reverse]) else none
      | none => none
    | none => none
  | .list es, l, h => match evs T F es l h with
    | some (vs, h₁) => some (.ref h₁.length, h₁ ++ [.list vs])
    | none => none
  | .tup es, l, h => match evs T F es l h with
    | some (vs, h₁) => some (.ref h₁.length, h₁ ++ [.tup vs])
    | none => none
  | .comp e it, l, h => match ev T F it l h with
    | some (u, h₁) => compAll (fun v h => match ev T F e (l ++ [some v]) h with
        | some (r, h') => some (some r, h')
        | none => none) u h₁
    | none => none
  | .compIf e it c, l, h => match ev T F it l h with
    | some (u, h₁) => compAll (fun v h => match ev T F c (l ++ [some v]) h with
        | some (t, h') => match truthy t with
          | some true => match ev T F e (l ++ [some v]) h' with
            | some (r, h'') => some (some r, h'')
            | none => none
          | some false => some (none, h')
          | none => none
        | none => none) u h₁
    | none => none

noncomputable def evs (T : Tab) (F : FnT) : Xs → Loc → Hp → Option (List V × Hp)
  | .nil, _, h => some ([], h)
  | .cons e es, l, h => match ev T F e l h with
    | some (v, h₁) => match evs T F es l h₁ with
      | some (vs, h₂) => some (v :: vs, h₂)
      | none => none
    | none => none
end

mutual
noncomputable def ex (T : Tab) (F : FnT) : S → Loc → Hp → Option (Fl × Loc × Hp)
  | .asn i e, l, h => match ev T F e l h with
    | some (v, h₁) => some (.next, l.set i (some v), h₁)
    | none => none
  | .asn2 i j e, l, h => match ev T F e l h with
    | some (.ref k, h₁) => match h₁[k]? with
      | some (.tup [u, v]) => some (.next, (l.set i (some u)).set j (some v), h₁)
      | _ => none
    | _ => none
  | .setattr o a e, l, h => match ev T F e l h with
    | some (v, h₁) => match ev T F o l h₁ with
      | some (u, h₂) => (setA h₂ u a v).map fun h₃ => (.next, l, h₃)
      | none => none
    | none => none
  | .setidx o i e, l, h => match ev T F e l h with
    | some (v, h₁) => match ev T F o l h₁ with
      | some (u, h₂) => match ev T F i l h₂ with
        | some (k, h₃) => (setIdx h₃ u k v).map fun h₄ => (.next, l, h₄)
        | none => none
      | none => none
    | none => none
  | .aug i op e, l, h => match l[i]? with
    | some (some (.int a)) => match ev T F e l h with
      | some (.int b, h₁) => (opI op a b).map fun c => (.next, l.set i (some (.int c)), h₁)
      | _ => none
    | _ => none
  | .augidx o i op e, l, h => match ev T F o l h with
    | some (u, h₁) => match ev T F i l h₁ with
      | some (k, h₂) => match getIdx h₂ u k with
        | some (.int a) => match ev T F e l h₂ with
          | some (.int b, h₃) => match opI op a b with
            | some c => (setIdx h₃ u k (.int c)).map fun h₄ => (.next, l, h₄)
            | none => none
          | _ => none
        | _ => none
      | none => none
    | none => none
  | .augattr o a op e, l, h => match ev T F o l h with
    | some (u, h₁) => match getA h₁ u a with
      | some (.int x) => match ev T F e l h₁ with
        | some (.int y, h₂) => match opI op x y with
          | some c => (setA h₂ u a (.int c)).map fun h₃ => (.next, l, h₃)
          | none => none
        | _ => none
      | _ => none
    | none => none
  | .ite c t f, l, h => match ev T F c l h with
    | some (v, h₁) => match truthy v with
      | some true => exs T F t l h₁
      | some false => exs T F f l h₁
      | none => none
    | none => none
  | .loop x it b, l, h => match ev T F it l h with
    | some (u, h₁) => loopAll (fun l h => exs T F b l h) x u l h₁
    | none => none
  | .ret e, l, h => match ev T F e l h with
    | some (v, h₁) => some (.ret v, l, h₁)
    | none => none
  | .expr e, l, h => match ev T F e l h with
    | some (_, h₁) => some (.next, l, h₁)
    | none => none
  | .fail, _, _ => none

noncomputable def exs (T : Tab) (F : FnT) : B → Loc → Hp → Option (Fl × Loc × Hp)
  | .nil, l, h => some (.next, l, h)
  | .cons s b, l, h => match ex T F s l h with
    | some (.next, l₁, h₁) => exs T F b l₁ h₁
    | some (.ret v, l₁, h₁) => some (.ret v, l₁, h₁)
    | none => none
end

noncomputable def runFn (T : Tab) (F : FnT) (fn : Fn) (args : List V) (h : Hp) : Option (V × Hp) :=
  if args.length = fn.nargs then
    match exs T F fn.body (args.map some ++ List.replicate (fn.nslots - fn.nargs) none) h with
    | some (.ret v, _, h') => some (v, h')
    | some (.next, _, h') => some (.none, h')
    | none => none
  else none

noncomputable def Fd (T : Tab) : Nat → FnT
  | 0, _, _, _ => none
  | d + 1, f, args, h => match T.fn f with
    | some fn => runFn T (Fd T d) fn args h
    | none => none

/-! ## the clauses -/

theorem evlit (T : Tab) (F : FnT) (v : V) (l : Loc) (h : Hp) : ev T F (.lit v) l h = some (v, h) := rfl
theorem evloc (T : Tab) (F : FnT) (i : Nat) (l : Loc) (h : Hp) : ev T F (.loc i) l h = (match l[i]? with
    | some (some v) => some (v, h)
    | _ => none : Option (V × Hp)) := rfl
theorem evbin (T : Tab) (F : FnT) (op : Bop) (a : X) (b : X) (l : Loc) (h : Hp) : ev T F (.bin op a b) l h = (match ev T F a l h with
    | some (u, h₁) => match ev T F b l h₁ with
      | some (v, h₂) => opV op u v h₂
      | none => none
    | none => none : Option (V × Hp)) := rfl
theorem evneg (T : Tab) (F : FnT) (a : X) (l : Loc) (h : Hp) : ev T F (.neg a) l h = (match ev T F a l h with
    | some (.int i, h₁) => some (.int (-i), h₁)
    | _ => none : Option (V × Hp)) := rfl
theorem evinv (T : Tab) (F : FnT) (a : X) (l : Loc) (h : Hp) : ev T F (.inv a) l h = (match ev T F a l h with
    | some (.int i, h₁) => some (.int (Builtin.bitNot i), h₁)
    | _ => none : Option (V × Hp)) := rfl
theorem evnot (T : Tab) (F : FnT) (a : X) (l : Loc) (h : Hp) : ev T F (.not a) l h = (match ev T F a l h with
    | some (v, h₁) => (truthy v).map fun b => (.bool !b, h₁)
    | none => none : Option (V × Hp)) := rfl
theorem evand (T : Tab) (F : FnT) (a : X) (b : X) (l : Loc) (h : Hp) : ev T F (.and a b) l h = (match ev T F a l h with
    | some (v, h₁) => match truthy v with
      | some true => ev T F b l h₁
      | some false => some (v, h₁)
      | none => none
    | none => none : Option (V × Hp)) := rfl
theorem evor (T : Tab) (F : FnT) (a : X) (b : X) (l : Loc) (h : Hp) : ev T F (.or a b) l h = (match ev T F a l h with
    | some (v, h₁) => match truthy v with
      | some true => some (v, h₁)
      | some false => ev T F b l h₁
      | none => none
    | none => none : Option (V × Hp)) := rfl
theorem evcmp (T : Tab) (F : FnT) (op : Cop) (a : X) (b : X) (l : Loc) (h : Hp) : ev T F (.cmp op a b) l h = (match ev T F a l h with
    | some (u, h₁) => match ev T F b l h₁ with
      | some (v, h₂) => (cmpV op u v h₂).map fun r => (.bool r, h₂)
      | none => none
    | none => none : Option (V × Hp)) := rfl
theorem evcmp2 (T : Tab) (F : FnT) (o1 : Cop) (o2 : Cop) (a : X) (b : X) (c : X) (l : Loc) (h : Hp) : ev T F (.cmp2 o1 o2 a b c) l h = (match ev T F a l h with
    | some (u, h₁) => match ev T F b l h₁ with
      | some (v, h₂) => match cmpV o1 u v h₂ with
        | some true => match ev T F c l h₂ with
          | some (w, h₃) => (cmpV o2 v w h₃).map fun r => (.bool r, h₃)
          | none => none
        | some false => some (.bool false, h₂)
        | none => none
      | none => none
    | none => none : Option (V × Hp)) := rfl
theorem evmem (T : Tab) (F : FnT) (p : Bool) (a : X) (ks : List Int) (l : Loc) (h : Hp) : ev T F (.mem p a ks) l h = (match ev T F a l h with
    | some (.int i, h₁) => some (.bool (if p then ks.contains i else !ks.contains i), h₁)
    | _ => none : Option (V × Hp)) := rfl
theorem evite (T : Tab) (F : FnT) (c : X) (a : X) (b : X) (l : Loc) (h : Hp) : ev T F (.ite c a b) l h = (match ev T F c l h with
    | some (v, h₁) => match truthy v with
      | some true => ev T F a l h₁
      | some false => ev T F b l h₁
      | none => none
    | none => none : Option (V × Hp)) := rfl
theorem evcall (T : Tab) (F : FnT) (f : Nat) (as : Xs) (l : Loc) (h : Hp) : ev T F (.call f as) l h = (match evs T F as l h with
    | some (vs, h₁) => F f vs h₁
    | none => none : Option (V × Hp)) := rfl
theorem evnew (T : Tab) (F : FnT) (c : Nat) (as : Xs) (l : Loc) (h : Hp) : ev T F (.new c as) l h = (match evs T F as l h with
    | some (vs, h₁) => match T.init c with
      | some f => match F f (.ref h₁.length :: vs) (h₁ ++ [.inst c []]) with
        | some (.none, h₂) => some (.ref h₁.length, h₂)
        | _ => none
      | none => none
    | none => none : Option (V × Hp)) := rfl
theorem evmeth (T : Tab) (F : FnT) (o : X) (m : Nat) (as : Xs) (l : Loc) (h : Hp) : ev T F (.meth o m as) l h = (match ev T F o l h with
    | some (.ref k, h₁) => match h₁[k]? with
      | some (.inst c fs) => match lookupA m fs, T.meth c m with
        | none, some f => match evs T F as l h₁ with
          | some (vs, h₂) => F f (.ref k :: vs) h₂
          | none => none
        | _, _ => none
      | _ => none
    | _ => none : Option (V × Hp)) := rfl
theorem evlen (T : Tab) (F : FnT) (a : X) (l : Loc) (h : Hp) : ev T F (.len a) l h = (match ev T F a l h with
    | some (v, h₁) => (doLen h₁ v).map fun r => (r, h₁)
    | none => none : Option (V × Hp)) := rfl
theorem evlistOf (T : Tab) (F : FnT) (a : X) (l : Loc) (h : Hp) : ev T F (.listOf a) l h = (match ev T F a l h with
    | some (v, h₁) => mkList h₁ v
    | none => none : Option (V × Hp)) := rfl
theorem evsorted (T : Tab) (F : FnT) (a : X) (l : Loc) (h : Hp) : ev T F (.sorted a) l h = (match ev T F a l h with
    | some (v, h₁) => mkSorted h₁ v
    | none => none : Option (V × Hp)) := rfl
theorem evrng1 (T : Tab) (F : FnT) (b : X) (l : Loc) (h : Hp) : ev T F (.rng1 b) l h = (match ev T F b l h with
    | some (.int n, h₁) => mkRng h₁ 0 n 1
    | _ => none : Option (V × Hp)) := rfl
theorem evrng2 (T : Tab) (F : FnT) (a : X) (b : X) (l : Loc) (h : Hp) : ev T F (.rng2 a b) l h = (match ev T F a l h with
    | some (.int x, h₁) => match ev T F b l h₁ with
      | some (.int y, h₂) => mkRng h₂ x y 1
      | _ => none
    | _ => none : Option (V × Hp)) := rfl
theorem evrng3 (T : Tab) (F : FnT) (a : X) (b : X) (c : X) (l : Loc) (h : Hp) : ev T F (.rng3 a b c) l h = (match ev T F a l h with
    | some (.int x, h₁) => match ev T F b l h₁ with
      | some (.int y, h₂) => match ev T F c l h₂ with
        | some (.int z, h₃) => mkRng h₃ x y z
        | _ => none
      | _ => none
    | _ => none : Option (V × Hp)) := rfl
theorem evappend (T : Tab) (F : FnT) (a : X) (b : X) (l : Loc) (h : Hp) : ev T F (.append a b) l h = (match ev T F a l h with
    | some (u, h₁) => match getL h₁ u, ev T F b l h₁ with
      | some _, some (v, h₂) => doAppend h₂ u v
      | _, _ => none
    | none => none : Option (V × Hp)) := rfl
theorem evcount (T : Tab) (F : FnT) (a : X) (b : X) (l : Loc) (h : Hp) : ev T F (.count a b) l h = (match ev T F a l h with
    | some (u, h₁) => match getL h₁ u, ev T F b l h₁ with
      | some _, some (v, h₂) => (doCount h₂ u v).map fun r => (r, h₂)
      | _, _ => none
    | none => none : Option (V × Hp)) := rfl
theorem evattr (T : Tab) (F : FnT) (o : X) (a : Nat) (l : Loc) (h : Hp) : ev T F (.attr o a) l h = (match ev T F o l h with
    | some (u, h₁) => (getA h₁ u a).map fun r => (r, h₁)
    | none => none : Option (V × Hp)) := rfl
theorem evidx (T : Tab) (F : FnT) (o : X) (i : X) (l : Loc) (h : Hp) : ev T F (.idx o i) l h = (match ev T F o l h with
    | some (u, h₁) => match ev T F i l h₁ with
      | some (v, h₂) => (getIdx h₂ u v).map fun r => (r, h₂)
      | none => none
    | none => none : Option (V × Hp)) := rfl
theorem evslTo (T : Tab) (F : FnT) (o : X) (b : X) (l : Loc) (h : Hp) : ev T F (.slTo o b) l h = (match ev T F o l h with
    | some (u, h₁) => match ev T F b l h₁ with
      | some (.int j, h₂) => cut h₂ u none (some j)
      | _ => none
    | none => none : Option (V × Hp)) := rfl
theorem evslFrom (T : Tab) (F : FnT) (o : X) (a : X) (l : Loc) (h : Hp) : ev T F (.slFrom o a) l h = (match ev T F o l h with
    | some (u, h₁) => match ev T F a l h₁ with
      | some (.int i, h₂) => cut h₂ u (some i) none
      | _ => none
    | none => none : Option (V × Hp)) := rfl
theorem evslBt (T : Tab) (F : FnT) (o : X) (a : X) (b : X) (l : Loc) (h : Hp) : ev T F (.slBt o a b) l h = (match ev T F o l h with
    | some (u, h₁) => match ev T F a l h₁ with
      | some (.int i, h₂) => match ev T F b l h₂ with
        | some (.int j, h₃) => cut h₃ u (some i) (some j)
        | _ => none
      | _ => none
    | none => none : Option (V × Hp)) := rfl
theorem evrev (T : Tab) (F : FnT) (o : X) (l : Loc) (h : Hp) : ev T F (.rev o) l h = (match ev T F o l h with
    | some (u, h₁) => match getL h₁ u with
      | some vs => if vs.length ≤ 1000 then some (.ref h₁.length, h₁ ++ [.list vs.reverse]) else none
      | none => none
    | none => none : Option (V × Hp)) := rfl
theorem evlist (T : Tab) (F : FnT) (es : Xs) (l : Loc) (h : Hp) : ev T F (.list es) l h = (match evs T F es l h with
    | some (vs, h₁) => some (.ref h₁.length, h₁ ++ [.list vs])
    | none => none : Option (V × Hp)) := rfl
theorem evtup (T : Tab) (F : FnT) (es : Xs) (l : Loc) (h : Hp) : ev T F (.tup es) l h = (match evs T F es l h with
    | some (vs, h₁) => some (.ref h₁.length, h₁ ++ [.tup vs])
    | none => none : Option (V × Hp)) := rfl
theorem evcomp (T : Tab) (F : FnT) (e : X) (it : X) (l : Loc) (h : Hp) : ev T F (.comp e it) l h = (match ev T F it l h with
    | some (u, h₁) => compAll (fun v h => match ev T F e (l ++ [some v]) h with
        | some (r, h') => some (some r, h')
        | none => none) u h₁
    | none => none : Option (V × Hp)) := rfl
theorem evcompIf (T : Tab) (F : FnT) (e : X) (it : X) (c : X) (l : Loc) (h : Hp) : ev T F (.compIf e it c) l h = (match ev T F it l h with
    | some (u, h₁) => compAll (fun v h => match ev T F c (l ++ [some v]) h with
        | some (t, h') => match truthy t with
          | some true => match ev T F e (l ++ [some v]) h' with
            | some (r, h'') => some (some r, h'')
            | none => none
          | some false => some (none, h')
          | none => none
        | none => none) u h₁
    | none => none : Option (V × Hp)) := rfl
theorem exasn (T : Tab) (F : FnT) (i : Nat) (e : X) (l : Loc) (h : Hp) : ex T F (.asn i e) l h = (match ev T F e l h with
    | some (v, h₁) => some (.next, l.set i (some v), h₁)
    | none => none : Option (Fl × Loc × Hp)) := rfl
theorem exasn2 (T : Tab) (F : FnT) (i : Nat) (j : Nat) (e : X) (l : Loc) (h : Hp) : ex T F (.asn2 i j e) l h = (match ev T F e l h with
    | some (.ref k, h₁) => match h₁[k]? with
      | some (.tup [u, v]) => some (.next, (l.set i (some u)).set j (some v), h₁)
      | _ => none
    | _ => none : Option (Fl × Loc × Hp)) := rfl
theorem exsetattr (T : Tab) (F : FnT) (o : X) (a : Nat) (e : X) (l : Loc) (h : Hp) : ex T F (.setattr o a e) l h = (match ev T F e l h with
    | some (v, h₁) => match ev T F o l h₁ with
      | some (u, h₂) => (setA h₂ u a v).map fun h₃ => (.next, l, h₃)
      | none => none
    | none => none : Option (Fl × Loc × Hp)) := rfl
theorem exsetidx (T : Tab) (F : FnT) (o : X) (i : X) (e : X) (l : Loc) (h : Hp) : ex T F (.setidx o i e) l h = (match ev T F e l h with
    | some (v, h₁) => match ev T F o l h₁ with
      | some (u, h₂) => match ev T F i l h₂ with
        | some (k, h₃) => (setIdx h₃ u k v).map fun h₄ => (.next, l, h₄)
        | none => none
      | none => none
    | none => none : Option (Fl × Loc × Hp)) := rfl
theorem exaug (T : Tab) (F : FnT) (i : Nat) (op : Bop) (e : X) (l : Loc) (h : Hp) : ex T F (.aug i op e) l h = (match l[i]? with
    | some (some (.int a)) => match ev T F e l h with
      | some (.int b, h₁) => (opI op a b).map fun c => (.next, l.set i (some (.int c)), h₁)
      | _ => none
    | _ => none : Option (Fl × Loc × Hp)) := rfl
theorem exaugidx (T : Tab) (F : FnT) (o : X) (i : X) (op : Bop) (e : X) (l : Loc) (h : Hp) : ex T F (.augidx o i op e) l h = (match ev T F o l h with
    | some (u, h₁) => match ev T F i l h₁ with
      | some (k, h₂) => match getIdx h₂ u k with
        | some (.int a) => match ev T F e l h₂ with
          | some (.int b, h₃) => match opI op a b with
            | some c => (setIdx h₃ u k (.int c)).map fun h₄ => (.next, l, h₄)
            | none => none
          | _ => none
        | _ => none
      | none => none
    | none => none : Option (Fl × Loc × Hp)) := rfl
theorem exaugattr (T : Tab) (F : FnT) (o : X) (a : Nat) (op : Bop) (e : X) (l : Loc) (h : Hp) : ex T F (.augattr o a op e) l h = (match ev T F o l h with
    | some (u, h₁) => match getA h₁ u a with
      | some (.int x) => match ev T F e l h₁ with
        | some (.int y, h₂) => match opI op x y with
          | some c => (setA h₂ u a (.int c)).map fun h₃ => (.next, l, h₃)
          | none => none
        | _ => none
      | _ => none
    | none => none : Option (Fl × Loc × Hp)) := rfl
theorem exite (T : Tab) (F : FnT) (c : X) (t : B) (f : B) (l : Loc) (h : Hp) : ex T F (.ite c t f) l h = (match ev T F c l h with
    | some (v, h₁) => match truthy v with
      | some true => exs T F t l h₁
      | some false => exs T F f l h₁
      | none => none
    | none => none : Option (Fl × Loc × Hp)) := rfl
theorem exloop (T : Tab) (F : FnT) (x : Nat) (it : X) (b : B) (l : Loc) (h : Hp) : ex T F (.loop x it b) l h = (match ev T F it l h with
    | some (u, h₁) => loopAll (fun l h => exs T F b l h) x u l h₁
    | none => none : Option (Fl × Loc × Hp)) := rfl
theorem exret (T : Tab) (F : FnT) (e : X) (l : Loc) (h : Hp) : ex T F (.ret e) l h = (match ev T F e l h with
    | some (v, h₁) => some (.ret v, l, h₁)
    | none => none : Option (Fl × Loc × Hp)) := rfl
theorem exexpr (T : Tab) (F : FnT) (e : X) (l : Loc) (h : Hp) : ex T F (.expr e) l h = (match ev T F e l h with
    | some (_, h₁) => some (.next, l, h₁)
    | none => none : Option (Fl × Loc × Hp)) := rfl
theorem exfail (T : Tab) (F : FnT)  (l : Loc) (h : Hp) : ex T F (.fail) l h = none := rfl

end Mz
end

section
set_option maxRecDepth 100000
namespace Mz
/- 0: side_of ; 0 piece -/
noncomputable def b_side_of : B := (.cons (.ret (.bin .shr (.loc 0) (.lit (.int 3)))) .nil)
noncomputable def nm_side_of : List PySem.Str := ["piece"]
/- 1: kind_of ; 0 piece -/
noncomputable def b_kind_of : B := (.cons (.ret (.bin .band (.loc 0) (.lit (.int 7)))) .nil)
noncomputable def nm_kind_of : List PySem.Str := ["piece"]
/- 2: Random.__init__ ; 0 self, 1 seed -/
noncomputable def b_Random_init : B := (.cons (.setattr (.loc 0) 0 (.bin .band (.loc 1) (.lit (.int 18446744073709551615)))) (.cons (.ite (.cmp .eq (.attr (.loc 0) 0) (.lit (.int 0))) (.cons (.setattr (.loc 0) 0 (.lit (.int 1))) .nil) .nil) .nil))
noncomputable def nm_Random_init : List PySem.Str := ["self", "seed"]
/- 3: Random.next ; 0 self, 1 state -/
noncomputable def b_Random_next : B := (.cons (.asn 1 (.attr (.loc 0) 0)) (.cons (.aug 1 .bxor (.bin .shr (.loc 1) (.lit (.int 12)))) (.cons (.aug 1 .bxor (.bin .band (.bin .shl (.loc 1) (.lit (.int 25))) (.lit (.int 18446744073709551615)))) (.cons (.aug 1 .bxor (.bin .shr (.loc 1) (.lit (.int 27)))) (.cons (.setattr (.loc 0) 0 (.loc 1)) (.cons (.ret (.bin .band (.bin .mul (.loc 1) (.lit (.int 2685821657736338717))) (.lit (.int 18446744073709551615)))) .nil))))))
noncomputable def nm_Random_next : List PySem.Str := ["self", "state"]
/- 4: Zobrist.__init__ ; 0 self, 1 pieces, 2 ep, 3 rights, 4 side -/
noncomputable def b_Zobrist_init : B := (.cons (.setattr (.loc 0) 1 (.loc 1)) (.cons (.setattr (.loc 0) 2 (.loc 2)) (.cons (.setattr (.loc 0) 3 (.loc 3)) (.cons (.setattr (.loc 0) 4 (.loc 4)) .nil))))
noncomputable def nm_Zobrist_init : List PySem.Str := ["self", "pieces", "ep", "rights", "side"]
/- 5: draw_row ; 0 random, 1 length, 2 row, 3 place -/
noncomputable def b_draw_row : B := (.cons (.asn 2 (.list .nil)) (.cons (.loop 3 (.rng1 (.loc 1)) (.cons (.expr (.append (.loc 2) (.meth (.loc 0) 5 .nil))) .nil)) (.cons (.ret (.loc 2)) .nil)))
noncomputable def nm_draw_row : List PySem.Str := ["random", "length", "row", "place"]
/- 6: rights_row ; 0 singles, 1 row, 2 rights, 3 number, 4 index -/
noncomputable def b_rights_row : B := (.cons (.asn 1 (.list .nil)) (.cons (.loop 2 (.rng1 (.lit (.int 16))) (.cons (.asn 3 (.lit (.int 0))) (.cons (.loop 4 (.rng1 (.lit (.int 4))) (.cons (.ite (.bin .band (.loc 2) (.bin .shl (.lit (.int 1)) (.loc 4))) (.cons (.aug 3 .bxor (.idx (.loc 0) (.loc 4))) .nil) .nil) .nil)) (.cons (.expr (.append (.loc 1) (.loc 3))) .nil)))) (.cons (.ret (.loc 1)) .nil)))
noncomputable def nm_rights_row : List PySem.Str := ["singles", "row", "rights", "number", "index"]
/- 7: make_zobrist ; 0 geo, 1 seed, 2 random, 3 pieces, 4 piece, 5 ep, 6 rights -/
noncomputable def b_make_zobrist : B := (.cons (.asn 2 (.new 0 (.cons (.loc 1) .nil))) (.cons (.asn 3 (.list .nil)) (.cons (.loop 4 (.rng1 (.lit (.int 15))) (.cons (.ite (.cmp2 .le .le (.lit (.int 1)) (.call 1 (.cons (.loc 4) .nil)) (.lit (.int 6))) (.cons (.expr (.append (.loc 3) (.call 5 (.cons (.loc 2) (.cons (.attr (.loc 0) 6) .nil))))) .nil) (.cons (.expr (.append (.loc 3) (.list .nil))) .nil)) .nil)) (.cons (.asn 5 (.call 5 (.cons (.loc 2) (.cons (.attr (.loc 0) 7) .nil)))) (.cons (.asn 6 (.call 6 (.cons (.call 5 (.cons (.loc 2) (.cons (.lit (.int 4)) .nil))) .nil))) (.cons (.ret (.new 1 (.cons (.loc 3) (.cons (.loc 5) (.cons (.loc 6) (.cons (.meth (.loc 2) 5 .nil) .nil)))))) .nil))))))
noncomputable def nm_make_zobrist : List PySem.Str := ["geo", "seed", "random", "pieces", "piece", "ep", "rights"]
/- 8: state_key ; 0 pos, 1 zob, 2 key -/
noncomputable def b_state_key : B := (.cons (.asn 1 (.attr (.loc 0) 8)) (.cons (.asn 2 (.idx (.attr (.loc 1) 3) (.attr (.loc 0) 3))) (.cons (.ite (.cmp .ge (.attr (.loc 0) 2) (.lit (.int 0))) (.cons (.aug 2 .bxor (.idx (.attr (.loc 1) 2) (.bin .mod (.attr (.loc 0) 2) (.attr (.attr (.loc 0) 9) 7)))) .nil) .nil) (.cons (.ite (.cmp .eq (.attr (.loc 0) 4) (.lit (.int 1))) (.cons (.aug 2 .bxor (.attr (.loc 1) 4)) .nil) .nil) (.cons (.ret (.loc 2)) .nil)))))
noncomputable def nm_state_key : List PySem.Str := ["pos", "zob", "key"]
/- 9: full_key ; 0 pos, 1 numbers, 2 key, 3 square, 4 piece -/
noncomputable def b_full_key : B := (.cons (.asn 1 (.attr (.attr (.loc 0) 8) 1)) (.cons (.asn 2 (.call 8 (.cons (.loc 0) .nil))) (.cons (.asn 3 (.lit (.int 0))) (.cons (.loop 4 (.attr (.loc 0) 10) (.cons (.ite (.cmp .ne (.loc 4) (.lit (.int 0))) (.cons (.aug 2 .bxor (.idx (.idx (.loc 1) (.loc 4)) (.loc 3))) .nil) .nil) (.cons (.aug 3 .add (.lit (.int 1))) .nil))) (.cons (.ret (.loc 2)) .nil)))))
noncomputable def nm_full_key : List PySem.Str := ["pos", "numbers", "key", "square", "piece"]
/- 10: pawn_key ; 0 pos, 1 numbers, 2 key, 3 square, 4 piece -/
noncomputable def b_pawn_key : B := (.cons (.asn 1 (.attr (.attr (.loc 0) 8) 1)) (.cons (.asn 2 (.lit (.int 0))) (.cons (.asn 3 (.lit (.int 0))) (.cons (.loop 4 (.attr (.loc 0) 10) (.cons (.ite (.cmp .eq (.call 1 (.cons (.loc 4) .nil)) (.lit (.int 1))) (.cons (.aug 2 .bxor (.idx (.idx (.loc 1) (.loc 4)) (.loc 3))) .nil) .nil) (.cons (.aug 3 .add (.lit (.int 1))) .nil))) (.cons (.ret (.loc 2)) .nil)))))
noncomputable def nm_pawn_key : List PySem.Str := ["pos", "numbers", "key", "square", "piece"]
/- 11: non_pawn_key ; 0 pos, 1 side, 2 numbers, 3 key, 4 square, 5 piece -/
noncomputable def b_non_pawn_key : B := (.cons (.asn 2 (.attr (.attr (.loc 0) 8) 1)) (.cons (.asn 3 (.lit (.int 0))) (.cons (.asn 4 (.lit (.int 0))) (.cons (.loop 5 (.attr (.loc 0) 10) (.cons (.ite (.and (.cmp .gt (.call 1 (.cons (.loc 5) .nil)) (.lit (.int 1))) (.cmp .eq (.call 0 (.cons (.loc 5) .nil)) (.loc 1))) (.cons (.aug 3 .bxor (.idx (.idx (.loc 2) (.loc 5)) (.loc 4))) .nil) .nil) (.cons (.aug 4 .add (.lit (.int 1))) .nil))) (.cons (.ret (.loc 3)) .nil)))))
noncomputable def nm_non_pawn_key : List PySem.Str := ["pos", "side", "numbers", "key", "square", "piece"]
/- 12: material_key ; 0 pos, 1 numbers, 2 counts, 3 key, 4 piece -/
noncomputable def b_material_key : B := (.cons (.asn 1 (.attr (.attr (.loc 0) 8) 1)) (.cons (.asn 2 (.bin .mul (.list (.cons (.lit (.int 0)) .nil)) (.lit (.int 15)))) (.cons (.asn 3 (.lit (.int 0))) (.cons (.loop 4 (.attr (.loc 0) 10) (.cons (.ite (.cmp .ne (.loc 4) (.lit (.int 0))) (.cons (.aug 3 .bxor (.idx (.idx (.loc 1) (.loc 4)) (.idx (.loc 2) (.loc 4)))) (.cons (.augidx (.loc 2) (.loc 4) .add (.lit (.int 1))) .nil)) .nil) .nil)) (.cons (.ret (.loc 3)) .nil)))))
noncomputable def nm_material_key : List PySem.Str := ["pos", "numbers", "counts", "key", "piece"]
/- 13: Geometry.__init__ ; 0 self, 1 files, 2 ranks, 3 has_double, 4 has_castling -/
noncomputable def b_Geometry_init : B := (.cons (.setattr (.loc 0) 7 (.loc 1)) (.cons (.setattr (.loc 0) 11 (.loc 2)) (.cons (.setattr (.loc 0) 6 (.bin .mul (.loc 1) (.loc 2))) (.cons (.setattr (.loc 0) 12 (.bin .sub (.bin .shl (.lit (.int 1)) (.bin .mul (.loc 1) (.loc 2))) (.lit (.int 1)))) (.cons (.setattr (.loc 0) 13 (.and (.loc 3) (.cmp .ge (.loc 2) (.lit (.int 5))))) (.cons (.setattr (.loc 0) 14 (.loc 4)) (.cons (.setattr (.loc 0) 15 (.list .nil)) (.cons (.setattr (.loc 0) 16 (.list .nil)) (.cons (.setattr (.loc 0) 17 (.list .nil)) (.cons (.setattr (.loc 0) 18 (.list .nil)) (.cons (.setattr (.loc 0) 19 (.list .nil)) (.cons (.setattr (.loc 0) 20 (.list (.cons (.list .nil) (.cons (.list .nil) .nil)))) (.cons (.setattr (.loc 0) 21 (.list .nil)) (.cons (.setattr (.loc 0) 22 (.list .nil)) .nil))))))))))))))
noncomputable def nm_Geometry_init : List PySem.Str := ["self", "files", "ranks", "has_double", "has_castling"]
/- 14: is_growing ; 0 d -/
noncomputable def b_is_growing : B := (.cons (.ret (.or (.cmp .gt (.idx (.lit (.ref 2)) (.loc 0)) (.lit (.int 0))) (.cmp .eq (.loc 0) (.lit (.int 1))))) .nil)
noncomputable def nm_is_growing : List PySem.Str := ["d"]
/- 15: add_masks ; 0 geo, 1 row, 2 column, 3 r, 4 f -/
noncomputable def b_add_masks : B := (.cons (.asn 1 (.bin .sub (.bin .shl (.lit (.int 1)) (.attr (.loc 0) 7)) (.lit (.int 1)))) (.cons (.asn 2 (.lit (.int 0))) (.cons (.loop 3 (.rng1 (.attr (.loc 0) 11)) (.cons (.expr (.append (.attr (.loc 0) 16) (.bin .shl (.loc 1) (.bin .mul (.loc 3) (.attr (.loc 0) 7))))) (.cons (.aug 2 .bor (.bin .shl (.lit (.int 1)) (.bin .mul (.loc 3) (.attr (.loc 0) 7)))) .nil))) (.cons (.loop 4 (.rng1 (.attr (.loc 0) 7)) (.cons (.expr (.append (.attr (.loc 0) 15) (.bin .shl (.loc 2) (.loc 4)))) .nil)) .nil))))
noncomputable def nm_add_masks : List PySem.Str := ["geo", "row", "column", "r", "f"]
/- 16: inner_squares ; 0 geo, 1 d, 2 edge -/
noncomputable def b_inner_squares : B := (.cons (.asn 2 (.lit (.int 0))) (.cons (.ite (.cmp .gt (.idx (.lit (.ref 1)) (.loc 1)) (.lit (.int 0))) (.cons (.aug 2 .bor (.idx (.attr (.loc 0) 15) (.bin .sub (.attr (.loc 0) 7) (.lit (.int 1))))) .nil) .nil) (.cons (.ite (.cmp .lt (.idx (.lit (.ref 1)) (.loc 1)) (.lit (.int 0))) (.cons (.aug 2 .bor (.idx (.attr (.loc 0) 15) (.lit (.int 0)))) .nil) .nil) (.cons (.ite (.cmp .gt (.idx (.lit (.ref 2)) (.loc 1)) (.lit (.int 0))) (.cons (.aug 2 .bor (.idx (.attr (.loc 0) 16) (.bin .sub (.attr (.loc 0) 11) (.lit (.int 1))))) .nil) .nil) (.cons (.ite (.cmp .lt (.idx (.lit (.ref 2)) (.loc 1)) (.lit (.int 0))) (.cons (.aug 2 .bor (.idx (.attr (.loc 0) 16) (.lit (.int 0)))) .nil) .nil) (.cons (.ret (.bin .band (.attr (.loc 0) 12) (.inv (.loc 2)))) .nil))))))
noncomputable def nm_inner_squares : List PySem.Str := ["geo", "d", "edge"]
/- 17: add_rays ; 0 geo, 1 d, 2 inner, 3 delta, 4 ray, 5 order, 6 square, 7 goal -/
noncomputable def b_add_rays : B := (.cons (.setattr (.loc 0) 18 (.bin .mul (.list (.cons (.lit (.int 0)) .nil)) (.attr (.loc 0) 6))) (.cons (.loop 1 (.rng1 (.lit (.int 8))) (.cons (.asn 2 (.call 16 (.cons (.loc 0) (.cons (.loc 1) .nil)))) (.cons (.asn 3 (.bin .add (.bin .mul (.idx (.lit (.ref 2)) (.loc 1)) (.attr (.loc 0) 7)) (.idx (.lit (.ref 1)) (.loc 1)))) (.cons (.asn 4 (.bin .mul (.list (.cons (.lit (.int 0)) .nil)) (.attr (.loc 0) 6))) (.cons (.asn 5 (.rng1 (.attr (.loc 0) 6))) (.cons (.ite (.call 14 (.cons (.loc 1) .nil)) (.cons (.asn 5 (.rng3 (.bin .sub (.attr (.loc 0) 6) (.lit (.int 1))) (.neg (.lit (.int 1))) (.neg (.lit (.int 1))))) .nil) .nil) (.cons (.loop 6 (.loc 5) (.cons (.ite (.bin .band (.bin .shr (.loc 2) (.loc 6)) (.lit (.int 1))) (.cons (.asn 7 (.bin .add (.loc 6) (.loc 3))) (.cons (.setidx (.loc 4) (.loc 6) (.bin .bor (.idx (.loc 4) (.loc 7)) (.bin .shl (.lit (.int 1)) (.loc 7)))) (.cons (.augidx (.attr (.loc 0) 18) (.loc 6) .bor (.bin .shl (.lit (.int 1)) (.loc 7))) .nil))) .nil) .nil)) (.cons (.expr (.append (.attr (.loc 0) 17) (.loc 4))) .nil)))))))) .nil))
noncomputable def nm_add_rays : List PySem.Str := ["geo", "d", "inner", "delta", "ray", "order", "square", "goal"]
/- 18: add_pawns ; 0 geo, 1 square -/
noncomputable def b_add_pawns : B := (.cons (.loop 1 (.rng1 (.attr (.loc 0) 6)) (.cons (.expr (.append (.idx (.attr (.loc 0) 20) (.lit (.int 0))) (.bin .band (.idx (.attr (.loc 0) 18) (.loc 1)) (.bin .bor (.idx (.idx (.attr (.loc 0) 17) (.lit (.int 4))) (.loc 1)) (.idx (.idx (.attr (.loc 0) 17) (.lit (.int 7))) (.loc 1)))))) (.cons (.expr (.append (.idx (.attr (.loc 0) 20) (.lit (.int 1))) (.bin .band (.idx (.attr (.loc 0) 18) (.loc 1)) (.bin .bor (.idx (.idx (.attr (.loc 0) 17) (.lit (.int 5))) (.loc 1)) (.idx (.idx (.attr (.loc 0) 17) (.lit (.int 6))) (.loc 1)))))) .nil))) .nil)
noncomputable def nm_add_pawns : List PySem.Str := ["geo", "square"]
/- 19: add_knights ; 0 geo, 1 files, 2 not_first, 3 not_last, 4 not_first_two, 5 not_last_two, 6 square, 7 b, 8 near, 9 far, 10 found -/
noncomputable def b_add_knights : B := (.cons (.asn 1 (.attr (.loc 0) 7)) (.cons (.asn 2 (.bin .band (.attr (.loc 0) 12) (.inv (.idx (.attr (.loc 0) 15) (.lit (.int 0)))))) (.cons (.asn 3 (.bin .band (.attr (.loc 0) 12) (.inv (.idx (.attr (.loc 0) 15) (.bin .sub (.loc 1) (.lit (.int 1))))))) (.cons (.asn 4 (.bin .band (.loc 2) (.inv (.idx (.attr (.loc 0) 15) (.lit (.int 1)))))) (.cons (.asn 5 (.bin .band (.loc 3) (.inv (.idx (.attr (.loc 0) 15) (.bin .sub (.loc 1) (.lit (.int 2))))))) (.cons (.loop 6 (.rng1 (.attr (.loc 0) 6)) (.cons (.asn 7 (.bin .shl (.lit (.int 1)) (.loc 6))) (.cons (.asn 8 (.bin .bor (.bin .band (.bin .shl (.loc 7) (.lit (.int 1))) (.loc 2)) (.bin .band (.bin .shr (.loc 7) (.lit (.int 1))) (.loc 3)))) (.cons (.asn 9 (.bin .bor (.bin .band (.bin .shl (.loc 7) (.lit (.int 2))) (.loc 4)) (.bin .band (.bin .shr (.loc 7) (.lit (.int 2))) (.loc 5)))) (.cons (.asn 10 (.bin .bor (.bin .bor (.bin .bor (.bin .shl (.loc 8) (.bin .mul (.lit (.int 2)) (.loc 1))) (.bin .shr (.loc 8) (.bin .mul (.lit (.int 2)) (.loc 1)))) (.bin .shl (.loc 9) (.loc 1))) (.bin .shr (.loc 9) (.loc 1)))) (.cons (.expr (.append (.attr (.loc 0) 19) (.bin .band (.loc 10) (.attr (.loc 0) 12)))) .nil)))))) .nil))))))
noncomputable def nm_add_knights : List PySem.Str := ["geo", "files", "not_first", "not_last", "not_first_two", "not_last_two", "square", "b", "near", "far", "found"]
/- 20: add_castles ; 0 geo, 1 start, 2 index, 3 base, 4 corner, 5 way, 6 goal -/
noncomputable def b_add_castles : B := (.cons (.setattr (.loc 0) 22 (.bin .mul (.list (.cons (.lit (.int 0)) .nil)) (.attr (.loc 0) 6))) (.cons (.asn 1 (.bin .fdiv (.attr (.loc 0) 7) (.lit (.int 2)))) (.cons (.loop 2 (.rng1 (.lit (.int 4))) (.cons (.asn 3 (.bin .mul (.bin .mul (.bin .shr (.loc 2) (.lit (.int 1))) (.bin .sub (.attr (.loc 0) 11) (.lit (.int 1)))) (.attr (.loc 0) 7))) (.cons (.asn 4 (.bin .sub (.attr (.loc 0) 7) (.lit (.int 1)))) (.cons (.asn 5 (.lit (.int 1))) (.cons (.ite (.bin .band (.loc 2) (.lit (.int 1))) (.cons (.asn 4 (.lit (.int 0))) (.cons (.asn 5 (.neg (.lit (.int 1)))) .nil)) .nil) (.cons (.asn 6 (.bin .add (.loc 1) (.bin .mul (.lit (.int 2)) (.loc 5)))) (.cons (.ite (.and (.attr (.loc 0) 14) (.cmp .gt (.bin .mul (.bin .sub (.loc 4) (.loc 6)) (.loc 5)) (.lit (.int 0)))) (.cons (.expr (.append (.attr (.loc 0) 21) (.tup (.cons (.bin .add (.loc 3) (.loc 1)) (.cons (.bin .add (.loc 3) (.loc 6)) (.cons (.bin .add (.loc 3) (.loc 4)) (.cons (.bin .sub (.bin .add (.loc 3) (.loc 6)) (.loc 5)) .nil))))))) (.cons (.augidx (.attr (.loc 0) 22) (.bin .add (.loc 3) (.loc 1)) .bor (.bin .shl (.lit (.int 1)) (.loc 2))) (.cons (.augidx (.attr (.loc 0) 22) (.bin .add (.loc 3) (.loc 4)) .bor (.bin .shl (.lit (.int 1)) (.loc 2))) .nil))) (.cons (.expr (.append (.attr (.loc 0) 21) (.lit .none))) .nil)) .nil))))))) .nil)))
noncomputable def nm_add_castles : List PySem.Str := ["geo", "start", "index", "base", "corner", "way", "goal"]
/- 21: make_geometry ; 0 files, 1 ranks, 2 has_double, 3 has_castling, 4 geo -/
noncomputable def b_make_geometry : B := (.cons (.ite (.or (.cmp .lt (.loc 0) (.lit (.int 2))) (.or (.cmp .gt (.loc 0) (.lit (.int 8))) (.or (.cmp .lt (.loc 1) (.lit (.int 3))) (.cmp .gt (.loc 1) (.lit (.int 8)))))) (.cons .fail .nil) .nil) (.cons (.asn 4 (.new 3 (.cons (.loc 0) (.cons (.loc 1) (.cons (.loc 2) (.cons (.loc 3) .nil)))))) (.cons (.expr (.call 15 (.cons (.loc 4) .nil))) (.cons (.expr (.call 17 (.cons (.loc 4) .nil))) (.cons (.expr (.call 18 (.cons (.loc 4) .nil))) (.cons (.expr (.call 19 (.cons (.loc 4) .nil))) (.cons (.expr (.call 20 (.cons (.loc 4) .nil))) (.cons (.ret (.loc 4)) .nil))))))))
noncomputable def nm_make_geometry : List PySem.Str := ["files", "ranks", "has_double", "has_castling", "geo"]
/- 22: Position.__init__ ; 0 self, 1 geo, 2 zob -/
noncomputable def b_Position_init : B := (.cons (.setattr (.loc 0) 9 (.loc 1)) (.cons (.setattr (.loc 0) 8 (.loc 2)) (.cons (.setattr (.loc 0) 10 (.bin .mul (.list (.cons (.lit (.int 0)) .nil)) (.attr (.loc 1) 6))) (.cons (.setattr (.loc 0) 23 (.bin .mul (.list (.cons (.lit (.int 0)) .nil)) (.lit (.int 7)))) (.cons (.setattr (.loc 0) 24 (.list (.cons (.lit (.int 0)) (.cons (.lit (.int 0)) .nil)))) (.cons (.setattr (.loc 0) 4 (.lit (.int 0))) (.cons (.setattr (.loc 0) 3 (.lit (.int 0))) (.cons (.setattr (.loc 0) 2 (.neg (.lit (.int 1)))) (.cons (.setattr (.loc 0) 25 (.lit (.int 0))) (.cons (.setattr (.loc 0) 12 (.lit (.int 1))) (.cons (.setattr (.loc 0) 26 (.lit (.int 0))) (.cons (.setattr (.loc 0) 27 (.list .nil)) .nil))))))))))))
noncomputable def nm_Position_init : List PySem.Str := ["self", "geo", "zob"]
/- 23: put_piece ; 0 pos, 1 piece, 2 s, 3 bit -/
noncomputable def b_put_piece : B := (.cons (.asn 3 (.bin .shl (.lit (.int 1)) (.loc 2))) (.cons (.setidx (.attr (.loc 0) 10) (.loc 2) (.loc 1)) (.cons (.augidx (.attr (.loc 0) 23) (.call 1 (.cons (.loc 1) .nil)) .bor (.loc 3)) (.cons (.augidx (.attr (.loc 0) 24) (.call 0 (.cons (.loc 1) .nil)) .bor (.loc 3)) (.cons (.augattr (.loc 0) 26 .bxor (.idx (.idx (.attr (.attr (.loc 0) 8) 1) (.loc 1)) (.loc 2))) .nil)))))
noncomputable def nm_put_piece : List PySem.Str := ["pos", "piece", "s", "bit"]
/- 24: settle_key ; 0 pos -/
noncomputable def b_settle_key : B := (.cons (.setattr (.loc 0) 26 (.call 9 (.cons (.loc 0) .nil))) .nil)
noncomputable def nm_settle_key : List PySem.Str := ["pos"]
/- 25: _law_shapes ;  -/
noncomputable def b_law_shapes : B := (.cons (.ret (.list (.cons (.tup (.cons (.lit (.int 2)) (.cons (.lit (.int 3)) .nil))) (.cons (.tup (.cons (.lit (.int 3)) (.cons (.lit (.int 3)) .nil))) (.cons (.tup (.cons (.lit (.int 4)) (.cons (.lit (.int 3)) .nil))) (.cons (.tup (.cons (.lit (.int 3)) (.cons (.lit (.int 4)) .nil))) .nil)))))) .nil)
noncomputable def nm_law_shapes : List PySem.Str := []
/- 26: _law_at ; 0 script, 1 k -/
noncomputable def b_law_at : B := (.cons (.ret (.ite (.cmp .lt (.loc 1) (.len (.loc 0))) (.idx (.loc 0) (.loc 1)) (.lit (.int 0)))) .nil)
noncomputable def nm_law_at : List PySem.Str := ["script", "k"]
/- 27: _law_xor ; 0 numbers, 1 total, 2 n -/
noncomputable def b_law_xor : B := (.cons (.asn 1 (.lit (.int 0))) (.cons (.loop 2 (.loc 0) (.cons (.aug 1 .bxor (.loc 2)) .nil)) (.cons (.ret (.loc 1)) .nil)))
noncomputable def nm_law_xor : List PySem.Str := ["numbers", "total", "n"]
/- 28: _law_drawn ; 0 drawn, 1 seed, 2 size, 3 files, 4 state, 5 stream, 6 k, 7 rows, 8 man, 9 rest, 10 rights -/
noncomputable def b_law_drawn : B := (.cons (.asn 4 (.bin .mod (.loc 1) (.bin .pow (.lit (.int 2)) (.lit (.int 64))))) (.cons (.ite (.cmp .eq (.loc 4) (.lit (.int 0))) (.cons (.asn 4 (.lit (.int 1))) .nil) .nil) (.cons (.asn 5 (.list .nil)) (.cons (.loop 6 (.rng1 (.bin .add (.bin .add (.bin .mul (.lit (.int 12)) (.loc 2)) (.loc 3)) (.lit (.int 5)))) (.cons (.aug 4 .bxor (.bin .fdiv (.loc 4) (.lit (.int 4096)))) (.cons (.aug 4 .bxor (.bin .mod (.bin .mul (.loc 4) (.bin .pow (.lit (.int 2)) (.lit (.int 25)))) (.bin .pow (.lit (.int 2)) (.lit (.int 64))))) (.cons (.aug 4 .bxor (.bin .fdiv (.loc 4) (.bin .pow (.lit (.int 2)) (.lit (.int 27))))) (.cons (.expr (.append (.loc 5) (.bin .mod (.bin .mul (.loc 4) (.lit (.int 2685821657736338717))) (.bin .pow (.lit (.int 2)) (.lit (.int 64)))))) .nil))))) (.cons (.asn 7 (.list .nil)) (.cons (.loop 8 (.rng1 (.lit (.int 15))) (.cons (.asn 6 (.ite (.cmp .lt (.loc 8) (.lit (.int 8))) (.bin .sub (.loc 8) (.lit (.int 1))) (.bin .sub (.loc 8) (.lit (.int 3))))) (.cons (.expr (.append (.loc 7) (.ite (.mem false (.bin .mod (.loc 8) (.lit (.int 8))) [0, 7]) (.slBt (.loc 5) (.bin .mul (.loc 6) (.loc 2)) (.bin .mul (.bin .add (.loc 6) (.lit (.int 1))) (.loc 2))) (.list .nil)))) .nil))) (.cons (.asn 9 (.slFrom (.loc 5) (.bin .mul (.lit (.int 12)) (.loc 2)))) (.cons (.asn 10 (.comp (.call 27 (.cons (.compIf (.idx (.loc 9) (.bin .add (.loc 3) (.loc 12))) (.rng1 (.lit (.int 4))) (.bin .band (.bin .shr (.loc 11) (.loc 12)) (.lit (.int 1)))) .nil)) (.rng1 (.lit (.int 16))))) (.cons (.ret (.cmp .eq (.list (.cons (.attr (.loc 0) 1) (.cons (.attr (.loc 0) 2) (.cons (.attr (.loc 0) 3) (.cons (.attr (.loc 0) 4) .nil))))) (.list (.cons (.loc 7) (.cons (.slTo (.loc 9) (.loc 3)) (.cons (.loc 10) (.cons (.idx (.loc 9) (.bin .add (.loc 3) (.lit (.int 4)))) .nil))))))) .nil)))))))))
noncomputable def nm_law_drawn : List PySem.Str := ["drawn", "seed", "size", "files", "state", "stream", "k", "rows", "man", "rest", "rights"]
/- 29: _law_place ; 0 men, 1 size, 2 numbers, 3 cells, 4 i, 5 n -/
noncomputable def b_law_place : B := (.cons (.asn 3 (.bin .mul (.list (.cons (.lit (.int 0)) .nil)) (.loc 1))) (.cons (.loop 4 (.rng1 (.len (.loc 0))) (.cons (.asn 5 (.call 26 (.cons (.loc 2) (.cons (.loc 4) .nil)))) (.cons (.setidx (.loc 3) (.idx (.compIf (.bin .mod (.bin .add (.loc 5) (.loc 6)) (.loc 1)) (.rng1 (.loc 1)) (.cmp .eq (.idx (.loc 3) (.bin .mod (.bin .add (.loc 5) (.loc 6)) (.loc 1))) (.lit (.int 0)))) (.lit (.int 0))) (.idx (.loc 0) (.loc 4))) .nil))) (.cons (.ret (.loc 3)) .nil)))
noncomputable def nm_law_place : List PySem.Str := ["men", "size", "numbers", "cells", "i", "n"]
/- 30: _law_position ; 0 geo, 1 zob, 2 cells, 3 n, 4 backward, 5 pos, 6 order, 7 s -/
noncomputable def b_law_position : B := (.cons (.asn 5 (.new 4 (.cons (.loc 0) (.cons (.loc 1) .nil)))) (.cons (.asn 6 (.listOf (.rng1 (.len (.loc 2))))) (.cons (.ite (.loc 4) (.cons (.asn 6 (.rev (.loc 6))) .nil) .nil) (.cons (.loop 7 (.loc 6) (.cons (.ite (.cmp .ne (.idx (.loc 2) (.loc 7)) (.lit (.int 0))) (.cons (.expr (.call 23 (.cons (.loc 5) (.cons (.idx (.loc 2) (.loc 7)) (.cons (.loc 7) .nil))))) .nil) .nil) .nil)) (.cons (.setattr (.loc 5) 4 (.bin .mod (.loc 3) (.lit (.int 2)))) (.cons (.setattr (.loc 5) 3 (.bin .mod (.bin .fdiv (.loc 3) (.lit (.int 2))) (.lit (.int 16)))) (.cons (.setattr (.loc 5) 2 (.bin .sub (.bin .mod (.bin .fdiv (.loc 3) (.lit (.int 32))) (.bin .add (.len (.loc 2)) (.lit (.int 1)))) (.lit (.int 1)))) (.cons (.ret (.loc 5)) .nil))))))))
noncomputable def nm_law_position : List PySem.Str := ["geo", "zob", "cells", "n", "backward", "pos", "order", "s"]
/- 31: _law_told ; 0 pos, 1 zob, 2 cells, 3 files, 4 size, 5 pawns, 6 others, 7 who, 8 state, 9 rows -/
noncomputable def b_law_told : B := (.cons (.asn 4 (.len (.loc 2))) (.cons (.asn 5 (.call 27 (.cons (.compIf (.idx (.idx (.attr (.loc 1) 1) (.idx (.loc 2) (.loc 10))) (.loc 10)) (.rng1 (.loc 4)) (.cmp .eq (.bin .mod (.idx (.loc 2) (.loc 10)) (.lit (.int 8))) (.lit (.int 1)))) .nil))) (.cons (.asn 6 (.list .nil)) (.cons (.loop 7 (.tup (.cons (.lit (.int 0)) (.cons (.lit (.int 1)) .nil))) (.cons (.expr (.append (.loc 6) (.call 27 (.cons (.compIf (.idx (.idx (.attr (.loc 1) 1) (.idx (.loc 2) (.loc 10))) (.loc 10)) (.rng1 (.loc 4)) (.and (.cmp .gt (.bin .mod (.idx (.loc 2) (.loc 10)) (.lit (.int 8))) (.lit (.int 1))) (.cmp .eq (.bin .fdiv (.idx (.loc 2) (.loc 10)) (.lit (.int 8))) (.loc 7)))) .nil)))) .nil)) (.cons (.asn 8 (.idx (.attr (.loc 1) 3) (.attr (.loc 0) 3))) (.cons (.ite (.cmp .ge (.attr (.loc 0) 2) (.lit (.int 0))) (.cons (.aug 8 .bxor (.idx (.attr (.loc 1) 2) (.bin .mod (.attr (.loc 0) 2) (.loc 3)))) .nil) .nil) (.cons (.ite (.cmp .eq (.attr (.loc 0) 4) (.lit (.int 1))) (.cons (.aug 8 .bxor (.attr (.loc 1) 4)) .nil) .nil) (.cons (.ite (.or (.cmp .ne (.call 10 (.cons (.loc 0) .nil)) (.loc 5)) (.or (.cmp .ne (.list (.cons (.call 11 (.cons (.loc 0) (.cons (.lit (.int 0)) .nil))) (.cons (.call 11 (.cons (.loc 0) (.cons (.lit (.int 1)) .nil))) .nil))) (.loc 6)) (.cmp .ne (.call 8 (.cons (.loc 0) .nil)) (.loc 8)))) (.cons (.ret (.lit (.bool false))) .nil) .nil) (.cons (.ite (.or (.cmp .ne (.attr (.loc 0) 26) (.bin .bxor (.bin .bxor (.loc 5) (.idx (.loc 6) (.lit (.int 0)))) (.idx (.loc 6) (.lit (.int 1))))) (.cmp .ne (.call 9 (.cons (.loc 0) .nil)) (.bin .bxor (.attr (.loc 0) 26) (.loc 8)))) (.cons (.ret (.lit (.bool false))) .nil) .nil) (.cons (.expr (.call 24 (.cons (.loc 0) .nil))) (.cons (.asn 9 (.comp (.slTo (.idx (.attr (.loc 1) 1) (.loc 10)) (.count (.loc 2) (.loc 10))) (.bin .add (.tup (.cons (.lit (.int 6)) (.cons (.lit (.int 14)) .nil))) (.lit (.ref 0))))) (.cons (.ret (.and (.cmp .eq (.attr (.loc 0) 26) (.call 9 (.cons (.loc 0) .nil))) (.cmp .eq (.call 12 (.cons (.loc 0) .nil)) (.call 27 (.cons (.comp (.call 27 (.cons (.loc 10) .nil)) (.loc 9)) .nil))))) .nil))))))))))))
noncomputable def nm_law_told : List PySem.Str := ["pos", "zob", "cells", "files", "size", "pawns", "others", "who", "state", "rows"]
/- 32: _law_alike ; 0 one, 1 two, 2 first, 3 second, 4 files, 5 pawns, 6 who, 7 men, 8 files_passed, 9 same -/
noncomputable def b_law_alike : B := (.cons (.asn 5 (.comp (.comp (.ite (.cmp .eq (.bin .mod (.loc 11) (.lit (.int 8))) (.lit (.int 1))) (.loc 11) (.lit (.int 0))) (.loc 10)) (.tup (.cons (.loc 0) (.cons (.loc 1) .nil))))) (.cons (.ite (.cmp .ne (.cmp .eq (.call 10 (.cons (.loc 2) .nil)) (.call 10 (.cons (.loc 3) .nil))) (.cmp .eq (.idx (.loc 5) (.lit (.int 0))) (.idx (.loc 5) (.lit (.int 1))))) (.cons (.ret (.lit (.bool false))) .nil) .nil) (.cons (.loop 6 (.tup (.cons (.lit (.int 0)) (.cons (.lit (.int 1)) .nil))) (.cons (.asn 7 (.comp (.comp (.ite (.and (.cmp .gt (.bin .mod (.loc 11) (.lit (.int 8))) (.lit (.int 1))) (.cmp .eq (.bin .fdiv (.loc 11) (.lit (.int 8))) (.loc 6))) (.loc 11) (.lit (.int 0))) (.loc 10)) (.tup (.cons (.loc 0) (.cons (.loc 1) .nil))))) (.cons (.ite (.cmp .ne (.cmp .eq (.call 11 (.cons (.loc 2) (.cons (.loc 6) .nil))) (.call 11 (.cons (.loc 3) (.cons (.loc 6) .nil)))) (.cmp .eq (.idx (.loc 7) (.lit (.int 0))) (.idx (.loc 7) (.lit (.int 1))))) (.cons (.ret (.lit (.bool false))) .nil) .nil) .nil))) (.cons (.ite (.cmp .ne (.cmp .eq (.call 12 (.cons (.loc 2) .nil)) (.call 12 (.cons (.loc 3) .nil))) (.cmp .eq (.sorted (.loc 0)) (.sorted (.loc 1)))) (.cons (.ret (.lit (.bool false))) .nil) .nil) (.cons (.asn 8 (.comp (.ite (.cmp .ge (.attr (.loc 10) 2) (.lit (.int 0))) (.bin .mod (.attr (.loc 10) 2) (.loc 4)) (.neg (.lit (.int 1)))) (.tup (.cons (.loc 2) (.cons (.loc 3) .nil))))) (.cons (.asn 9 (.and (.cmp .eq (.loc 0) (.loc 1)) (.and (.cmp .eq (.attr (.loc 2) 4) (.attr (.loc 3) 4)) (.cmp .eq (.attr (.loc 2) 3) (.attr (.loc 3) 3))))) (.cons (.ret (.cmp .eq (.cmp .eq (.attr (.loc 2) 26) (.attr (.loc 3) 26)) (.and (.loc 9) (.cmp .eq (.idx (.loc 8) (.lit (.int 0))) (.idx (.loc 8) (.lit (.int 1))))))) .nil)))))))
noncomputable def nm_law_alike : List PySem.Str := ["one", "two", "first", "second", "files", "pawns", "who", "men", "files_passed", "same"]
/- 33: law ; 0 script, 1 files, 2 ranks, 3 size, 4 geo, 5 drawn, 6 top, 7 rows, 8 man, 9 row, 10 ep, 11 rights, 12 zob, 13 men, 14 one, 15 v, 16 two, 17 spot, 18 first, 19 second -/
noncomputable def b_law : B := (.cons (.asn 0 (.slTo (.loc 0) (.lit (.int 32)))) (.cons (.asn2 1 2 (.idx (.call 25 .nil) (.bin .mod (.call 26 (.cons (.loc 0) (.cons (.lit (.int 0)) .nil))) (.lit (.int 4))))) (.cons (.asn 3 (.bin .mul (.loc 1) (.loc 2))) (.cons (.asn 4 (.call 21 (.cons (.loc 1) (.cons (.loc 2) (.cons (.lit (.bool false)) (.cons (.lit (.bool false)) .nil)))))) (.cons (.asn 5 (.call 7 (.cons (.loc 4) (.cons (.call 26 (.cons (.loc 0) (.cons (.lit (.int 1)) .nil))) .nil)))) (.cons (.ite (.not (.call 28 (.cons (.loc 5) (.cons (.call 26 (.cons (.loc 0) (.cons (.lit (.int 1)) .nil))) (.cons (.loc 3) (.cons (.loc 1) .nil)))))) (.cons (.ret (.lit (.bool false))) .nil) .nil) (.cons (.asn 6 (.bin .add (.lit (.int 64)) (.bin .mul (.lit (.int 15)) (.loc 3)))) (.cons (.asn 7 (.list .nil)) (.cons (.loop 8 (.rng1 (.lit (.int 15))) (.cons (.asn 9 (.idx (.attr (.loc 5) 1) (.loc 8))) (.cons (.expr (.append (.loc 7) (.comp (.bin .bor (.idx (.loc 9) (.loc 20)) (.bin .shl (.lit (.int 1)) (.bin .add (.bin .add (.lit (.int 64)) (.bin .mul (.loc 8) (.loc 3))) (.loc 20)))) (.rng1 (.len (.loc 9)))))) .nil))) (.cons (.asn 10 (.comp (.bin .bor (.idx (.attr (.loc 5) 2) (.loc 20)) (.bin .shl (.lit (.int 1)) (.bin .add (.loc 6) (.loc 20)))) (.rng1 (.loc 1)))) (.cons (.asn 11 (.comp (.bin .bor (.idx (.attr (.loc 5) 3) (.loc 20)) (.bin .shl (.loc 20) (.bin .add (.loc 6) (.loc 1)))) (.rng1 (.lit (.int 16))))) (.cons (.asn 12 (.new 1 (.cons (.loc 7) (.cons (.loc 10) (.cons (.loc 11) (.cons (.bin .bor (.attr (.loc 5) 4) (.bin .shl (.lit (.int 1)) (.bin .add (.bin .add (.loc 6) (.loc 1)) (.lit (.int 4))))) .nil)))))) (.cons (.asn 13 (.slTo (.bin .add (.list (.cons (.lit (.int 6)) (.cons (.lit (.int 14)) .nil))) (.comp (.idx (.lit (.ref 0)) (.bin .mod (.loc 20) (.lit (.int 10)))) (.slBt (.loc 0) (.lit (.int 6)) (.lit (.int 14))))) (.loc 3))) (.cons (.asn 14 (.call 29 (.cons (.loc 13) (.cons (.loc 3) (.cons (.slBt (.loc 0) (.lit (.int 14)) (.lit (.int 23))) .nil))))) (.cons (.asn 15 (.call 26 (.cons (.loc 0) (.cons (.lit (.int 2)) .nil)))) (.cons (.ite (.cmp .eq (.bin .mod (.loc 15) (.lit (.int 2))) (.lit (.int 0))) (.cons (.asn 16 (.call 29 (.cons (.rev (.loc 13)) (.cons (.loc 3) (.cons (.slBt (.loc 0) (.lit (.int 23)) (.lit (.int 32))) .nil))))) .nil) (.cons (.asn 16 (.listOf (.loc 14))) .nil)) (.cons (.asn 17 (.bin .mod (.bin .fdiv (.loc 15) (.lit (.int 4))) (.loc 3))) (.cons (.ite (.and (.cmp .eq (.bin .mod (.bin .fdiv (.loc 15) (.lit (.int 2))) (.lit (.int 2))) (.lit (.int 1))) (.mem false (.bin .mod (.idx (.loc 16) (.loc 17)) (.lit (.int 8))) [0, 6])) (.cons (.setidx (.loc 16) (.loc 17) (.idx (.lit (.ref 0)) (.bin .mod (.bin .fdiv (.bin .fdiv (.loc 15) (.lit (.int 4))) (.loc 3)) (.lit (.int 10))))) .nil) .nil) (.cons (.asn 18 (.call 30 (.cons (.loc 4) (.cons (.loc 12) (.cons (.loc 14) (.cons (.call 26 (.cons (.loc 0) (.cons (.lit (.int 3)) .nil))) (.cons (.lit (.bool false)) .nil))))))) (.cons (.asn 19 (.call 30 (.cons (.loc 4) (.cons (.loc 12) (.cons (.loc 16) (.cons (.bin .add (.call 26 (.cons (.loc 0) (.cons (.lit (.int 3)) .nil))) (.call 26 (.cons (.loc 0) (.cons (.lit (.int 4)) .nil)))) (.cons (.lit (.bool true)) .nil))))))) (.cons (.ite (.or (.not (.call 31 (.cons (.loc 18) (.cons (.loc 12) (.cons (.loc 14) (.cons (.loc 1) .nil)))))) (.not (.call 31 (.cons (.loc 19) (.cons (.loc 12) (.cons (.loc 16) (.cons (.loc 1) .nil))))))) (.cons (.ret (.lit (.bool false))) .nil) .nil) (.cons (.ret (.call 32 (.cons (.loc 14) (.cons (.loc 16) (.cons (.loc 18) (.cons (.loc 19) (.cons (.loc 1) .nil))))))) .nil))))))))))))))))))))))
noncomputable def nm_law : List PySem.Str := ["script", "files", "ranks", "size", "geo", "drawn", "top", "rows", "man", "row", "ep", "rights", "zob", "men", "one", "v", "two", "spot", "first", "second"]
noncomputable def fnOf : Nat → Option Fn
  | 0 => some ⟨1, 1, b_side_of⟩
  | 1 => some ⟨1, 1, b_kind_of⟩
  | 2 => some ⟨2, 2, b_Random_init⟩
  | 3 => some ⟨1, 2, b_Random_next⟩
  | 4 => some ⟨5, 5, b_Zobrist_init⟩
  | 5 => some ⟨2, 4, b_draw_row⟩
  | 6 => some ⟨1, 5, b_rights_row⟩
  | 7 => some ⟨2, 7, b_make_zobrist⟩
  | 8 => some ⟨1, 3, b_state_key⟩
  | 9 => some ⟨1, 5, b_full_key⟩
  | 10 => some ⟨1, 5, b_pawn_key⟩
  | 11 => some ⟨2, 6, b_non_pawn_key⟩
  | 12 => some ⟨1, 5, b_material_key⟩
  | 13 => some ⟨5, 5, b_Geometry_init⟩
  | 14 => some ⟨1, 1, b_is_growing⟩
  | 15 => some ⟨1, 5, b_add_masks⟩
  | 16 => some ⟨2, 3, b_inner_squares⟩
  | 17 => some ⟨1, 8, b_add_rays⟩
  | 18 => some ⟨1, 2, b_add_pawns⟩
  | 19 => some ⟨1, 11, b_add_knights⟩
  | 20 => some ⟨1, 7, b_add_castles⟩
  | 21 => some ⟨4, 5, b_make_geometry⟩
  | 22 => some ⟨3, 3, b_Position_init⟩
  | 23 => some ⟨3, 4, b_put_piece⟩
  | 24 => some ⟨1, 1, b_settle_key⟩
  | 25 => some ⟨0, 0, b_law_shapes⟩
  | 26 => some ⟨2, 2, b_law_at⟩
  | 27 => some ⟨1, 3, b_law_xor⟩
  | 28 => some ⟨4, 11, b_law_drawn⟩
  | 29 => some ⟨3, 6, b_law_place⟩
  | 30 => some ⟨5, 8, b_law_position⟩
  | 31 => some ⟨4, 10, b_law_told⟩
  | 32 => some ⟨5, 10, b_law_alike⟩
  | 33 => some ⟨1, 20, b_law⟩
  | _ => none
noncomputable def initOf : Nat → Option Nat
  | 0 => some 2
  | 1 => some 4
  | 3 => some 13
  | 4 => some 22
  | _ => none
noncomputable def methOf : Nat → Nat → Option Nat
  | 0, 5 => some 3
  | _, _ => none
noncomputable abbrev tab : Tab := ⟨fnOf, initOf, methOf⟩
/- attributes: 0 state, 1 pieces, 2 ep, 3 rights, 4 side, 5 next, 6 size, 7 files, 8 zob, 9 geo, 10 board, 11 ranks, 12 full, 13 has_double, 14 has_castling, 15 file_masks, 16 rank_masks, 17 rays, 18 king, 19 knight, 20 pawn, 21 castles, 22 rights_lost, 23 kinds, 24 sides, 25 half, 26 key, 27 history -/
noncomputable def attrs : List PySem.Str := ["state", "pieces", "ep", "rights", "side", "next", "size", "files", "zob", "geo", "board", "ranks", "full", "has_double", "has_castling", "file_masks", "rank_masks", "rays", "king", "knight", "pawn", "castles", "rights_lost", "kinds", "sides", "half", "key", "history"]
/- functions: 0 side_of, 1 kind_of, 2 Random_init, 3 Random_next, 4 Zobrist_init, 5 draw_row, 6 rights_row, 7 make_zobrist, 8 state_key, 9 full_key, 10 pawn_key, 11 non_pawn_key, 12 material_key, 13 Geometry_init, 14 is_growing, 15 add_masks, 16 inner_squares, 17 add_rays, 18 add_pawns, 19 add_knights, 20 add_castles, 21 make_geometry, 22 Position_init, 23 put_piece, 24 settle_key, 25 law_shapes, 26 law_at, 27 law_xor, 28 law_drawn, 29 law_place, 30 law_position, 31 law_told, 32 law_alike, 33 law -/
/- classes: 0 Random, 1 Zobrist, 2 ChessError, 3 Geometry, 4 Position -/
end Mz
end

section
open PySem PySem.W PyProof.Rows
set_option Elab.async false
set_option autoImplicit false

set_option tactic.hygienic false
namespace Mz

noncomputable abbrev RMap := List (Addr × Addr)

inductive All2 {α β : Type} (R : α → β → Prop) : List α → List β → Prop where
  | nil : All2 R [] []
  | cons {a : α} {b : β} {as : List α} {bs : List β} : R a b → All2 R as bs → All2 R (a :: as) (b :: bs)

namespace All2
variable {α β : Type} {R S : α → β → Prop}
theorem imp {as : List α} {bs : List β} (h : All2 R as bs) (f : ∀ a b, R a b → S a b) : All2 S as bs := by
  induction h with
  | nil => exact .nil
  | cons r _ ih => exact .cons (f _ _ r) ih
theorem length {as : List α} {bs : List β} (h : All2 R as bs) : as.length = bs.length := by
  induction h with
  | nil => rfl
  | cons _ _ ih => simp [ih]
theorem get {as : List α} {bs : List β} (h : All2 R as bs) : ∀ {i : Nat} {a : α}, as[i]? = some a → ∃ b, bs[i]? = some b ∧ R a b := by
  induction h with
  | nil => intro i a e; simp at e
  | cons r _ ih =>
    intro i a e
    cases i with
    | zero => simp at e; subst e; exact ⟨_, by simp, r⟩
    | succ i => simp at e; obtain ⟨b, hb, hr⟩ := ih e; exact ⟨b, by simpa using hb, hr⟩
theorem append {as cs : List α} {bs ds : List β} (h : All2 R as bs) (h' : All2 R cs ds) : All2 R (as ++ cs) (bs ++ ds) := by
  induction h with
  | nil => exact h'
  | cons r _ ih => exact .cons r ih
theorem set {as : List α} {bs : List β} (h : All2 R as bs) {a : α} {b : β} (r : R a b) : ∀ i : Nat, All2 R (as.set i a) (bs.set i b) := by
  induction h with
  | nil => intro i; simp; exact .nil
  | cons r' t ih =>
    intro i
    cases i with
    | zero => simp; exact .cons r t
    | succ i => simp; exact .cons r' (ih i)
theorem take {as : List α} {bs : List β} (h : All2 R as bs) : ∀ i : Nat, All2 R (as.take i) (bs.take i) := by
  induction h with
  | nil => intro i; simp; exact .nil
  | cons r t ih =>
    intro i
    cases i with
    | zero => simp; exact .nil
    | succ i => simp; exact .cons r (ih i)
theorem drop {as : List α} {bs : List β} (h : All2 R as bs) : ∀ i : Nat, All2 R (as.drop i) (bs.drop i) := by
  induction h with
  | nil => intro i; simp; exact .nil
  | cons r t ih =>
    intro i
    cases i with
    | zero => simp; exact .cons r t
    | succ i => simpa using ih i
theorem reverse {as : List α} {bs : List β} (h : All2 R as bs) : All2 R as.reverse bs.reverse := by
  induction h with
  | nil => exact .nil
  | cons r _ ih => simp only [List.reverse_cons]; exact ih.append (.cons r .nil)
theorem replicate {a : α} {b : β} (r : R a b) : ∀ n : Nat, All2 R (List.replicate n a) (List.replicate n b)
  | 0 => by simp; exact .nil
  | n + 1 => by simp only [List.replicate_succ]; exact .cons r (replicate r n)
end All2

noncomputable def VR (ρ : RMap) : V → Value → Prop
  | .none, v => v = .none
  | .bool b, v => v = .bool b
  | .int i, v => ∃ t, v = .int i t
  | .ref k, v => ∃ p, ρ[k]? = some p ∧ v = .ref p.1

set_option genInjectivity false in
structure Gd where
  prog : Program
  w : World
  base : Heap
  K : Frag
  mg : Str → Option Value
  mb : Str → Option Value
  T : Tab
  glob : Str → Option V
  fn : Str → Option Nat
  cls : Str → Option Nat
  attrs : List Str
  fnA : Nat → Option Addr
  clsA : Nat → Option Addr
  isField : Nat → Bool
  ρ₀ : RMap

noncomputable def FR (G : Gd) (ρ : RMap) (f : Nat × V) (e : DictEntry) : Prop :=
  ∃ x t, G.attrs[f.1]? = some x ∧ e.key = .str x t ∧ VR ρ f.2 e.val

noncomputable def ObjAt (G : Gd) (ρ : RMap) (h : Heap) (p : Addr × Addr) : O → Prop
  | .list vs => p.2 = p.1 ∧ G.base.get? p.1 = none ∧ ∃ xs n, All2 (VR ρ) vs xs ∧ h.get? p.1 = some (listOf xs.toArray n)
  | .tup vs => p.2 = p.1 ∧ ∃ xs n, All2 (VR ρ) vs xs ∧ h.get? p.1 = some { cls := .type "tuple", data := .seq xs.toArray n }
  | .rng a c n => p.2 = p.1 ∧ ∃ b t u v, IsRange h p.1 a b c t u v ∧ Builtin.Range.small a b c = true ∧ Builtin.Range.rangeSize a b c = (n : Int)
  | .ro vs => p.2 = p.1 ∧ ∃ xs : List Value, All2 (VR ρ) vs xs ∧ h.IsList p.1 xs.toArray
  | .inst c fs => p.1 ≠ p.2 ∧ G.base.get? p.1 = none ∧ G.base.get? p.2 = none ∧ ∃ C es n, G.clsA c = some C ∧ h.get? p.1 = some (instObj C p.2) ∧ h.get? p.2 = some (dictOf es n) ∧ All2 (FR G ρ) fs es

structure Rep (G : Gd) (ρ : RMap) (H : Hp) (h : Heap) : Prop where
  len : ρ.length = H.length
  at_ : ∀ (k : Nat) o, H[k]? = some o → ∃ p, ρ[k]? = some p ∧ ObjAt G ρ h p o
  apart : ∀ (i j : Nat) p q, ρ[i]? = some p → ρ[j]? = some q → i ≠ j → p.1 ≠ q.1 ∧ p.1 ≠ q.2 ∧ p.2 ≠ q.1 ∧ p.2 ≠ q.2

structure Sim (G : Gd) (ρ : RMap) (H : Hp) (s : Shared) : Prop where
  rep : Rep G ρ H s.heap
  keep : ∀ b o, G.base.get? b = some o → s.heap.get? b = some o
  pre : G.ρ₀ <+: ρ

noncomputable def Off (ρ : RMap) (a : Addr) : Prop := ∀ p ∈ ρ, p.1 ≠ a ∧ p.2 ≠ a

structure Stp (own : List Addr) (ρ ρ' : RMap) (s s' : Shared) : Prop where
  st : ∃ h tk, s' = { s with heap := h, toks := tk }
  pre : ρ <+: ρ'
  new : ∀ p ∈ ρ'.drop ρ.length, s.heap.get? p.1 = none ∧ s.heap.get? p.2 = none
  keep : ∀ b o, b ∉ own → Off ρ b → s.heap.get? b = some o → s'.heap.get? b = some o
  live : ∀ b o, s.heap.get? b = some o → ∃ o', s'.heap.get? b = some o'

theorem VR.mono {ρ ρ' : RMap} (hp : ρ <+: ρ') {v : V} {x : Value} (h : VR ρ v x) : VR ρ' v x := by
  cases v with
  | ref k =>
    obtain ⟨p, hk, rfl⟩ := h
    obtain ⟨t, rfl⟩ := hp
    refine ⟨p, ?_, rfl⟩
    rw [List.getElem?_append_left]
    · exact hk
    · exact (List.getElem?_eq_some_iff.mp hk).1
  | _ => exact h
theorem vrs_mono {ρ ρ' : RMap} (hp : ρ <+: ρ') {vs : List V} {xs : List Value} (h : All2 (VR ρ) vs xs) : All2 (VR ρ') vs xs := h.imp fun _ _ r => r.mono hp
theorem FR.mono {G : Gd} {ρ ρ' : RMap} (hp : ρ <+: ρ') {f : Nat × V} {e : DictEntry} (h : FR G ρ f e) : FR G ρ' f e :=
  let ⟨x, t, h1, h2, h3⟩ := h; ⟨x, t, h1, h2, h3.mono hp⟩

theorem ObjAt.mono {G : Gd} {ρ ρ' : RMap} {h h' : Heap} {p : Addr × Addr} {o : O} (hp : ρ <+: ρ') (x : ObjAt G ρ h p o)
    (k1 : ∀ q, h.get? p.1 = some q → h'.get? p.1 = some q) (k2 : ∀ q, h.get? p.2 = some q → h'.get? p.2 = some q) : ObjAt G ρ' h' p o := by
  cases o with
  | list vs => obtain ⟨e, b, xs, n, a, g⟩ := x; exact ⟨e, b, xs, n, vrs_mono hp a, k1 _ g⟩
  | tup vs => obtain ⟨e, xs, n, a, g⟩ := x; exact ⟨e, xs, n, vrs_mono hp a, k1 _ g⟩
  | ro vs => obtain ⟨e, xs, a, o, g, r⟩ := x; exact ⟨e, xs, vrs_mono hp a, o, k1 _ g, r⟩
  | rng a c n => obtain ⟨e, b, t, u, v, g, r⟩ := x; exact ⟨e, b, t, u, v, k1 _ g, r⟩
  | inst c fs =>
    obtain ⟨e, b1, b2, C, es, n, hc, g1, g2, a⟩ := x
    exact ⟨e, b1, b2, C, es, n, hc, k1 _ g1, k2 _ g2, a.imp fun _ _ r => r.mono hp⟩

theorem mem_of_get {α : Type} {l : List α} {i : Nat} {a : α} (h : l[i]? = some a) : a ∈ l := List.mem_of_getElem? h
theorem get_of_mem {α : Type} {l : List α} {a : α} (h : a ∈ l) : ∃ i : Nat, l[i]? = some a := List.getElem?_of_mem h

theorem Stp.refl (own : List Addr) (ρ : RMap) (s : Shared) : Stp own ρ ρ s s :=
  ⟨⟨s.heap, s.toks, rfl⟩, List.prefix_refl _, by simp, fun _ _ _ _ e => e, fun _ o e => ⟨o, e⟩⟩

theorem Stp.off {own : List Addr} {ρ ρ' : RMap} {s s' : Shared} (x : Stp own ρ ρ' s s') {a : Addr} {o : Obj} (h : Off ρ a) (ha : s.heap.get? a = some o) : Off ρ' a := by
  intro p hm
  have hs : ρ' = ρ ++ ρ'.drop ρ.length := by
    obtain ⟨t, rfl⟩ := x.pre
    simp
  rw [hs] at hm
  rcases List.mem_append.mp hm with h1 | h1
  · exact h p h1
  · obtain ⟨n1, n2⟩ := x.new p h1
    exact ⟨fun e => (by rw [e] at n1; rw [n1] at ha; cases ha), fun e => (by rw [e] at n2; rw [n2] at ha; cases ha)⟩

theorem Stp.trans {own : List Addr} {ρ ρ' ρ'' : RMap} {s s' s'' : Shared} (x : Stp own ρ ρ' s s') (y : Stp own ρ' ρ'' s' s'') : Stp own ρ ρ'' s s'' := by
  refine ⟨?_, x.pre.trans y.pre, ?_, ?_, ?_⟩
  · obtain ⟨h, tk, rfl⟩ := x.st
    obtain ⟨h', tk', rfl⟩ := y.st
    exact ⟨h', tk', rfl⟩
  · intro p hm
    obtain ⟨t, ht⟩ := x.pre
    obtain ⟨t', ht'⟩ := y.pre
    subst ht
    subst ht'
    simp only [List.append_assoc, List.drop_left] at hm
    rcases List.mem_append.mp hm with h1 | h1
    · exact x.new p (by simpa using h1)
    · have := y.new p (by simpa using h1)
      refine ⟨?_, ?_⟩
      · cases hq : s.heap.get? p.1 with
        | none => rfl
        | some o => obtain ⟨o', ho'⟩ := x.live _ _ hq; rw [this.1] at ho'; cases ho'
      · cases hq : s.heap.get? p.2 with
        | none => rfl
        | some o => obtain ⟨o', ho'⟩ := x.live _ _ hq; rw [this.2] at ho'; cases ho'
  · intro b o hb ho e
    exact y.keep b o hb (x.off ho e) (x.keep b o hb ho e)
  · intro b o e
    obtain ⟨o', e'⟩ := x.live b o e
    exact y.live b o' e'

theorem Stp.own_mono {own own' : List Addr} {ρ ρ' : RMap} {s s' : Shared} (x : Stp own ρ ρ' s s') (h : ∀ a ∈ own, a ∈ own') : Stp own' ρ ρ' s s' :=
  ⟨x.st, x.pre, x.new, fun b o hb => x.keep b o fun hm => hb (h b hm), x.live⟩

theorem Stp.drop_own {own : List Addr} {ρ ρ' : RMap} {s s' : Shared} (x : Stp own ρ ρ' s s') (own' : List Addr) (h : ∀ a ∈ own, a ∈ own' ∨ s.heap.get? a = none) : Stp own' ρ ρ' s s' :=
  ⟨x.st, x.pre, x.new, fun b o hb ho e => x.keep b o (fun hm => (h b hm).elim hb fun hn => by rw [hn] at e; cases e) ho e, x.live⟩

structure Lc (G : Gd) (nm : List Str) (kd : Str → Option NameKind) (env : Env) (ρ : RMap) (l : Loc) (s : Shared) : Prop where
  kind : env.scope.kind = .function
  kinds : ∀ x, env.kindOf x = kd x
  gl : env.globals = mainGlobals
  bl : env.builtins = builtinsNs
  above : G.base.objs.size ≤ env.locals
  ns : ∃ m, s.heap.Ns env.locals m ∧ ∀ (i : Nat) x v, nm[i]? = some x → l[i]? = some (some v) → kd x = some .local → ∃ val, m x = some val ∧ VR ρ v val
  offL : Off ρ env.locals
  cells : ∀ x, (kd x = some .cell ∨ kd x = some .free) → ∃ c, env.cells.lookup x = some c ∧ (∃ v, s.heap.IsCell c v) ∧ c ≠ env.locals ∧ Off ρ c ∧ G.base.get? c = none
  cval : ∀ (i : Nat) x v c, nm[i]? = some x → l[i]? = some (some v) → (kd x = some .cell ∨ kd x = some .free) → env.cells.lookup x = some c → ∃ val, s.heap.IsCell c (some val) ∧ VR ρ v val
  cinj : ∀ x y c, (kd x = some .cell ∨ kd x = some .free) → (kd y = some .cell ∨ kd y = some .free) → env.cells.lookup x = some c → env.cells.lookup y = some c → x = y
  nodup : nm.Nodup
  len : l.length = nm.length

structure Ar (A : Around) (d : Nat) : Prop where
  handled : A.handled = none
  depth : A.depth + 4 * d + 8 < recursionLimit
  units : A.units + 20 * d + 100 < cLine
structure ArF (A : Around) (d : Nat) : Prop where
  handled : A.handled = none
  depth : A.depth + 4 * d + 6 < recursionLimit
  units : A.units + 20 * d + 95 < cLine
theorem Ar.f {A : Around} {d : Nat} (h : Ar A d) : ArF A d := ⟨h.handled, by have := h.depth; omega, by have := h.units; omega⟩
theorem Ar.new {A : Around} {d : Nat} (h : Ar A d) {C : Addr} {rest : List Value} : ArF (A.under (.builtin "type.__call__" ⟨.ref C :: rest, []⟩)) d := by
  refine ⟨h.handled, ?_, ?_⟩
  · show A.depth + 1 + 4 * d + 6 < recursionLimit
    have := h.depth; omega
  · show A.units + 1 + 20 * d + 95 < cLine
    have := h.units; omega
theorem ArF.deeper {A : Around} {d : Nat} (h : ArF A (d + 1)) (env : Env) : Ar (A.deeper env) d := by
  refine ⟨h.handled, ?_, ?_⟩
  · show A.depth + 1 + 4 * d + 8 < recursionLimit
    have := h.depth; omega
  · show A.units + 3 + 20 * d + 100 < cLine
    have := h.units; omega

theorem Heap.Ns_frame {h : Heap} {L : Addr} {m : Str → Option Value} (x : h.Ns L m) : ∃ o, h.get? L = some o := let ⟨o, _, _, e, _⟩ := x; ⟨o, e⟩

theorem Lc.step {G : Gd} {nm : List Str} {kd : Str → Option NameKind} {env : Env} {ρ ρ' : RMap} {l : Loc} {s s' : Shared}
    (x : Lc G nm kd env ρ l s) (st : Stp [env.locals] ρ ρ' s s') (hm : ∀ m, s.heap.Ns env.locals m → s'.heap.Ns env.locals m) : Lc G nm kd env ρ' l s' where
  kind := x.kind
  kinds := x.kinds
  gl := x.gl
  bl := x.bl
  above := x.above
  ns := by
    obtain ⟨m, hn, hv⟩ := x.ns
    refine ⟨m, hm m hn, fun i y v h1 h2 h3 => ?_⟩
    obtain ⟨val, e, r⟩ := hv i y v h1 h2 h3
    exact ⟨val, e, r.mono st.pre⟩
  offL := by
    obtain ⟨m, hn, _⟩ := x.ns
    obtain ⟨o, ho⟩ := Heap.Ns_frame hn
    exact st.off x.offL ho
  cells := by
    intro y hy
    obtain ⟨c, h1, ⟨v, o, ho, hd⟩, h3, h4, h5⟩ := x.cells y hy
    exact ⟨c, h1, ⟨v, o, st.keep c o (by simpa using h3) h4 ho, hd⟩, h3, st.off h4 ho, h5⟩
  cval := by
    intro i y v c h1 h2 h3 h4
    obtain ⟨val, ⟨o, ho, hd⟩, r⟩ := x.cval i y v c h1 h2 h3 h4
    obtain ⟨c', g1, _, g3, g4, _⟩ := x.cells y h3
    rw [h4] at g1; cases g1
    exact ⟨val, ⟨o, st.keep c o (by simpa using g3) g4 ho, hd⟩, r.mono st.pre⟩
  cinj := x.cinj
  nodup := x.nodup
  len := x.len

theorem Lc.fr {G : Gd} {nm : List Str} {kd : Str → Option NameKind} {env : Env} {ρ : RMap} {l : Loc} {H : Hp} {s : Shared} (x : Lc G nm kd env ρ l s) (S : Sim G ρ H s) :
    ∃ m, Fr G.base env.locals s.heap m := let ⟨m, hn, _⟩ := x.ns; ⟨m, hn, S.keep, x.above⟩

theorem grow {G : Gd} {ρ : RMap} {H : Hp} {s : Shared} {h' : Heap} {tk : Nat} (S : Sim G ρ H s) (hk : ∀ b o, s.heap.get? b = some o → h'.get? b = some o) :
    Sim G ρ H { s with heap := h', toks := tk } ∧ Stp [] ρ ρ s { s with heap := h', toks := tk } := by
  refine ⟨⟨⟨S.rep.len, fun k o e => ?_, S.rep.apart⟩, fun b o e => hk _ _ (S.keep b o e), S.pre⟩, ⟨⟨h', tk, rfl⟩, List.prefix_refl _, by simp, fun b o _ _ e => hk b o e, fun b o e => ⟨o, hk b o e⟩⟩⟩
  obtain ⟨p, hp, x⟩ := S.rep.at_ k o e
  exact ⟨p, hp, x.mono (List.prefix_refl _) (fun q => hk _ q) (fun q => hk _ q)⟩

theorem ObjAt.live {G : Gd} {ρ : RMap} {h : Heap} {p : Addr × Addr} {o : O} (x : ObjAt G ρ h p o) : (∃ q, h.get? p.1 = some q) ∧ ∃ q, h.get? p.2 = some q := by
  cases o with
  | list vs => obtain ⟨e, _, xs, n, a, g⟩ := x; exact ⟨⟨_, g⟩, ⟨_, e ▸ g⟩⟩
  | tup vs => obtain ⟨e, xs, n, a, g⟩ := x; exact ⟨⟨_, g⟩, ⟨_, e ▸ g⟩⟩
  | ro vs => obtain ⟨e, xs, a, o, g, r⟩ := x; exact ⟨⟨_, g⟩, ⟨_, e ▸ g⟩⟩
  | rng a c n => obtain ⟨e, b, t, u, v, g, r⟩ := x; exact ⟨⟨_, g⟩, ⟨_, e ▸ g⟩⟩
  | inst c fs => obtain ⟨e, b1, b2, C, es, n, hc, g1, g2, a⟩ := x; exact ⟨⟨_, g1⟩, ⟨_, g2⟩⟩

theorem Rep.live {G : Gd} {ρ : RMap} {H : Hp} {h : Heap} (R : Rep G ρ H h) {p : Addr × Addr} (hp : p ∈ ρ) : (∃ q, h.get? p.1 = some q) ∧ ∃ q, h.get? p.2 = some q := by
  obtain ⟨i, hi⟩ := get_of_mem hp
  have hlt : i < H.length := by rw [← R.len]; exact (List.getElem?_eq_some_iff.mp hi).1
  obtain ⟨p', e, x⟩ := R.at_ i H[i] (by simp [hlt])
  rw [hi] at e; cases e
  exact x.live

theorem grow_new {G : Gd} {ρ : RMap} {H : Hp} {s : Shared} {h' : Heap} {tk : Nat} {p : Addr × Addr} {o : O} (S : Sim G ρ H s) (hk : ∀ b q, s.heap.get? b = some q → h'.get? b = some q)
    (hp1 : s.heap.get? p.1 = none) (hp2 : s.heap.get? p.2 = none) (ho : ObjAt G (ρ ++ [p]) h' p o) :
    Sim G (ρ ++ [p]) (H ++ [o]) { s with heap := h', toks := tk } ∧ Stp [] ρ (ρ ++ [p]) s { s with heap := h', toks := tk } ∧ VR (ρ ++ [p]) (.ref H.length) (.ref p.1) := by
  have hpre : ρ <+: ρ ++ [p] := ⟨[p], rfl⟩
  have fresh : ∀ q ∈ ρ, q.1 ≠ p.1 ∧ q.1 ≠ p.2 ∧ q.2 ≠ p.1 ∧ q.2 ≠ p.2 := by
    intro q hq
    obtain ⟨⟨o1, e1⟩, ⟨o2, e2⟩⟩ := S.rep.live hq
    refine ⟨fun e => ?_, fun e => ?_, fun e => ?_, fun e => ?_⟩
    · rw [e, hp1] at e1; cases e1
    · rw [e, hp2] at e1; cases e1
    · rw [e, hp1] at e2; cases e2
    · rw [e, hp2] at e2; cases e2
  refine ⟨⟨⟨by simp [S.rep.len], ?_, ?_⟩, fun b q e => hk _ _ (S.keep b q e), S.pre.trans hpre⟩, ⟨⟨h', tk, rfl⟩, hpre, ?_, fun b q _ _ e => hk b q e, fun b q e => ⟨q, hk b q e⟩⟩, ?_⟩
  · intro k q e
    by_cases hlt : k < H.length
    · rw [List.getElem?_append_left hlt] at e
      obtain ⟨r, hr, x⟩ := S.rep.at_ k q e
      refine ⟨r, ?_, x.mono hpre (fun q => hk _ q) (fun q => hk _ q)⟩
      rw [List.getElem?_append_left (by rw [S.rep.len]; exact hlt)]; exact hr
    · have hk' : k = H.length := by
        have := (List.getElem?_eq_some_iff.mp e).1
        simp at this; omega
      subst hk'
      have : q = o := by simpa using e.symm
      subst this
      exact ⟨p, by rw [← S.rep.len]; simp, ho⟩
  · intro i j q r hi hj hij
    rcases Nat.lt_trichotomy i ρ.length with h1 | h1 | h1
    · rw [List.getElem?_append_left h1] at hi
      rcases Nat.lt_trichotomy j ρ.length with h2 | h2 | h2
      · rw [List.getElem?_append_left h2] at hj
        exact S.rep.apart i j q r hi hj hij
      · subst h2
        have : r = p := by simpa using hj.symm
        subst this
        exact fresh q (mem_of_get hi)
      · rw [List.getElem?_eq_none (by simp; omega)] at hj; cases hj
    · subst h1
      have : q = p := by simpa using hi.symm
      subst this
      rcases Nat.lt_trichotomy j ρ.length with h2 | h2 | h2
      · rw [List.getElem?_append_left h2] at hj
        obtain ⟨f1, f2, f3, f4⟩ := fresh r (mem_of_get hj)
        exact ⟨f1.symm, f3.symm, f2.symm, f4.symm⟩
      · exact absurd h2.symm hij
      · rw [List.getElem?_eq_none (by simp; omega)] at hj; cases hj
    · rw [List.getElem?_eq_none (by simp; omega)] at hi; cases hi
  · intro q hq
    simp at hq
    subst hq
    exact ⟨hp1, hp2⟩
  · exact ⟨p, by rw [← S.rep.len]; simp, rfl⟩

theorem change {G : Gd} {ρ : RMap} {H : Hp} {s : Shared} {h' : Heap} {tk : Nat} {k : Nat} {p : Addr × Addr} {o : O} (S : Sim G ρ H s) (hp : ρ[k]? = some p)
    (hk : ∀ b q, b ≠ p.1 → b ≠ p.2 → s.heap.get? b = some q → h'.get? b = some q) (hb1 : G.base.get? p.1 = none) (hb2 : G.base.get? p.2 = none) (ho : ObjAt G ρ h' p o) :
    Sim G ρ (H.set k o) { s with heap := h', toks := tk } ∧ Stp [] ρ ρ s { s with heap := h', toks := tk } := by
  refine ⟨⟨⟨by simp [S.rep.len], fun j q e => ?_, S.rep.apart⟩, fun b q e => ?_, S.pre⟩, ⟨⟨h', tk, rfl⟩, List.prefix_refl _, by simp, fun b q _ hoff e => ?_, fun b q e => ?_⟩⟩
  · by_cases hj : k = j
    · subst hj
      have hlt : k < H.length := by
        have := (List.getElem?_eq_some_iff.mp e).1
        simpa using this
      rw [List.getElem?_set_self hlt] at e
      cases e
      exact ⟨p, hp, ho⟩
    · rw [List.getElem?_set_ne hj] at e
      obtain ⟨r, hr, x⟩ := S.rep.at_ j q e
      obtain ⟨a1, a2, a3, a4⟩ := S.rep.apart j k r p hr hp (Ne.symm hj)
      exact ⟨r, hr, x.mono (List.prefix_refl _) (fun q => hk _ q a1 a2) (fun q => hk _ q a3 a4)⟩
  · refine hk _ _ ?_ ?_ (S.keep b q e)
    · rintro rfl; rw [hb1] at e; cases e
    · rintro rfl; rw [hb2] at e; cases e
  · have := hoff p (mem_of_get hp)
    exact hk _ _ (Ne.symm this.1) (Ne.symm this.2) e
  · by_cases h1 : b = p.1
    · subst h1; exact ho.live.1
    · by_cases h2 : b = p.2
      · subst h2; exact ho.live.2
      · exact ⟨q, hk _ _ h1 h2 e⟩

end Mz
end

section
open PySem PySem.W PyProof.Rows
set_option Elab.async false
set_option autoImplicit false

set_option tactic.hygienic false

namespace Mz

theorem Stp.nsOf {ρ ρ' : RMap} {s s' : Shared} (x : Stp [] ρ ρ' s s') {L : Addr} (hL : Off ρ L) : ∀ m, s.heap.Ns L m → s'.heap.Ns L m := by
  rintro m ⟨o, es, ep, ho, r⟩
  exact ⟨o, es, ep, x.keep L o (by simp) hL ho, r⟩

noncomputable def Done (G : Gd) (L : Addr) (ρ : RMap) (s : Shared) (v : V) (H' : Hp) (x : Value) (s' : Shared) : Prop :=
  ∃ ρ', VR ρ' v x ∧ Sim G ρ' H' s' ∧ Stp [L] ρ ρ' s s' ∧ ∀ m, s.heap.Ns L m → s'.heap.Ns L m

theorem Done.of {G : Gd} {L : Addr} {ρ ρ' : RMap} {s s' : Shared} {v : V} {H' : Hp} {x : Value} (hL : Off ρ L) (hv : VR ρ' v x) (S : Sim G ρ' H' s') (st : Stp [] ρ ρ' s s') : Done G L ρ s v H' x s' :=
  ⟨ρ', hv, S, st.own_mono (by simp), st.nsOf hL⟩

theorem Done.same {G : Gd} {L : Addr} {ρ : RMap} {H : Hp} {s : Shared} {tk : Nat} {v : V} {x : Value} (S : Sim G ρ H s) (hL : Off ρ L) (hv : VR ρ v x) : Done G L ρ s v H x { s with toks := tk } := by
  obtain ⟨S', st⟩ := grow (h' := s.heap) (tk := tk) S (fun _ _ e => e)
  exact .of hL hv S' st

theorem heap_fresh (h : Heap) : h.get? h.objs.size = none := by
  cases e : h.get? h.objs.size with
  | none => rfl
  | some o => exact absurd (Heap.lt_size e) (Nat.lt_irrefl _)

theorem off_base {G : Gd} {ρ : RMap} {H : Hp} {s : Shared} (S : Sim G ρ H s) {a : Addr} (h : s.heap.get? a = none) : G.base.get? a = none := by
  cases e : G.base.get? a with
  | none => rfl
  | some o => rw [S.keep a o e] at h; cases h

theorem Done.pushList {G : Gd} {L : Addr} {ρ : RMap} {H : Hp} {s : Shared} {tk n : Nat} {vs : List V} {xs : List Value} (S : Sim G ρ H s) (hL : Off ρ L) (hv : All2 (VR ρ) vs xs) :
    Done G L ρ s (.ref H.length) (H ++ [.list vs]) (.ref s.heap.objs.size) { s with heap := s.heap.push (listOf xs.toArray n), toks := tk } := by
  have hf := heap_fresh s.heap
  obtain ⟨S', st, r⟩ := grow_new (h' := s.heap.push (listOf xs.toArray n)) (tk := tk) (p := (s.heap.objs.size, s.heap.objs.size)) (o := .list vs) S (fun b q e => Heap.get?_push_of_some _ e) hf hf
    ⟨rfl, off_base S hf, xs, n, vrs_mono ⟨_, rfl⟩ hv, Heap.get?_push_size _ rfl⟩
  exact .of hL r S' st

theorem Done.pushTup {G : Gd} {L : Addr} {ρ : RMap} {H : Hp} {s : Shared} {tk n : Nat} {vs : List V} {xs : List Value} (S : Sim G ρ H s) (hL : Off ρ L) (hv : All2 (VR ρ) vs xs) :
    Done G L ρ s (.ref H.length) (H ++ [.tup vs]) (.ref s.heap.objs.size) { s with heap := s.heap.push { cls := .type "tuple", data := .seq xs.toArray n }, toks := tk } := by
  have hf := heap_fresh s.heap
  obtain ⟨S', st, r⟩ := grow_new (h' := s.heap.push { cls := .type "tuple", data := .seq xs.toArray n }) (tk := tk) (p := (s.heap.objs.size, s.heap.objs.size)) (o := .tup vs) S (fun b q e => Heap.get?_push_of_some _ e) hf hf
    ⟨rfl, xs, n, vrs_mono ⟨_, rfl⟩ hv, Heap.get?_push_size _ rfl⟩
  exact .of hL r S' st

theorem Sim.list {G : Gd} {ρ : RMap} {H : Hp} {s : Shared} (S : Sim G ρ H s) {k : Nat} {vs : List V} (h : H[k]? = some (.list vs)) :
    ∃ a xs n, ρ[k]? = some (a, a) ∧ All2 (VR ρ) vs xs ∧ G.base.get? a = none ∧ s.heap.get? a = some (listOf xs.toArray n) := by
  obtain ⟨⟨p1, p2⟩, hp, e, b, xs, n, r, g⟩ := S.rep.at_ k _ h
  cases e
  exact ⟨_, xs, n, hp, r, b, g⟩
theorem Sim.ro {G : Gd} {ρ : RMap} {H : Hp} {s : Shared} (S : Sim G ρ H s) {k : Nat} {vs : List V} (h : H[k]? = some (.ro vs)) :
    ∃ (a : Addr) (xs : List Value), ρ[k]? = some (a, a) ∧ All2 (VR ρ) vs xs ∧ s.heap.IsList a xs.toArray := by
  obtain ⟨⟨p1, p2⟩, hp, e, xs, r, g⟩ := S.rep.at_ k _ h
  cases e
  exact ⟨_, xs, hp, r, g⟩
theorem Sim.tup {G : Gd} {ρ : RMap} {H : Hp} {s : Shared} (S : Sim G ρ H s) {k : Nat} {vs : List V} (h : H[k]? = some (.tup vs)) :
    ∃ a xs n, ρ[k]? = some (a, a) ∧ All2 (VR ρ) vs xs ∧ s.heap.get? a = some { cls := .type "tuple", data := .seq xs.toArray n } := by
  obtain ⟨⟨p1, p2⟩, hp, e, xs, n, r, g⟩ := S.rep.at_ k _ h
  cases e
  exact ⟨_, xs, n, hp, r, g⟩
theorem Sim.ref {ρ : RMap} {k : Nat} {x : Value} {a b : Addr} (h : VR ρ (.ref k) x) (hp : ρ[k]? = some (a, b)) : x = .ref a := by
  obtain ⟨p, e, rfl⟩ := h
  rw [hp] at e; cases e; rfl

theorem isL_of {h : Heap} {a : Addr} {xs : List Value} {n : Nat} (e : h.get? a = some (listOf xs.toArray n)) : h.IsList a xs.toArray := ⟨_, e, rfl, n, rfl⟩

noncomputable def opOf : Bop → Operator
  | .add => .Add
  | .sub => .Sub
  | .mul => .Mult
  | .fdiv => .FloorDiv
  | .mod => .Mod
  | .pow => .Pow
  | .shl => .LShift
  | .shr => .RShift
  | .band => .BitAnd
  | .bor => .BitOr
  | .bxor => .BitXor

set_option tactic.hygienic true in
theorem intBits_le {a : Int} {n : Nat} (h : a.natAbs < 2 ^ n) : Builtin.Int.intBits a ≤ n := by
  unfold Builtin.Int.intBits
  split
  · exact Nat.zero_le _
  · rename_i h0
    have : a.natAbs ≠ 0 := by
      intro e; exact h0 (by simp [Int.natAbs_eq_zero.mp e])
    have := (Nat.log2_lt this).mpr h
    omega

section
variable {G : Gd} {A : Around} {d : Nat} {L : Addr} {ρ : RMap} {H : Hp} {s : Shared}

set_option tactic.hygienic true in
theorem opI_sound {op : Bop} {a b c : Int} {t u : Tok} (S : Sim G ρ H s) (hL : Off ρ L) (h : opI op a b = some c) :
    wpAny (model G.prog G.w) A (binaryOp (opOf op) (.int a t) (.int b u)) (Done G L ρ s (.int c) H) (fun _ _ => False) s := by
  have fin : ∀ r : Int, r = c → Done G L ρ s (.int c) H (.int r s.toks) { s with toks := s.toks + 1 } := fun r e => by
    subst e; exact Done.same S hL ⟨_, rfl⟩
  cases op <;> simp only [opI] at h
  · cases h; exact add_int (fin _ rfl)
  · cases h; exact PyProof.Rows.sub_int (fin _ rfl)
  · split at h
    · rename_i hb
      cases h
      exact PyProof.Rows.mul_int (fin _ rfl) (.of_left (intBits_le hb))
    · cases h
  · split at h
    · rename_i hb; cases h
      exact PyProof.Rows.floordiv_int hb.1 (fin _ rfl) (Or.inl (PyProof.noPylong_small hb.2))
    · cases h
  · split at h
    · cases h
    · rename_i hb; cases h
      exact PyProof.Rows.mod_int' hb (fin _ rfl)
  · split at h
    · rename_i hb; cases h
      refine PyProof.Rows.pow_int hb.1 ?_ (fin _ rfl)
      have := intBits_le hb.2.2
      have h1 : ((Builtin.Int.intBits a : Nat) : Int) ≤ 64 := by first | assumption | exact Nat.le_of_lt ‹_› | exact Nat.lt_succ_of_lt ‹_› | exact Nat.ne_of_lt ‹_› | exact Nat.ne_of_gt ‹_› | exact Nat.le_trans ‹_› (by decide) | exact Nat.lt_of_lt_of_le ‹_› (by decide) | decide | omega
      have h2 : (0 : Int) ≤ ((Builtin.Int.intBits a : Nat) : Int) := by first | assumption | exact Nat.le_of_lt ‹_› | exact Nat.lt_succ_of_lt ‹_› | exact Nat.ne_of_lt ‹_› | exact Nat.ne_of_gt ‹_› | exact Nat.le_trans ‹_› (by decide) | exact Nat.lt_of_lt_of_le ‹_› (by decide) | decide | omega
      calc ((Builtin.Int.intBits a : Nat) : Int) * b ≤ 64 * b := Int.mul_le_mul_of_nonneg_right h1 hb.1
        _ ≤ 2 ^ 27 := by have := hb.2.1; omega
    · cases h
  · split at h
    · rename_i hb; cases h
      exact lshift_int_small hb.1 hb.2.1 hb.2.2 (fin _ rfl)
    · cases h
  · split at h
    · rename_i hb; cases h
      exact PyProof.Rows.rshift_int hb (fin _ rfl)
    · cases h
  · cases h; exact PyProof.Rows.and_int (fin _ rfl)
  · cases h; exact PyProof.Rows.or_int (fin _ rfl)
  · cases h; exact PyProof.Rows.xor_int (fin _ rfl)
end
end Mz
end

section
open PySem PySem.W PyProof.Rows
set_option Elab.async false
set_option autoImplicit false

set_option tactic.hygienic false

namespace Mz

noncomputable def allNews (h₀ : Heap) (L : Addr) (h : Heap) : List (Addr × Obj) :=
  (List.range h.objs.size).filterMap fun a => match h.get? a, h₀.get? a with
    | some o, none => if a = L then none else some (a, o)
    | _, _ => none

set_option tactic.hygienic true in
theorem mem_allNews {h₀ : Heap} {L : Addr} {h : Heap} {a : Addr} {o : Obj} : (a, o) ∈ allNews h₀ L h ↔ h.get? a = some o ∧ a ≠ L ∧ h₀.get? a = none := by
  unfold allNews
  rw [List.mem_filterMap]
  constructor
  · rintro ⟨b, _, e⟩
    split at e
    · rename_i o' e1 e2
      split at e
      · cases e
      · rename_i hL; cases e; exact ⟨e1, hL, e2⟩
    · cases e
  · rintro ⟨e1, hL, e2⟩
    refine ⟨a, List.mem_range.mpr (Heap.lt_size e1), ?_⟩
    rw [e1, e2]; simp [hL]

theorem news_all (h₀ : Heap) (L : Addr) (h : Heap) : News h₀ L h (allNews h₀ L h) := fun p hp => mem_allNews.mp hp

theorem keep_all {h₀ h h' : Heap} {L : Addr} {m : Str → Option Value} {rest : List (Addr × Obj)} (F' : Fr h₀ L h' m) (N' : News h₀ L h' rest) (hr : ∀ p ∈ allNews h₀ L h, p ∈ rest)
    (hk : ∀ b o, h₀.get? b = some o → h.get? b = some o) : ∀ b o, b ≠ L → h.get? b = some o → h'.get? b = some o := by
  intro b o hb e
  cases e0 : h₀.get? b with
  | some o' =>
    have := hk b o' e0
    rw [e] at this; cases this
    exact F'.keep b o e0
  | none => exact (N' _ (hr _ (mem_allNews.mpr ⟨e, hb, e0⟩))).1

theorem base_no {G : Gd} {L : Addr} {h : Heap} {m : Str → Option Value} (F : Fr G.base L h m) : G.base.get? L = none := by
  cases e : G.base.get? L with
  | none => rfl
  | some o => exact absurd (Nat.lt_of_lt_of_le (Heap.lt_size e) F.above) (Nat.lt_irrefl _)

theorem grow_newL {G : Gd} {ρ : RMap} {H : Hp} {s : Shared} {h' : Heap} {tk : Nat} {p : Addr × Addr} {o : O} {L : Addr} (S : Sim G ρ H s) (hL : Off ρ L) (hb : G.base.get? L = none)
    (hk : ∀ b q, b ≠ L → s.heap.get? b = some q → h'.get? b = some q) (hl : ∀ q, s.heap.get? L = some q → ∃ q', h'.get? L = some q')
    (hp1 : s.heap.get? p.1 = none) (hp2 : s.heap.get? p.2 = none) (ho : ObjAt G (ρ ++ [p]) h' p o) :
    Sim G (ρ ++ [p]) (H ++ [o]) { s with heap := h', toks := tk } ∧ Stp [L] ρ (ρ ++ [p]) s { s with heap := h', toks := tk } ∧ VR (ρ ++ [p]) (.ref H.length) (.ref p.1) := by
  have hpre : ρ <+: ρ ++ [p] := ⟨[p], rfl⟩
  have fresh : ∀ q ∈ ρ, q.1 ≠ p.1 ∧ q.1 ≠ p.2 ∧ q.2 ≠ p.1 ∧ q.2 ≠ p.2 := by
    intro q hq
    obtain ⟨⟨o1, e1⟩, ⟨o2, e2⟩⟩ := S.rep.live hq
    refine ⟨fun e => ?_, fun e => ?_, fun e => ?_, fun e => ?_⟩
    · rw [e, hp1] at e1; cases e1
    · rw [e, hp2] at e1; cases e1
    · rw [e, hp1] at e2; cases e2
    · rw [e, hp2] at e2; cases e2
  refine ⟨⟨⟨by simp [S.rep.len], ?_, ?_⟩, fun b q e => hk _ _ (fun x => by subst x; rw [hb] at e; cases e) (S.keep b q e), S.pre.trans hpre⟩, ⟨⟨h', tk, rfl⟩, hpre, ?_, fun b q h1 _ e => hk b q (by simpa using h1) e, fun b q e => ?_⟩, ?_⟩
  · intro k q e
    by_cases hlt : k < H.length
    · rw [List.getElem?_append_left hlt] at e
      obtain ⟨r, hr, x⟩ := S.rep.at_ k q e
      have := hL r (mem_of_get hr)
      refine ⟨r, ?_, x.mono hpre (fun q => hk _ q this.1) (fun q => hk _ q this.2)⟩
      rw [List.getElem?_append_left (by rw [S.rep.len]; exact hlt)]; exact hr
    · have hk' : k = H.length := by
        have := (List.getElem?_eq_some_iff.mp e).1
        simp at this; omega
      subst hk'
      have : q = o := by simpa using e.symm
      subst this
      exact ⟨p, by rw [← S.rep.len]; simp, ho⟩
  · intro i j q r hi hj hij
    rcases Nat.lt_trichotomy i ρ.length with h1 | h1 | h1
    · rw [List.getElem?_append_left h1] at hi
      rcases Nat.lt_trichotomy j ρ.length with h2 | h2 | h2
      · rw [List.getElem?_append_left h2] at hj
        exact S.rep.apart i j q r hi hj hij
      · subst h2
        have : r = p := by simpa using hj.symm
        subst this
        exact fresh q (mem_of_get hi)
      · rw [List.getElem?_eq_none (by simp; omega)] at hj; cases hj
    · subst h1
      have : q = p := by simpa using hi.symm
      subst this
      rcases Nat.lt_trichotomy j ρ.length with h2 | h2 | h2
      · rw [List.getElem?_append_left h2] at hj
        obtain ⟨f1, f2, f3, f4⟩ := fresh r (mem_of_get hj)
        exact ⟨f1.symm, f3.symm, f2.symm, f4.symm⟩
      · exact absurd h2.symm hij
      · rw [List.getElem?_eq_none (by simp; omega)] at hj; cases hj
    · rw [List.getElem?_eq_none (by simp; omega)] at hi; cases hi
  · intro q hq
    simp at hq
    subst hq
    exact ⟨hp1, hp2⟩
  · by_cases h1 : b = L
    · subst h1; exact hl q e
    · exact ⟨q, hk b q h1 e⟩
  · exact ⟨p, by rw [← S.rep.len]; simp, rfl⟩

theorem ns_inj {h : Heap} {L : Addr} {m m' : Str → Option Value} (x : h.Ns L m) (y : h.Ns L m') : m = m' := by
  obtain ⟨o, es, ep, ho, hd, _, hm⟩ := x
  obtain ⟨o', es', ep', ho', hd', _, hm'⟩ := y
  rw [ho] at ho'; cases ho'
  rw [hd] at hd'; cases hd'
  funext z
  rw [← hm z, hm' z]

theorem Fr.nsTo {h₀ h h' : Heap} {L : Addr} {m : Str → Option Value} (F : Fr h₀ L h m) (F' : Fr h₀ L h' m) : ∀ m', h.Ns L m' → h'.Ns L m' := fun m' x => ns_inj F.ns x ▸ F'.ns

theorem Done.news {G : Gd} {L : Addr} {ρ : RMap} {H : Hp} {s : Shared} {h' : Heap} {tk : Nat} {m : Str → Option Value} {rest : List (Addr × Obj)} {p : Addr × Addr} {o : O}
    (S : Sim G ρ H s) (hL : Off ρ L) (F : Fr G.base L s.heap m) (F' : Fr G.base L h' m) (N' : News G.base L h' rest) (hr : ∀ p ∈ allNews G.base L s.heap, p ∈ rest)
    (hp1 : s.heap.get? p.1 = none) (hp2 : s.heap.get? p.2 = none) (ho : ObjAt G (ρ ++ [p]) h' p o) : Done G L ρ s (.ref H.length) (H ++ [o]) (.ref p.1) { s with heap := h', toks := tk } := by
  obtain ⟨S', st, rr⟩ := grow_newL (tk := tk) (o := o) S hL (base_no F) (keep_all F' N' hr S.keep) (fun _ _ => Heap.Ns_frame F'.ns) hp1 hp2 ho
  exact ⟨_, rr, S', st, Fr.nsTo F F'⟩

section
variable {G : Gd} {A : Around} {d : Nat} {L : Addr} {ρ : RMap} {H : Hp} {s : Shared}

theorem foldl_push (i : Value) : ∀ (k : Nat), List.foldl (fun x1 x2 => x1 ++ x2) #[] (List.replicate k #[i]) = (List.replicate k i).toArray := by
  have key : ∀ (k : Nat) (acc : Array Value), (List.foldl (fun x1 x2 => x1 ++ x2) acc (List.replicate k #[i])).toList = acc.toList ++ List.replicate k i := by
    intro k
    induction k with
    | zero => intro acc; simp
    | succ k ih => intro acc; rw [List.replicate_succ, List.foldl_cons, ih, List.replicate_succ]; simp
  intro k
  apply Array.toList_inj.mp
  simpa using key k #[]

set_option tactic.hygienic true in
theorem intsAre {vs : List V} {xs : List Value} (h : All2 (VR ρ) vs xs) : ∀ {ns : List Int}, ints? vs = some ns → IntsAre xs ns := by
  induction h with
  | nil => intro ns e; cases e; exact .nil
  | cons r _ ih =>
    intro ns e
    rename_i a b as bs _
    cases a with
    | int i =>
      simp only [ints?, Option.map_eq_some_iff] at e
      obtain ⟨r', e', rfl⟩ := e
      obtain ⟨t, rfl⟩ := r
      exact .cons i t (ih e')
    | _ => simp [ints?] at e
theorem all2_of_ints {xs : List Value} {ns : List Int} (h : IntsAre xs ns) : All2 (VR ρ) (ns.map V.int) xs := by
  induction h with
  | nil => exact .nil
  | cons i t _ ih => exact .cons ⟨t, rfl⟩ ih
set_option tactic.hygienic true in
theorem opV_sound {op : Bop} {a b c : V} {x y : Value} {H' : Hp} (hA : Ar A d) (hF : ∃ m, Fr G.base L s.heap m) (S : Sim G ρ H s) (hL : Off ρ L) (ha : VR ρ a x) (hb : VR ρ b y) (h : opV op a b H = some (c, H')) :
    wpAny (model G.prog G.w) A (binaryOp (opOf op) x y) (Done G L ρ s c H') (fun _ _ => False) s := by
  unfold opV at h
  split at h
  · obtain ⟨t, rfl⟩ := ha
    obtain ⟨u, rfl⟩ := hb
    simp only [Option.map_eq_some_iff] at h
    obtain ⟨c', e, h⟩ := h
    cases h
    exact opI_sound S hL e
  · split at h
    · rename_i vs ws e1 e2
      split at h
      · rename_i hz; cases h
        obtain ⟨a1, xs, n, p1, r1, _, g1⟩ := S.list e1
        obtain ⟨a2, ys, n2, p2, r2, _, g2⟩ := S.list e2
        obtain rfl := Sim.ref ha p1
        obtain rfl := Sim.ref hb p2
        have hz' : xs.length + ys.length ≤ 1000 := by rw [← r1.length, ← r2.length]; exact hz
        refine PySem.P.add_list (items := xs.toArray) (items2 := ys.toArray) g1 g2 ?_ (by rw [sizeLine_eq]; simp; omega)
        have := Done.pushList (tk := s.toks) (n := 0) S hL (r1.append r2)
        simpa using this
      · cases h
    · rename_i vs ws e1 e2
      split at h
      · rename_i hz; cases h
        obtain ⟨a1, xs, n, p1, r1, g1⟩ := S.tup e1
        obtain ⟨a2, ys, n2, p2, r2, g2⟩ := S.tup e2
        obtain rfl := Sim.ref ha p1
        obtain rfl := Sim.ref hb p2
        have h1 := r1.length
        have h2 := r2.length
        refine PySem.P.add_tuple (items := xs.toArray) (items2 := ys.toArray) g1 g2 ?_ ?_ ?_ (by rw [sizeLine_eq]; simp; omega)
        · cases xs with
          | nil => simp only [List.length_nil] at h1; omega
          | cons _ _ => simp
        · cases ys with
          | nil => simp only [List.length_nil] at h2; omega
          | cons _ _ => simp
        have := Done.pushTup (tk := s.toks) (n := 0) S hL (r1.append r2)
        simpa using this
      · cases h
    · cases h
  · split at h
    · rename_i v e1
      split at h
      · split at h
        · rename_i i hz; cases h
          obtain ⟨a1, xs, n, p1, r1, _, g1⟩ := S.list e1
          obtain rfl := Sim.ref ha p1
          obtain ⟨u, rfl⟩ := hb
          obtain ⟨m, F⟩ := hF
          cases r1 with
          | cons r t =>
            cases t
            obtain ⟨t, rfl⟩ := r
            refine mul_list F (news_all _ _ _) g1 (by first | assumption | exact Nat.le_of_lt ‹_› | exact Nat.lt_succ_of_lt ‹_› | exact Nat.ne_of_lt ‹_› | exact Nat.ne_of_gt ‹_› | exact Nat.le_trans ‹_› (by decide) | exact Nat.lt_of_lt_of_le ‹_› (by decide) | decide | omega) (by first | assumption | exact Nat.le_of_lt ‹_› | exact Nat.lt_succ_of_lt ‹_› | exact Nat.ne_of_lt ‹_› | exact Nat.ne_of_gt ‹_› | exact Nat.le_trans ‹_› (by decide) | exact Nat.lt_of_lt_of_le ‹_› (by decide) | decide | omega) (by simp; omega) (fun h' F' N' => ?_)
            have hobj := N'.get List.mem_cons_self
            have hf := heap_fresh s.heap
            simp only [List.isEmpty_toArray, List.isEmpty_cons, Bool.false_eq_true, if_false] at hobj
            rw [foldl_push] at hobj
            exact Done.news (tk := s.toks) (p := (s.heap.objs.size, s.heap.objs.size)) S hL F F' N' (fun p hp => List.mem_cons_of_mem _ hp) hf hf
              ⟨rfl, off_base S hf, _, _, All2.replicate ⟨t, rfl⟩ _, hobj⟩
        · cases h
      · cases h
    · cases h
  · cases h
end
end Mz
end

section
open PySem PySem.W PyProof.Rows
set_option Elab.async false
set_option autoImplicit false

set_option tactic.hygienic false

namespace Mz

noncomputable def copOf : Cop → CmpOp
  | .eq => .Eq
  | .ne => .NotEq
  | .lt => .Lt
  | .le => .LtE
  | .gt => .Gt
  | .ge => .GtE

section
variable {G : Gd} {A : Around} {d : Nat} {L : Addr} {ρ : RMap} {H : Hp} {s : Shared}

theorem cmpI_sound {op : Cop} {a b : Int} {t u : Tok} {Q : Value → Shared → Prop} {E : Value → Shared → Prop} (h : Q (.bool (cmpI op a b)) s) :
    wpAny (model G.prog G.w) A (compareOp (copOf op) (.int a t) (.int b u)) Q E s := by
  cases op
  · exact PyProof.Rows.eq_int h
  · refine PyProof.Rows.ne_int ?_
    have e : (a != b) = !decide (a = b) := rfl
    rw [e]; exact h
  · exact PyProof.Rows.lt_int h
  · exact PyProof.Rows.le_int h
  · exact PyProof.Rows.gt_int h
  · exact PyProof.Rows.ge_int h

set_option tactic.hygienic true in
mutual
theorem dataOf_reads (R : Rep G ρ H s.heap) : ∀ (n : Nat) (v : V) (x : Value) (D : PyData), dataOf n H v = some D → VR ρ v x → (∃ as, Reads s.heap x D as) ∧ D.canLay0 = true ∧ D.depth ≤ n
  | 0, _, _, _, h, _ => by simp [dataOf] at h
  | n + 1, v, x, D, h, hv => by
    cases v with
    | int i =>
      simp only [dataOf, Option.some.injEq] at h
      subst h
      obtain ⟨t, rfl⟩ := hv
      exact ⟨⟨[], Reads.int i t⟩, by simp [PyData.canLay0], by simp [PyData.depth]⟩
    | ref k =>
      simp only [dataOf] at h
      split at h
      · rename_i vs e
        simp only [Option.map_eq_some_iff] at h
        obtain ⟨Ds, e2, rfl⟩ := h
        obtain ⟨p, hp, e1, hb, xs, m, r, g⟩ := R.at_ k _ e
        obtain ⟨p', hp', rfl⟩ := hv
        rw [hp] at hp'; cases hp'
        obtain ⟨⟨as, hr⟩, hl, hd⟩ := dataAll_reads R n vs xs Ds e2 r
        exact ⟨⟨_, Reads.list g rfl rfl (by simpa using hr)⟩, by simpa [PyData.canLay0] using hl, by simp only [PyData.depth]; omega⟩
      · cases h
    | none => simp [dataOf] at h
    | bool b => simp [dataOf] at h
theorem dataAll_reads (R : Rep G ρ H s.heap) : ∀ (n : Nat) (vs : List V) (xs : List Value) (Ds : List PyData), dataAll n H vs = some Ds → All2 (VR ρ) vs xs →
    (∃ as, ReadsAll s.heap xs Ds as) ∧ PyData.canLayAll0 Ds = true ∧ PyData.depthAll Ds ≤ n
  | 0, _, _, _, h, _ => by simp [dataAll] at h
  | n + 1, [], _, Ds, h, hv => by
    simp only [dataAll, Option.some.injEq] at h
    subst h
    cases hv
    exact ⟨⟨[], .nil⟩, by simp [PyData.canLayAll0], by simp [PyData.depthAll]⟩
  | n + 1, v :: vs, _, Ds, h, hv => by
    cases hv with
    | cons r rs =>
      simp only [dataAll] at h
      split at h
      · rename_i D Ds' e1 e2
        cases h
        obtain ⟨⟨as, h1⟩, h2, h3⟩ := dataOf_reads R n v _ D e1 r
        obtain ⟨⟨bs, g1⟩, g2, g3⟩ := dataAll_reads R n vs _ Ds' e2 rs
        exact ⟨⟨_, .cons h1 g1⟩, by simp [PyData.canLayAll0, h2, g2], by simp only [PyData.depthAll]; omega⟩
      · cases h
end

set_option tactic.hygienic true in
theorem cmpV_sound {op : Cop} {a b : V} {x y : Value} {r : Bool} (hA : Ar A d) (S : Sim G ρ H s) (ha : VR ρ a x) (hb : VR ρ b y) (h : cmpV op a b H = some r) {Q : Value → Shared → Prop} {E : Value → Shared → Prop} (hq : Q (.bool r) s) :
    wpAny (model G.prog G.w) A (compareOp (copOf op) x y) Q E s := by
  unfold cmpV at h
  split at h
  · cases h
    obtain ⟨t, rfl⟩ := ha
    obtain ⟨u, rfl⟩ := hb
    exact cmpI_sound hq
  · have ha' : x = .bool _ := ha
    have hb' : y = .bool _ := hb
    subst ha' hb'
    split at h
    · cases h; exact eq_bool hq
    · cases h; exact ne_bool (by simpa [bne] using hq)
    · cases h
  · split at h
    · rename_i D1 D2 e1 e2
      cases h
      obtain ⟨⟨as, h1⟩, h2, h3⟩ := dataOf_reads S.rep _ _ _ _ e1 ha
      obtain ⟨⟨bs, g1⟩, g2, g3⟩ := dataOf_reads S.rep _ _ _ _ e2 hb
      exact eq_dataH h1 g1 (by simp [PySem.SeqAt.shaped, h2]; omega) (by simp [PySem.SeqAt.shaped, g2]; omega) (by have := hA.units; omega) hq
    · rename_i D1 D2 e1 e2
      cases h
      obtain ⟨⟨as, h1⟩, h2, h3⟩ := dataOf_reads S.rep _ _ _ _ e1 ha
      obtain ⟨⟨bs, g1⟩, g2, g3⟩ := dataOf_reads S.rep _ _ _ _ e2 hb
      exact ne_dataH h1 g1 (by simp [PySem.SeqAt.shaped, h2]; omega) (by simp [PySem.SeqAt.shaped, g2]; omega) (by have := hA.units; omega) hq
    · cases h
  · cases h

theorem truthy_sound {a : V} {x : Value} {r : Bool} (ha : VR ρ a x) (h : truthy a = some r) {Q : Bool → Shared → Prop} {E : Value → Shared → Prop} (hq : Q r s) :
    wpAny (model G.prog G.w) A (PySem.truthy x) Q E s := by
  cases a with
  | none => cases h; cases ha; exact truthy_none hq
  | bool b => cases h; cases ha; exact wpAny_truthy_bool hq
  | int i =>
    cases h; obtain ⟨t, rfl⟩ := ha
    refine PyProof.Rows.truthy_int ?_
    have e : (i != 0) = decide (i ≠ 0) := by rw [decide_not]; rfl
    rw [e]; exact hq
  | ref k => cases h

theorem mem_sound {i : Int} {t : Tok} {ks : List Int} {xs : List Value} (pos : Bool) (hA : Ar A d) {a : Addr} (hx : IntsAre xs ks) {n : Nat} (hg : s.heap.get? a = some { cls := .type "tuple", data := .seq xs.toArray n })
    {Q : Value → Shared → Prop} {E : Value → Shared → Prop} (hq : Q (.bool (if pos then ks.contains i else !ks.contains i)) s) :
    wpAny (model G.prog G.w) A (compareOp (if pos then .In else .NotIn) (.int i t) (.ref a)) Q E s := by
  have rc : Reads s.heap (.ref a) (.tuple (ks.map PyData.int)) [] := by
    have := readsAll_of_ints (h := s.heap) hx
    exact Reads.tuple hg rfl rfl (by simpa using this)
  have hany : (ks.map PyData.int).any (fun y => PyData.eqv y (.int i)) = ks.contains i := by
    rw [List.any_map, List.contains_eq_any_beq]
    congr 1
    funext k
    simp only [Function.comp, PyData.eqv]
    exact Bool.eq_iff_iff.mpr ⟨fun h => by simp at h ⊢; exact h.symm, fun h => by simp at h ⊢; exact h.symm⟩
  have hu : A.units + 1 + min (PyData.depthAll (ks.map PyData.int)) (PyData.int i).depth < cLine := by
    have := hA.units
    have h1 := PySem.W.depthAll_ints ks
    simp only [PyData.depth]
    omega
  cases pos with
  | true => exact PySem.SeqAt.in_tuple_reads rc (Reads.int i t) (canLayAll0_ints ks) (by simp [PyData.canLay0]) hu (by rw [hany]; exact hq)
  | false => exact PySem.SeqAt.notIn_tuple_reads rc (Reads.int i t) (canLayAll0_ints ks) (by simp [PyData.canLay0]) hu (by rw [hany]; exact hq)

set_option tactic.hygienic true in
theorem Sim.getL {k : V} {x : Value} {vs : List V} (S : Sim G ρ H s) (hx : VR ρ k x) (h : getL H k = some vs) :
    ∃ i a xs n, k = .ref i ∧ H[i]? = some (.list vs) ∧ x = .ref a ∧ ρ[i]? = some (a, a) ∧ All2 (VR ρ) vs xs ∧ G.base.get? a = none ∧ s.heap.get? a = some (listOf xs.toArray n) := by
  cases k with
  | ref i =>
    simp only [Mz.getL] at h
    split at h
    · rename_i ws e
      cases h
      obtain ⟨a, xs, n, p, r, b, g⟩ := S.list e
      exact ⟨i, a, xs, n, rfl, e, Sim.ref hx p, p, r, b, g⟩
    · cases h
  | _ => cases h

set_option tactic.hygienic true in
theorem Sim.getR {k : V} {x : Value} {vs : List V} (S : Sim G ρ H s) (hx : VR ρ k x) (h : getR H k = some vs) :
    ∃ (i : Nat) (a : Addr) (xs : List Value), k = .ref i ∧ (H[i]? = some (.list vs) ∨ H[i]? = some (.ro vs)) ∧ x = .ref a ∧ ρ[i]? = some (a, a) ∧ All2 (VR ρ) vs xs ∧ s.heap.IsList a xs.toArray := by
  cases k with
  | ref i =>
    simp only [Mz.getR] at h
    split at h
    · rename_i ws e
      cases h
      obtain ⟨a, xs, n, p, r, b, g⟩ := S.list e
      exact ⟨i, a, xs, rfl, .inl e, Sim.ref hx p, p, r, isL_of g⟩
    · rename_i ws e
      cases h
      obtain ⟨a, xs, p, r, g⟩ := S.ro e
      exact ⟨i, a, xs, rfl, .inr e, Sim.ref hx p, p, r, g⟩
    · cases h
  | _ => cases h

set_option tactic.hygienic true in
theorem len_sound {v r : V} {x : Value} (S : Sim G ρ H s) (hL : Off ρ L) (hx : VR ρ v x) (h : doLen H v = some r) :
    wpAny (model G.prog G.w) A (call (.builtin "len") [x]) (Done G L ρ s r H) (fun _ _ => False) s := by
  unfold doLen at h
  split at h
  · rename_i vs e
    split at h
    · rename_i hz; cases h
      obtain ⟨i, a, xs, n, rfl, _, rfl, p, r, b, g⟩ := S.getL hx e
      have hl := r.length
      refine PyProof.Rows.len_list (isL_of g) (by simp; omega) ?_
      refine Done.same S hL ⟨s.toks + 1, ?_⟩
      simp [hl]
    · cases h
  · cases h

set_option tactic.hygienic true in
theorem append_sound {l v r : V} {x y : Value} {H' : Hp} (S : Sim G ρ H s) (hL : Off ρ L) (hx : VR ρ l x) (hy : VR ρ v y) (h : doAppend H l v = some (r, H')) :
    wpAny (model G.prog G.w) A (call (.builtin "list.append") [x, y]) (Done G L ρ s r H') (fun _ _ => False) s := by
  cases l with
  | ref k =>
    simp only [doAppend] at h
    split at h
    · rename_i vs e
      split at h
      · rename_i hz; cases h
        obtain ⟨a, xs, n, p, r, b, g⟩ := S.list e
        obtain rfl := Sim.ref hx p
        have hl := r.length
        refine wpAny_list_append_plain (items := xs.toArray) ⟨n, g⟩ (fun h' hp hs => ?_) (by rw [sizeLine_eq]; simp; omega)
        obtain ⟨n', g'⟩ := hp
        obtain ⟨S', st⟩ := change (h' := h') (tk := s.toks) (o := .list (vs ++ [v])) S p (fun b q h1 _ e => (hs.2 b h1).trans e) b b
          ⟨rfl, b, xs ++ [y], n', r.append (.cons hy .nil), by simpa using g'⟩
        exact Done.of hL rfl S' st
      · cases h
    · cases h
  | _ => cases h

set_option tactic.hygienic true in
theorem count_sound {l v r : V} {x y : Value} (S : Sim G ρ H s) (hL : Off ρ L) (hx : VR ρ l x) (hy : VR ρ v y) (h : doCount H l v = some r) :
    wpAny (model G.prog G.w) A (call (.builtin "list.count") [x, y]) (Done G L ρ s r H) (fun _ _ => False) s := by
  unfold doCount at h
  split at h
  · rename_i vs k e
    simp only [Option.map_eq_some_iff] at h
    obtain ⟨ns, e2, rfl⟩ := h
    obtain ⟨i, a, xs, n, rfl, _, rfl, p, r, b, g⟩ := S.getL hx e
    obtain ⟨t, rfl⟩ := hy
    exact count_list_ints (isL_of g) (intsAre r e2) (Done.same S hL ⟨_, rfl⟩)
  · cases h

set_option tactic.hygienic true in
theorem getIdx_sound {o i r : V} {x y : Value} (S : Sim G ρ H s) (hx : VR ρ o x) (hy : VR ρ i y) (h : getIdx H o i = some r) {E : Value → Shared → Prop} {Q : Value → Shared → Prop} (hq : ∀ z, VR ρ r z → Q z s) :
    wpAny (model G.prog G.w) A (getItem x y) Q E s := by
  unfold getIdx at h
  split at h
  · rename_i k n
    obtain ⟨t, rfl⟩ := hy
    split at h
    · rename_i h0
      split at h
      · rename_i vs e
        split at h
        · rename_i hz
          obtain ⟨a, xs, m, p, r', b, g⟩ := S.list e
          obtain rfl := Sim.ref hx p
          obtain ⟨z, hz2, hr⟩ := r'.get h
          have hlt : n.toNat < vs.length := (List.getElem?_eq_some_iff.mp h).1
          exact wpAny_getItem_list (isL_of g) h0 (by first | assumption | exact Nat.le_of_lt ‹_› | exact Nat.lt_succ_of_lt ‹_› | exact Nat.ne_of_lt ‹_› | exact Nat.ne_of_gt ‹_› | exact Nat.le_trans ‹_› (by decide) | exact Nat.lt_of_lt_of_le ‹_› (by decide) | decide | omega) (by simpa using hz2) (hq z hr)
        · cases h
      · rename_i vs e
        split at h
        · rename_i hz
          obtain ⟨a, xs, m, p, r', g⟩ := S.tup e
          obtain rfl := Sim.ref hx p
          obtain ⟨z, hz2, hr⟩ := r'.get h
          have hlt : n.toNat < vs.length := (List.getElem?_eq_some_iff.mp h).1
          have hl := r'.length
          refine PySem.P.getItem_tuple (items := xs.toArray) g (by first | assumption | exact Nat.le_of_lt ‹_› | exact Nat.lt_succ_of_lt ‹_› | exact Nat.ne_of_lt ‹_› | exact Nat.ne_of_gt ‹_› | exact Nat.le_trans ‹_› (by decide) | exact Nat.lt_of_lt_of_le ‹_› (by decide) | decide | omega) (by first | assumption | exact Nat.le_of_lt ‹_› | exact Nat.lt_succ_of_lt ‹_› | exact Nat.ne_of_lt ‹_› | exact Nat.ne_of_gt ‹_› | exact Nat.le_trans ‹_› (by decide) | exact Nat.lt_of_lt_of_le ‹_› (by decide) | decide | omega) (k := n.toNat) ?_ (by simpa using hz2) (hq z hr)
          unfold seqIndex?
          simp
          omega
        · cases h
      · cases h
    · cases h
  · cases h

set_option tactic.hygienic true in
theorem setIdx_sound {o i v : V} {x y z : Value} {H' : Hp} (S : Sim G ρ H s) (hL : Off ρ L) (hx : VR ρ o x) (hy : VR ρ i y) (hv : VR ρ v z) (h : setIdx H o i v = some H') :
    wpAny (model G.prog G.w) A (setItem x y z) (fun _ s' => Sim G ρ H' s' ∧ Stp [] ρ ρ s s') (fun _ _ => False) s := by
  unfold setIdx at h
  split at h
  · rename_i k ni
    obtain ⟨t, rfl⟩ := hy
    split at h
    · rename_i h0
      split at h
      · rename_i vs e
        split at h
        · rename_i hz; cases h
          obtain ⟨a, xs, m, p, r', b, g⟩ := S.list e
          obtain rfl := Sim.ref hx p
          have hl := r'.length
          refine ki_setAt g h0 (by first | assumption | exact Nat.le_of_lt ‹_› | exact Nat.lt_succ_of_lt ‹_› | exact Nat.ne_of_lt ‹_› | exact Nat.ne_of_gt ‹_› | exact Nat.le_trans ‹_› (by decide) | exact Nat.lt_of_lt_of_le ‹_› (by decide) | decide | omega) (by simp; omega) ?_
          refine change (tk := s.toks) (o := .list (vs.set ni.toNat v)) S p (fun b q h1 _ e => (Heap.get?_update_other _ _ (Ne.symm h1)).trans e) b b
            ⟨rfl, b, xs.set ni.toNat z, m, r'.set hv _, ?_⟩
          have := IsL.update (items := xs.toArray) g (·.setIfInBounds ni.toNat z)
          simpa using this
        · cases h
      · cases h
    · cases h
  · cases h
end
end Mz
end

section
open PySem PySem.W PyProof.Rows
set_option Elab.async false
set_option autoImplicit false

set_option tactic.hygienic false

namespace Mz

section
variable {G : Gd} {A : Around} {d : Nat} {L : Addr} {ρ : RMap} {H : Hp} {s : Shared}

theorem take_min {α : Type} (xs : List α) (k : Nat) : xs.take (min k xs.length) = xs.take k := by
  rw [List.take_eq_take_iff, Nat.min_assoc, Nat.min_self]
theorem drop_min {α : Type} (xs : List α) {k n : Nat} (h : xs.length ≤ n) : xs.drop (min k n) = xs.drop k := by
  rcases Nat.le_total k n with q | q
  · rw [Nat.min_eq_left q]
  · rw [Nat.min_eq_right q, List.drop_of_length_le h, List.drop_of_length_le (Nat.le_trans h q)]
theorem pick_cut (xs : List Value) (lo hi : Option Int) (h1 : (lo.all fun x => decide (0 ≤ x)) = true) (h2 : (hi.all fun x => decide (0 ≤ x)) = true) :
    slicePick xs.toArray lo hi none = (cutL xs lo hi).toArray := by
  rw [slicePick_plain, ← List.drop_take]
  have hc : ∀ x : Int, decide (0 ≤ x) = true → clipAt xs.length x = min x.toNat xs.length := fun x hx => by
    have := clipAt_nat xs.length x.toNat
    rwa [Int.toNat_of_nonneg (of_decide_eq_true hx)] at this
  have e1 : xs.take (hi.elim xs.length (clipAt xs.length)) = hi.elim xs fun y => xs.take y.toNat := by
    cases hi with
    | none => exact List.take_length
    | some y => exact (congrArg xs.take (hc y h2)).trans (take_min _ _)
  have e2 : ∀ ys : List Value, ys.length ≤ xs.length → ys.drop (lo.elim 0 (clipAt xs.length)) = ys.drop (lo.elim 0 Int.toNat) := fun ys hl => by
    cases lo with
    | none => rfl
    | some x => exact (congrArg ys.drop (hc x h1)).trans (drop_min _ hl)
  show ((xs.take (hi.elim xs.length (clipAt xs.length))).drop (lo.elim 0 (clipAt xs.length))).toArray = _
  rw [e2 _ (List.length_take_le' _ _), e1]
  rfl

theorem all2_cut {vs : List V} {xs : List Value} (r : All2 (VR ρ) vs xs) (lo hi : Option Int) : All2 (VR ρ) (cutL vs lo hi) (cutL xs lo hi) := by
  unfold cutL
  cases hi with
  | none => exact r.drop _
  | some y => exact (r.take _).drop _

set_option tactic.hygienic true in
theorem cut_sound {o r : V} {x : Value} {lo hi : Option Int} {vl vu : Value} {sl : Addr} {H' : Hp} (S : Sim G ρ H s) (hL : Off ρ L) (hx : VR ρ o x) (pl : IsPart vl lo) (pu : IsPart vu hi)
    (hs : s.heap.IsSliceOf sl vl vu .none) (h : cut H o lo hi = some (r, H')) : wpAny (model G.prog G.w) A (getItem x (.ref sl)) (Done G L ρ s r H') (fun _ _ => False) s := by
  unfold cut at h
  split at h
  · rename_i vs e
    split at h
    · rename_i hz; cases h
      simp only [Bool.and_eq_true, decide_eq_true_eq] at hz
      obtain ⟨i, a, xs, rfl, _, rfl, p, r, g⟩ := S.getR hx e
      have hl := r.length
      refine wpAny_getItem_list_slice g hs pl pu .none (by simp) ?_ (by rw [sizeLine_eq]; simp; omega)
      rw [pick_cut xs lo hi hz.1.1 hz.1.2]
      exact Done.pushList (tk := s.toks) (n := 0) S hL (all2_cut r lo hi)
    · cases h
  · cases h

theorem rev_sound {o : V} {x : Value} {vs : List V} {sl : Addr} {t : Tok} (S : Sim G ρ H s) (hL : Off ρ L) (hx : VR ρ o x) (hs : s.heap.IsSliceOf sl .none .none (.int (-1) t)) (h : getL H o = some vs) (hz : vs.length ≤ 1000) :
    wpAny (model G.prog G.w) A (getItem x (.ref sl)) (Done G L ρ s (.ref H.length) (H ++ [.list vs.reverse])) (fun _ _ => False) s := by
  obtain ⟨i, a, xs, n, rfl, _, rfl, p, r, b, g⟩ := S.getL hx h
  have hl := r.length
  refine wpAny_getItem_list_slice (isL_of g) hs .none .none (.int (-1) t) (by simp) ?_ (by rw [sizeLine_eq]; simp; omega)
  rw [krv_pick]
  exact Done.pushList (tk := s.toks) (n := 0) S hL (by simpa using r.reverse)

theorem rngLen_eq {a b c : Int} (hc : c ≠ 0) : Builtin.Range.rangeSize a b c = (rngLen a b c : Int) := by
  unfold Builtin.Range.rangeSize rngLen
  by_cases h : c > 0
  · rw [if_pos h, if_pos h]
    by_cases h2 : a < b
    · rw [if_pos h2, if_pos h2]
      have : 0 ≤ (b - a - 1) / c := Int.ediv_nonneg (by first | assumption | exact Nat.le_of_lt ‹_› | exact Nat.lt_succ_of_lt ‹_› | exact Nat.ne_of_lt ‹_› | exact Nat.ne_of_gt ‹_› | exact Nat.le_trans ‹_› (by decide) | exact Nat.lt_of_lt_of_le ‹_› (by decide) | decide | omega) (by first | assumption | exact Nat.le_of_lt ‹_› | exact Nat.lt_succ_of_lt ‹_› | exact Nat.ne_of_lt ‹_› | exact Nat.ne_of_gt ‹_› | exact Nat.le_trans ‹_› (by decide) | exact Nat.lt_of_lt_of_le ‹_› (by decide) | decide | omega)
      omega
    · rw [if_neg h2, if_neg h2]; rfl
  · rw [if_neg h, if_neg h, if_pos (by first | assumption | exact Nat.le_of_lt ‹_› | exact Nat.lt_succ_of_lt ‹_› | exact Nat.ne_of_lt ‹_› | exact Nat.ne_of_gt ‹_› | exact Nat.le_trans ‹_› (by decide) | exact Nat.lt_of_lt_of_le ‹_› (by decide) | decide | omega : c < 0)]
    by_cases h2 : a > b
    · rw [if_pos h2, if_pos h2]
      have : 0 ≤ (a - b - 1) / (-c) := Int.ediv_nonneg (by first | assumption | exact Nat.le_of_lt ‹_› | exact Nat.lt_succ_of_lt ‹_› | exact Nat.ne_of_lt ‹_› | exact Nat.ne_of_gt ‹_› | exact Nat.le_trans ‹_› (by decide) | exact Nat.lt_of_lt_of_le ‹_› (by decide) | decide | omega) (by first | assumption | exact Nat.le_of_lt ‹_› | exact Nat.lt_succ_of_lt ‹_› | exact Nat.ne_of_lt ‹_› | exact Nat.ne_of_gt ‹_› | exact Nat.le_trans ‹_› (by decide) | exact Nat.lt_of_lt_of_le ‹_› (by decide) | decide | omega)
      omega
    · rw [if_neg h2, if_neg h2]; rfl

theorem rngLen_le {a b c : Int} (hc : c ≠ 0) (ha : a.natAbs ≤ 100000) (hb : b.natAbs ≤ 100000) : rngLen a b c ≤ 200000 := by
  unfold rngLen
  split
  · split
    · have : (b - a - 1) / c ≤ b - a - 1 := Int.ediv_le_self _ (by first | assumption | exact Nat.le_of_lt ‹_› | exact Nat.lt_succ_of_lt ‹_› | exact Nat.ne_of_lt ‹_› | exact Nat.ne_of_gt ‹_› | exact Nat.le_trans ‹_› (by decide) | exact Nat.lt_of_lt_of_le ‹_› (by decide) | decide | omega)
      omega
    · omega
  · split
    · split
      · have : (a - b - 1) / (-c) ≤ a - b - 1 := Int.ediv_le_self _ (by first | assumption | exact Nat.le_of_lt ‹_› | exact Nat.lt_succ_of_lt ‹_› | exact Nat.ne_of_lt ‹_› | exact Nat.ne_of_gt ‹_› | exact Nat.le_trans ‹_› (by decide) | exact Nat.lt_of_lt_of_le ‹_› (by decide) | decide | omega)
        omega
      · omega
    · omega
theorem rng_small {a b c : Int} (hc : c ≠ 0) (ha : a.natAbs ≤ 100000) (hb : b.natAbs ≤ 100000) (hcc : c.natAbs ≤ 100000) : Builtin.Range.small a b c = true := by
  have h1 := rngLen_le hc ha hb
  unfold Builtin.Range.small
  rw [rngLen_eq hc]
  have f : ∀ x : Int, x.natAbs ≤ 1000000 → Builtin.Range.rangeFitsLong x = true := by
    intro x hx
    unfold Builtin.Range.rangeFitsLong
    simp
    omega
  rw [f a (by first | assumption | exact Nat.le_of_lt ‹_› | exact Nat.lt_succ_of_lt ‹_› | exact Nat.ne_of_lt ‹_› | exact Nat.ne_of_gt ‹_› | exact Nat.le_trans ‹_› (by decide) | exact Nat.lt_of_lt_of_le ‹_› (by decide) | decide | omega), f b (by first | assumption | exact Nat.le_of_lt ‹_› | exact Nat.lt_succ_of_lt ‹_› | exact Nat.ne_of_lt ‹_› | exact Nat.ne_of_gt ‹_› | exact Nat.le_trans ‹_› (by decide) | exact Nat.lt_of_lt_of_le ‹_› (by decide) | decide | omega), f c (by first | assumption | exact Nat.le_of_lt ‹_› | exact Nat.lt_succ_of_lt ‹_› | exact Nat.ne_of_lt ‹_› | exact Nat.ne_of_gt ‹_› | exact Nat.le_trans ‹_› (by decide) | exact Nat.lt_of_lt_of_le ‹_› (by decide) | decide | omega), f _ (by first | assumption | exact Nat.le_of_lt ‹_› | exact Nat.lt_succ_of_lt ‹_› | exact Nat.ne_of_lt ‹_› | exact Nat.ne_of_gt ‹_› | exact Nat.le_trans ‹_› (by decide) | exact Nat.lt_of_lt_of_le ‹_› (by decide) | decide | omega)]
  simp only [Bool.and_self, Bool.true_and, Bool.or_eq_true]
  right
  split
  · exact f _ (by first | assumption | exact Nat.le_of_lt ‹_› | exact Nat.lt_succ_of_lt ‹_› | exact Nat.ne_of_lt ‹_› | exact Nat.ne_of_gt ‹_› | exact Nat.le_trans ‹_› (by decide) | exact Nat.lt_of_lt_of_le ‹_› (by decide) | decide | omega)
  · exact f _ (by first | assumption | exact Nat.le_of_lt ‹_› | exact Nat.lt_succ_of_lt ‹_› | exact Nat.ne_of_lt ‹_› | exact Nat.ne_of_gt ‹_› | exact Nat.le_trans ‹_› (by decide) | exact Nat.lt_of_lt_of_le ‹_› (by decide) | decide | omega)

theorem Done.pushRng {a b c : Int} {t u v tk : Nat} (S : Sim G ρ H s) (hL : Off ρ L) (hc : c ≠ 0) (ha : a.natAbs ≤ 100000) (hb : b.natAbs ≤ 100000) (hcc : c.natAbs ≤ 100000) :
    Done G L ρ s (.ref H.length) (H ++ [.rng a c (rngLen a b c)]) (.ref s.heap.objs.size) { s with heap := s.heap.push { cls := .type "range", data := .fields #[.int a t, .int b u, .int c v] }, toks := tk } := by
  have hf := heap_fresh s.heap
  obtain ⟨S', st, r⟩ := grow_new (h' := s.heap.push { cls := .type "range", data := .fields #[.int a t, .int b u, .int c v] }) (tk := tk) (p := (s.heap.objs.size, s.heap.objs.size)) (o := .rng a c (rngLen a b c)) S (fun b q e => Heap.get?_push_of_some _ e) hf hf
    ⟨rfl, b, t, u, v, Heap.get?_push_size _ rfl, rng_small hc ha hb hcc, rngLen_eq hc⟩
  exact .of hL r S' st

theorem all2_of_get {α β : Type} {R : α → β → Prop} : ∀ {as : List α} {bs : List β}, as.length = bs.length → (∀ (i : Nat) a b, as[i]? = some a → bs[i]? = some b → R a b) → All2 R as bs
  | [], [], _, _ => .nil
  | [], _ :: _, h, _ => by simp at h
  | _ :: _, [], h, _ => by simp at h
  | a :: as, b :: bs, h, f => .cons (f 0 a b (by simp) (by simp)) (all2_of_get (by simpa using h) fun i x y h1 h2 => f (i + 1) x y (by simpa using h1) (by simpa using h2))

theorem sortI_perm : ∀ l : List Int, (sortI l).Perm l
  | [] => .nil
  | x :: r => by
    have ins : ∀ l : List Int, (insertI x l).Perm (x :: l) := by
      intro l
      induction l with
      | nil => exact .refl _
      | cons y r ih =>
        unfold insertI
        split
        · exact .refl _
        · exact (List.Perm.cons y ih).trans (List.Perm.swap x y r)
    exact (ins _).trans (List.Perm.cons x (sortI_perm r))
set_option tactic.hygienic true in
theorem sortI_sorted : ∀ l : List Int, (sortI l).Pairwise (· ≤ ·)
  | [] => .nil
  | x :: r => by
    have ins : ∀ l : List Int, l.Pairwise (· ≤ ·) → (insertI x l).Pairwise (· ≤ ·) := by
      intro l
      induction l with
      | nil => intro _; unfold insertI; exact List.pairwise_singleton _ _
      | cons y r ih =>
        intro h
        obtain ⟨h1, h2⟩ := List.pairwise_cons.mp h
        unfold insertI
        split
        · rename_i hxy
          refine List.pairwise_cons.mpr ⟨fun z hz => ?_, h⟩
          rcases List.mem_cons.mp hz with rfl | hz
          · exact hxy
          · exact Int.le_trans hxy (h1 z hz)
        · rename_i hxy
          refine List.pairwise_cons.mpr ⟨fun z hz => ?_, ih h2⟩
          have hm : z ∈ x :: r := by
            have hp : ∀ l : List Int, (insertI x l).Perm (x :: l) := by
              intro l
              induction l with
              | nil => exact .refl _
              | cons y r ih =>
                unfold insertI
                split
                · exact .refl _
                · exact (List.Perm.cons y ih).trans (List.Perm.swap x y r)
            exact (hp r).mem_iff.mp hz
          rcases List.mem_cons.mp hm with rfl | hz'
          · omega
          · exact h1 z hz'
    exact ins _ (sortI_sorted r)
theorem sorted_unique : ∀ {l l' : List Int}, l.Perm l' → l.Pairwise (· ≤ ·) → l'.Pairwise (· ≤ ·) → l = l'
  | [], l', hp, _, _ => by simpa using hp.symm.eq_nil
  | x :: r, [], hp, _, _ => by simpa using hp.eq_nil
  | x :: r, y :: t, hp, h1, h2 => by
    obtain ⟨a1, a2⟩ := List.pairwise_cons.mp h1
    obtain ⟨b1, b2⟩ := List.pairwise_cons.mp h2
    have e : x = y := by
      have m1 : x ∈ y :: t := hp.mem_iff.mp List.mem_cons_self
      have m2 : y ∈ x :: r := hp.mem_iff.mpr List.mem_cons_self
      rcases List.mem_cons.mp m1 with h | h
      · exact h
      · rcases List.mem_cons.mp m2 with h' | h'
        · exact h'.symm
        · exact Int.le_antisymm (a1 y h') (b1 x h)
    subst e
    rw [sorted_unique (List.Perm.cons_inv hp) a2 b2]

set_option tactic.hygienic true in
theorem sorted_sound {v r : V} {x : Value} {H' : Hp} (hF : ∃ m, Fr G.base L s.heap m) (S : Sim G ρ H s) (hL : Off ρ L) (hx : VR ρ v x) (h : mkSorted H v = some (r, H')) :
    wpAny (model G.prog G.w) A (call (.builtin "sorted") [x]) (Done G L ρ s r H') (fun _ _ => False) s := by
  unfold mkSorted at h
  split at h
  · rename_i vs e
    split at h
    · rename_i ns e2
      split at h
      · rename_i hz; cases h
        obtain ⟨i, a, xs, n, rfl, _, rfl, p, r, b, g⟩ := S.getL hx e
        obtain ⟨m, F⟩ := hF
        have hi := intsAre r e2
        refine sorted_N F (news_all _ _ _) (isL_of g) hi (by rw [hi.length]; exact hz) (fun h' vs' ns' e F' N' hI hp hs => ?_)
        have hns : ns' = sortI ns := sorted_unique (hp.trans (sortI_perm ns).symm) hs (sortI_sorted ns)
        subst hns
        have hf : s.heap.get? (s.heap.objs.size + 1) = none := by
          cases e : s.heap.get? (s.heap.objs.size + 1) with
          | none => rfl
          | some o => exact absurd (Heap.lt_size e) (Nat.not_lt.mpr (Nat.le_succ _))
        exact Done.news (tk := s.toks) (p := (s.heap.objs.size + 1, s.heap.objs.size + 1)) S hL F F' N' (fun p hp => List.mem_cons_of_mem _ hp) hf hf
          ⟨rfl, off_base S hf, vs', e, all2_of_ints hI, N'.get List.mem_cons_self⟩
      · cases h
    · cases h
  · cases h

set_option tactic.hygienic true in
theorem mkList_sound {v r : V} {x : Value} {H' : Hp} (hA : Ar A d) (hF : ∃ m, Fr G.base L s.heap m) (S : Sim G ρ H s) (hL : Off ρ L) (hx : VR ρ v x) (h : mkList H v = some (r, H')) :
    wpAny (model G.prog G.w) A (call (.type "list") [x]) (Done G L ρ s r H') (fun _ _ => False) s := by
  unfold mkList at h
  split at h
  · rename_i k
    split at h
    · rename_i vs e
      split at h
      · rename_i hz; cases h
        obtain ⟨a, xs, n, p, r, b, g⟩ := S.list e
        obtain rfl := Sim.ref hx p
        have hl := r.length
        refine call_list_seq (T := "list") (items := xs.toArray) a (.inl rfl) g rfl rfl (fun h' c' hk hobj => ?_) (by rw [sizeLine_eq]; simp; omega)
        have hf := heap_fresh s.heap
        obtain ⟨S', st, r'⟩ := grow_new (h' := h') (tk := s.toks) (p := (s.heap.objs.size, s.heap.objs.size)) (o := .list vs) S hk hf hf ⟨rfl, off_base S hf, xs, c', vrs_mono ⟨_, rfl⟩ r, hobj⟩
        exact .of hL r' S' st
      · cases h
    · rename_i a c n e
      split at h
      · rename_i hz; cases h
        obtain ⟨p, hp, e1, b, t, u, w, g, hs, hn⟩ := S.rep.at_ k _ e
        obtain ⟨p1, p2⟩ := p
        obtain rfl := Sim.ref hx hp
        refine call_list_range hA.handled g hs hn (by first | assumption | exact Nat.le_of_lt ‹_› | exact Nat.lt_succ_of_lt ‹_› | exact Nat.ne_of_lt ‹_› | exact Nat.ne_of_gt ‹_› | exact Nat.le_trans ‹_› (by decide) | exact Nat.lt_of_lt_of_le ‹_› (by decide) | decide | omega) (fun h' tk acc' c' hk hobj hit => ?_)
        have hf := heap_fresh s.heap
        have hv : All2 (VR (ρ ++ [(s.heap.objs.size, s.heap.objs.size)])) ((List.range n).map fun i : Nat => V.int (a + i * c)) acc'.toList := by
          refine all2_of_get (by simp [hit.1]) fun i v x h1 h2 => ?_
          have h3 : i < n := by
            have := (List.getElem?_eq_some_iff.mp h1).1
            simpa using this
          obtain ⟨t, rfl⟩ := hit.2 i x (by simpa using h2)
          rw [List.getElem?_map, List.getElem?_range h3] at h1
          cases h1
          exact ⟨t, rfl⟩
        obtain ⟨S', st, r'⟩ := grow_new (h' := h') (tk := tk) (p := (s.heap.objs.size, s.heap.objs.size)) (o := .list ((List.range n).map fun i : Nat => V.int (a + i * c))) S hk hf hf ⟨rfl, off_base S hf, acc'.toList, c', hv, by simpa using hobj⟩
        exact .of hL r' S' st
      · cases h
    · cases h
  · cases h
end
end Mz
end

section
open PySem PySem.W PyProof.Rows
set_option Elab.async false
set_option autoImplicit false

set_option tactic.hygienic false
namespace Mz

structure ClsOk (G : Gd) : Prop where
  kin : G.K.In G.base
  nodup : G.attrs.Nodup
  cget : ∀ c C, G.clsA c = some C → ∀ a x, G.attrs[a]? = some x → G.isField a = true →
    plainGet G.K C x = true ∧ hasDictIn G.K C = true ∧ (∃ at_, findIn G.K (.ref C) x = some at_ ∧ noGet G.K at_ = true) ∧ takerIn G.K C x = some none
  cset : ∀ c C, G.clsA c = some C → findIn G.K (.ref C) "__setattr__" = some (some (.builtin "object.__setattr__")) ∧ plainOver G.K C = true

section
variable {G : Gd} {A : Around} {d : Nat} {L : Addr} {ρ : RMap} {H : Hp} {s : Shared}

theorem isStr_str (x y : Str) (t : Tok) : (Value.str x t).isStr y = (x == y) := rfl

theorem attr_inj (hn : G.attrs.Nodup) {a b : Nat} {x : Str} (ha : G.attrs[a]? = some x) (hb : G.attrs[b]? = some x) : a = b := by
  have h1 := (List.getElem?_eq_some_iff.mp ha).1
  exact (List.getElem?_inj h1 hn).mp (ha.trans hb.symm)

theorem FR.isStr (hn : G.attrs.Nodup) {f : Nat × V} {e : DictEntry} (h : FR G ρ f e) {a : Nat} {x : Str} (ha : G.attrs[a]? = some x) : e.key.isStr x = decide (a = f.1) := by
  obtain ⟨y, t, hy, hk, _⟩ := h
  rw [hk, isStr_str]
  by_cases e : a = f.1
  · subst e; rw [ha] at hy; cases hy; simp
  · simp only [e, decide_false]
    rw [beq_eq_false_iff_ne]
    rintro rfl
    exact e (attr_inj hn ha hy)

set_option tactic.hygienic true in
theorem lookup_get (hn : G.attrs.Nodup) {a : Nat} {x : Str} (ha : G.attrs[a]? = some x) {fs : List (Nat × V)} {es : List DictEntry} (h : All2 (FR G ρ) fs es) :
    (∀ v, lookupA a fs = some v → ∃ val, PySem.W.getL x es = some (some val) ∧ VR ρ v val) ∧ (lookupA a fs = none → PySem.W.getL x es = some none) := by
  have norefs : ∀ {fs : List (Nat × V)} {es : List DictEntry}, All2 (FR G ρ) fs es → es.any (·.refKey) = false := by
    intro fs es h
    induction h with
    | nil => rfl
    | cons r _ ih =>
      obtain ⟨y, t, hy, hk, _⟩ := r
      rw [List.any_cons, ih]
      simp [DictEntry.refKey, hk]
  have key : (∀ v, lookupA a fs = some v → ∃ e, es.find? (·.key.isStr x) = some e ∧ VR ρ v e.val) ∧ (lookupA a fs = none → es.find? (·.key.isStr x) = none) := by
    clear norefs
    induction h with
    | nil => exact ⟨fun v e => by simp [lookupA] at e, fun _ => rfl⟩
    | cons r t ih =>
      rename_i f e fs es
      have hi := r.isStr hn ha
      obtain ⟨fk, fv⟩ := f
      simp only [lookupA]
      by_cases hc : a = fk
      · subst hc
        simp only [if_true]
        rw [List.find?_cons, hi]
        simp only [decide_true]
        obtain ⟨_, _, _, _, hv⟩ := r
        exact ⟨fun v hv' => ⟨e, rfl, by cases hv'; exact hv⟩, fun h => by cases h⟩
      · simp only [hc, if_false]
        rw [List.find?_cons, hi]
        simp only [hc, decide_false]
        exact ih
  refine ⟨fun v hv => ?_, fun hv => ?_⟩
  · obtain ⟨e, he, r⟩ := key.1 v hv
    refine ⟨e.val, ?_, r⟩
    unfold PySem.W.getL
    rw [he]
  · unfold PySem.W.getL
    rw [key.2 hv, norefs h]
    rfl

set_option tactic.hygienic true in
theorem store_put (hn : G.attrs.Nodup) {a : Nat} {x : Str} (ha : G.attrs[a]? = some x) {fs : List (Nat × V)} {es : List DictEntry} (h : All2 (FR G ρ) fs es) {v : V} {val : Value} (hv : VR ρ v val) (hsh : Int) (t : Tok) :
    All2 (FR G ρ) (storeA a v fs) (putL x hsh (.str x t) val es) := by
  induction h with
  | nil => exact .cons ⟨x, t, ha, rfl, hv⟩ .nil
  | cons r tl ih =>
    rename_i f e fs es
    have hi := r.isStr hn ha
    obtain ⟨fk, fv⟩ := f
    simp only [storeA, putL, hi]
    by_cases hc : a = fk
    · subst hc
      simp only [if_true, decide_true]
      obtain ⟨y, t', h1, h2, _⟩ := r
      exact .cons ⟨y, t', h1, h2, hv⟩ tl
    · simp only [hc, if_false, decide_false, Bool.false_eq_true]
      exact .cons r ih

theorem handed {v : V} {x : Value} (h : VR ρ v x) : handedIn x = true := by
  cases v with
  | none => cases h; rfl
  | bool b => cases h; rfl
  | int i => obtain ⟨t, rfl⟩ := h; rfl
  | ref k => obtain ⟨p, _, rfl⟩ := h; rfl

set_option tactic.hygienic true in
theorem getA_sound {o r : V} {a : Nat} {y : Str} {x : Value} (O : ClsOk G) (hF : ∃ m, Fr G.base L s.heap m) (S : Sim G ρ H s) (hL : Off ρ L) (hx : VR ρ o x) (ha : G.attrs[a]? = some y) (hf : G.isField a = true) (h : getA H o a = some r) (b : Bool) :
    wpAny (model G.prog G.w) A (getAttr x y b) (Done G L ρ s r H) (fun _ _ => False) s := by
  unfold getA at h
  split at h
  · rename_i k
    split at h
    · rename_i c fs e
      obtain ⟨p, hp, _, _, _, C, es, n, hc, g1, g2, hfs⟩ := S.rep.at_ k _ e
      obtain ⟨p', hp', rfl⟩ := hx
      rw [hp] at hp'; cases hp'
      obtain ⟨m, F⟩ := hF
      obtain ⟨h1, h2, ⟨at_, h3, h4⟩, _⟩ := O.cget c C hc a y ha hf
      obtain ⟨val, hv, hr⟩ := (lookup_get O.nodup ha hfs).1 r h
      exact get_own (K := G.K) (C := C) (ox := instObj C p.2) (es := es) (n := n) F O.kin ⟨g1, rfl, rfl, g2⟩ h1 h2 h3 h4 hv (handed hr) (Done.same S hL hr)
    · cases h
  · cases h

set_option tactic.hygienic true in
theorem setA_sound {o v : V} {a : Nat} {y : Str} {x z : Value} {H' : Hp} (O : ClsOk G) (hF : ∃ m, Fr G.base L s.heap m) (S : Sim G ρ H s) (hL : Off ρ L) (hx : VR ρ o x) (hz : VR ρ v z) (ha : G.attrs[a]? = some y) (hf : G.isField a = true) (h : setA H o a v = some H') :
    wpAny (model G.prog G.w) A (setAttr x y z) (fun _ s' => Sim G ρ H' s' ∧ Stp [L] ρ ρ s s' ∧ ∀ m, s.heap.Ns L m → s'.heap.Ns L m) (fun _ _ => False) s := by
  unfold setA at h
  split at h
  · rename_i k
    split at h
    · rename_i c fs e
      split at h
      · rename_i hsz; cases h
        obtain ⟨p, hp, hne, b1, b2, C, es, n, hc, g1, g2, hfs⟩ := S.rep.at_ k _ e
        obtain ⟨p', hp', rfl⟩ := hx
        rw [hp] at hp'; cases hp'
        obtain ⟨m, F⟩ := hF
        obtain ⟨h1, h2, ⟨at_, h3, h4⟩, h5⟩ := O.cget c C hc a y ha hf
        obtain ⟨q1, q2⟩ := O.cset c C hc
        have hl := hfs.length
        have hget : (PySem.W.getL y es).isSome = true := by
          cases hq : lookupA a fs with
          | some w => obtain ⟨val, hv, _⟩ := (lookup_get O.nodup ha hfs).1 w hq; rw [hv]; rfl
          | none => rw [(lookup_get O.nodup ha hfs).2 hq]; rfl
        have hoff := hL p (mem_of_get hp)
        let rest := (allNews G.base L s.heap).filter fun q => decide (q.1 ≠ p.2)
        have N : News G.base L s.heap ((p.2, dictOf es n) :: rest) := by
          intro q hq
          rcases List.mem_cons.mp hq with rfl | hq
          · exact ⟨g2, hoff.2, b2⟩
          · exact news_all _ _ _ q (List.mem_filter.mp hq).1
        have hput := store_put O.nodup ha hfs hz (PyData.keyHash G.w.params y) (s.toks + 1)
        have hlen : (putL y (PyData.keyHash G.w.params y) (.str y (s.toks + 1)) z es).length ≤ 1000 := by
          have e1 := hput.length
          have e2 : ∀ fs : List (Nat × V), (storeA a v fs).length ≤ fs.length + 1 := by
            intro fs
            induction fs with
            | nil => simp [storeA]
            | cons q r ih =>
              obtain ⟨qk, qv⟩ := q
              simp only [storeA]
              split
              · simp
              · simp; exact ih
          have := e2 fs
          omega
        refine set_dict (K := G.K) (C := C) (ox := instObj C p.2) (es := es) (n := n) F O.kin N ⟨g1, rfl, rfl, g2⟩ rfl q1 q2 h5 h2 hget rfl (Upd.head (fun q hq => by
          have := (List.mem_filter.mp hq).2
          simpa using this)) hlen (fun h' F' N' => ?_)
        have hk : ∀ b q, b ≠ L → b ≠ p.2 → s.heap.get? b = some q → h'.get? b = some q := by
          intro b q hb1 hb2 e
          cases e0 : G.base.get? b with
          | some o' =>
            have := S.keep b o' e0
            rw [e] at this; cases this
            exact F'.keep b q e0
          | none => exact (N' (b, q) (List.mem_cons_of_mem _ (List.mem_filter.mpr ⟨mem_allNews.mpr ⟨e, hb1, e0⟩, by simpa using hb2⟩))).1
        have hnew := N'.get List.mem_cons_self
        have ho : ObjAt G ρ h' p (.inst c (storeA a v fs)) := ⟨hne, b1, b2, C, _, _, hc, hk _ _ hoff.1 hne g1, hnew, hput⟩
        refine ⟨⟨⟨by simp [S.rep.len], fun j q e' => ?_, S.rep.apart⟩, F'.keep, S.pre⟩, ⟨⟨h', s.toks + 2, rfl⟩, List.prefix_refl _, by simp, fun b q h1 hoffb e' => ?_, fun b q e' => ?_⟩, Fr.nsTo F F'⟩
        · by_cases hj : k = j
          · subst hj
            have hlt : k < H.length := by
              have := (List.getElem?_eq_some_iff.mp e').1
              simpa using this
            rw [List.getElem?_set_self hlt] at e'
            cases e'
            exact ⟨p, hp, ho⟩
          · rw [List.getElem?_set_ne hj] at e'
            obtain ⟨r, hr, x⟩ := S.rep.at_ j q e'
            obtain ⟨a1, a2, a3, a4⟩ := S.rep.apart j k r p hr hp (Ne.symm hj)
            have hro := hL r (mem_of_get hr)
            exact ⟨r, hr, x.mono (List.prefix_refl _) (fun q => hk _ q hro.1 a2) (fun q => hk _ q hro.2 a4)⟩
        · have := hoffb p (mem_of_get hp)
          exact hk b q (by simpa using h1) (Ne.symm this.2) e'
        · by_cases hb1 : b = L
          · subst hb1; exact Heap.Ns_frame F'.ns
          · by_cases hb2 : b = p.2
            · subst hb2; exact ⟨_, hnew⟩
            · exact ⟨q, hk b q hb1 hb2 e'⟩
      · cases h
    · cases h
  · cases h
end
end Mz
end

section
open PySem PySem.W PyProof.Rows
set_option Elab.async false
set_option autoImplicit false

set_option tactic.hygienic false
namespace Mz

/-! ## is a piece of the text what its small form says? -/

noncomputable def litOk : Const → V → Bool
  | .none, .none => true
  | .bool a, .bool b => a == b
  | .int a, .int b => a == b
  | _, _ => false

noncomputable def isDebug (x : Str) : Bool := x == ("__debug__" : Str) || x == ("__classdict__" : Str)
theorem isDebug1 {x : Str} (h : isDebug x = false) : (x == ("__debug__" : Str)) = false := (Bool.or_eq_false_iff.mp h).1
theorem isDebug2 {x : Str} (h : isDebug x = false) : (x == ("__classdict__" : Str)) = false := (Bool.or_eq_false_iff.mp h).2

noncomputable def locKind : Option NameKind → Bool
  | some .local => true
  | some .cell => true
  | some .free => true
  | _ => false

noncomputable def baseOk : Expr → Bool
  | .Call .. => false
  | _ => true

noncomputable def intLit? : Expr → Option Int
  | .Constant (.int i) _ _ => some i
  | _ => none
noncomputable def intLits? : List Expr → Option (List Int)
  | [] => some []
  | e :: r => match intLit? e, intLits? r with
    | some i, some is => some (i :: is)
    | _, _ => none

noncomputable abbrev Kd := Str → Option NameKind

noncomputable def kdIn (kd : Kd) (sc : Scope) : Kd := fun n =>
  (sc.names.map fun (n, k) => if (k == .free && kd n == some .cell) then (n, NameKind.cell) else (n, k)).lookup n

noncomputable def nodupKeys : List (Str × NameKind) → Bool
  | [] => true
  | (x, _) :: r => !(r.any fun p => p.1 == x) && nodupKeys r

noncomputable def compOk (nm : List Str) (kd : Kd) (sc : Scope) (x : Str) : Bool :=
  sc.kind == .function && nodupKeys sc.names && !nm.contains x && x != (".0" : Str) &&
  (sc.names.lookup x == some .local || sc.names.lookup x == some .cell) &&
  (sc.names.all fun p => match p.2 with
    | .free => kd p.1 == some .cell || kd p.1 == some .free
    | .cell => p.1 == x
    | .local => p.1 == x || p.1 == (".0" : Str)
    | _ => true) && !nm.contains (".0" : Str)

theorem and_iff {a b : Bool} : (a && b) = true ↔ a = true ∧ b = true := Bool.and_eq_true_iff
theorem not_true {a : Bool} (h : (!a) = true) : a = false := by
  cases a
  · rfl
  · cases h

/-! views of a form: each test once -/

section
variable {α : Type}
noncomputable def vName (e : Expr) (f : Str → Bool) : Bool := match e with | .Name x _ => f x | _ => false
theorem vName_of {e : Expr} {f : Str → Bool} (h : vName e f = true) : ∃ x p, e = .Name x p ∧ f x = true := by
  cases e <;> first | exact (Bool.false_ne_true h).elim | exact ⟨_, _, rfl, h⟩
noncomputable def vConst (e : Expr) (f : Const → Bool) : Bool := match e with | .Constant c _ _ => f c | _ => false
theorem vConst_of {e : Expr} {f : Const → Bool} (h : vConst e f = true) : ∃ c k p, e = .Constant c k p ∧ f c = true := by
  cases e <;> first | exact (Bool.false_ne_true h).elim | exact ⟨_, _, _, rfl, h⟩
noncomputable def vBin (e : Expr) (f : Expr → Operator → Expr → Bool) : Bool := match e with | .BinOp l o r _ => f l o r | _ => false
theorem vBin_of {e : Expr} {f : Expr → Operator → Expr → Bool} (h : vBin e f = true) : ∃ l o r p, e = .BinOp l o r p ∧ f l o r = true := by
  cases e <;> first | exact (Bool.false_ne_true h).elim | exact ⟨_, _, _, _, rfl, h⟩
noncomputable def vUn (e : Expr) (f : UnaryOp → Expr → Bool) : Bool := match e with | .UnaryOp o x _ => f o x | _ => false
theorem vUn_of {e : Expr} {f : UnaryOp → Expr → Bool} (h : vUn e f = true) : ∃ o x p, e = .UnaryOp o x p ∧ f o x = true := by
  cases e <;> first | exact (Bool.false_ne_true h).elim | exact ⟨_, _, _, rfl, h⟩
noncomputable def vBool (e : Expr) (f : BoolOp → List Expr → Pos → Bool) : Bool := match e with | .BoolOp o vs p => f o vs p | _ => false
theorem vBool_of {e : Expr} {f : BoolOp → List Expr → Pos → Bool} (h : vBool e f = true) : ∃ o vs p, e = .BoolOp o vs p ∧ f o vs p = true := by
  cases e <;> first | exact (Bool.false_ne_true h).elim | exact ⟨_, _, _, rfl, h⟩
noncomputable def vCmp (e : Expr) (f : Expr → List CmpOp → List Expr → Bool) : Bool := match e with | .Compare l os rs _ => f l os rs | _ => false
theorem vCmp_of {e : Expr} {f : Expr → List CmpOp → List Expr → Bool} (h : vCmp e f = true) : ∃ l os rs p, e = .Compare l os rs p ∧ f l os rs = true := by
  cases e <;> first | exact (Bool.false_ne_true h).elim | exact ⟨_, _, _, _, rfl, h⟩
noncomputable def vIfX (e : Expr) (f : Expr → Expr → Expr → Bool) : Bool := match e with | .IfExp t x y _ => f t x y | _ => false
theorem vIfX_of {e : Expr} {f : Expr → Expr → Expr → Bool} (h : vIfX e f = true) : ∃ t x y p, e = .IfExp t x y p ∧ f t x y = true := by
  cases e <;> first | exact (Bool.false_ne_true h).elim | exact ⟨_, _, _, _, rfl, h⟩
noncomputable def vCall (e : Expr) (f : Expr → List Expr → Pos → Bool) : Bool := match e with | .Call g as [] p => f g as p | _ => false
theorem vCall_of {e : Expr} {f : Expr → List Expr → Pos → Bool} (h : vCall e f = true) : ∃ g as p, e = .Call g as [] p ∧ f g as p = true := by
  cases e with
  | Call g as ks p =>
    cases ks with
    | nil => exact ⟨_, _, _, rfl, h⟩
    | cons _ _ => exact (Bool.false_ne_true h).elim
  | _ => exact (Bool.false_ne_true h).elim
noncomputable def vAttr (e : Expr) (f : Expr → Str → Pos → Bool) : Bool := match e with | .Attribute o y p => f o y p | _ => false
theorem vAttr_of {e : Expr} {f : Expr → Str → Pos → Bool} (h : vAttr e f = true) : ∃ o y p, e = .Attribute o y p ∧ f o y p = true := by
  cases e <;> first | exact (Bool.false_ne_true h).elim | exact ⟨_, _, _, rfl, h⟩
noncomputable def vSub (e : Expr) (f : Expr → Expr → Bool) : Bool := match e with | .Subscript o i _ => f o i | _ => false
theorem vSub_of {e : Expr} {f : Expr → Expr → Bool} (h : vSub e f = true) : ∃ o i p, e = .Subscript o i p ∧ f o i = true := by
  cases e <;> first | exact (Bool.false_ne_true h).elim | exact ⟨_, _, _, rfl, h⟩
noncomputable def vSlice (e : Expr) (f : Option Expr → Option Expr → Option Expr → Bool) : Bool := match e with | .Slice a b c _ => f a b c | _ => false
theorem vSlice_of {e : Expr} {f : Option Expr → Option Expr → Option Expr → Bool} (h : vSlice e f = true) : ∃ a b c p, e = .Slice a b c p ∧ f a b c = true := by
  cases e <;> first | exact (Bool.false_ne_true h).elim | exact ⟨_, _, _, _, rfl, h⟩
noncomputable def vList (e : Expr) (f : List Expr → Bool) : Bool := match e with | .List es _ => f es | _ => false
theorem vList_of {e : Expr} {f : List Expr → Bool} (h : vList e f = true) : ∃ es p, e = .List es p ∧ f es = true := by
  cases e <;> first | exact (Bool.false_ne_true h).elim | exact ⟨_, _, rfl, h⟩
noncomputable def vTup (e : Expr) (f : List Expr → Bool) : Bool := match e with | .Tuple es _ _ => f es | _ => false
theorem vTup_of {e : Expr} {f : List Expr → Bool} (h : vTup e f = true) : ∃ es k p, e = .Tuple es k p ∧ f es = true := by
  cases e <;> first | exact (Bool.false_ne_true h).elim | exact ⟨_, _, _, rfl, h⟩
noncomputable def vLC (e : Expr) (f : Expr → List Comprehension → Scope → Bool) : Bool := match e with | .ListComp x gs sc _ => f x gs sc | _ => false
theorem vLC_of {e : Expr} {f : Expr → List Comprehension → Scope → Bool} (h : vLC e f = true) : ∃ x gs sc p, e = .ListComp x gs sc p ∧ f x gs sc = true := by
  cases e <;> first | exact (Bool.false_ne_true h).elim | exact ⟨_, _, _, _, rfl, h⟩
noncomputable def l1 (l : List α) (f : α → Bool) : Bool := match l with | [a] => f a | _ => false
theorem l1_of {l : List α} {f : α → Bool} (h : l1 l f = true) : ∃ a, l = [a] ∧ f a = true := by
  match l, h with
  | [a], h => exact ⟨_, rfl, h⟩
noncomputable def l2 (l : List α) (f : α → α → Bool) : Bool := match l with | [a, b] => f a b | _ => false
theorem l2_of {l : List α} {f : α → α → Bool} (h : l2 l f = true) : ∃ a b, l = [a, b] ∧ f a b = true := by
  match l, h with
  | [a, b], h => exact ⟨_, _, rfl, h⟩
noncomputable def l3 (l : List α) (f : α → α → α → Bool) : Bool := match l with | [a, b, c] => f a b c | _ => false
theorem l3_of {l : List α} {f : α → α → α → Bool} (h : l3 l f = true) : ∃ a b c, l = [a, b, c] ∧ f a b c = true := by
  match l, h with
  | [a, b, c], h => exact ⟨_, _, _, rfl, h⟩
noncomputable def l2r (l : List α) (f : α → α → List α → Bool) : Bool := match l with | a :: b :: r => f a b r | _ => false
theorem l2r_of {l : List α} {f : α → α → List α → Bool} (h : l2r l f = true) : ∃ a b r, l = a :: b :: r ∧ f a b r = true := by
  match l, h with
  | a :: b :: r, h => exact ⟨_, _, _, rfl, h⟩
noncomputable def oS (o : Option α) (f : α → Bool) : Bool := match o with | some a => f a | none => false
theorem oS_of {o : Option α} {f : α → Bool} (h : oS o f = true) : ∃ a, o = some a ∧ f a = true := by
  match o, h with
  | some a, h => exact ⟨_, rfl, h⟩
noncomputable def vGen (g : Comprehension) (f : Str → Expr → List Expr → Bool) : Bool := match g with | ⟨t, i, fs, 0⟩ => vName t fun x => f x i fs | _ => false
set_option tactic.hygienic true in
theorem vGen_of {g : Comprehension} {f : Str → Expr → List Expr → Bool} (h : vGen g f = true) : ∃ x p i fs, g = ⟨.Name x p, i, fs, 0⟩ ∧ f x i fs = true := by
  obtain ⟨t, i, fs, n⟩ := g
  have hn : n = 0 := by
    unfold vGen at h
    split at h
    · rename_i e; injection e
    · cases h
  subst hn
  obtain ⟨x, p, rfl, h⟩ := vName_of (e := t) h
  exact ⟨_, _, _, _, rfl, h⟩
theorem vBin_e {e : Expr} {f : Expr → Operator → Expr → Bool} (h : vBin e f = true) : ∀ P : Expr → Prop, (∀ l o r p, f l o r = true → P (.BinOp l o r p)) → P e := fun P kk => by
  obtain ⟨l, o, r, p, rfl, h⟩ := vBin_of h
  exact kk _ _ _ _ h
theorem vUn_e {e : Expr} {f : UnaryOp → Expr → Bool} (h : vUn e f = true) : ∀ P : Expr → Prop, (∀ o x p, f o x = true → P (.UnaryOp o x p)) → P e := fun P kk => by
  obtain ⟨o, x, p, rfl, h⟩ := vUn_of h
  exact kk _ _ _ h
theorem vBool_e {e : Expr} {f : BoolOp → List Expr → Pos → Bool} (h : vBool e f = true) : ∀ P : Expr → Prop, (∀ o vs p, f o vs p = true → P (.BoolOp o vs p)) → P e := fun P kk => by
  obtain ⟨o, vs, p, rfl, h⟩ := vBool_of h
  exact kk _ _ _ h
theorem vCmp_e {e : Expr} {f : Expr → List CmpOp → List Expr → Bool} (h : vCmp e f = true) : ∀ P : Expr → Prop, (∀ l os rs p, f l os rs = true → P (.Compare l os rs p)) → P e := fun P kk => by
  obtain ⟨l, os, rs, p, rfl, h⟩ := vCmp_of h
  exact kk _ _ _ _ h
theorem vIfX_e {e : Expr} {f : Expr → Expr → Expr → Bool} (h : vIfX e f = true) : ∀ P : Expr → Prop, (∀ t x y p, f t x y = true → P (.IfExp t x y p)) → P e := fun P kk => by
  obtain ⟨t, x, y, p, rfl, h⟩ := vIfX_of h
  exact kk _ _ _ _ h
theorem vCall_e {e : Expr} {f : Expr → List Expr → Pos → Bool} (h : vCall e f = true) : ∀ P : Expr → Prop, (∀ g as p, f g as p = true → P (.Call g as [] p)) → P e := fun P kk => by
  obtain ⟨g, as, p, rfl, h⟩ := vCall_of h
  exact kk _ _ _ h
theorem vAttr_e {e : Expr} {f : Expr → Str → Pos → Bool} (h : vAttr e f = true) : ∀ P : Expr → Prop, (∀ o y p, f o y p = true → P (.Attribute o y p)) → P e := fun P kk => by
  obtain ⟨o, y, p, rfl, h⟩ := vAttr_of h
  exact kk _ _ _ h
theorem vSub_e {e : Expr} {f : Expr → Expr → Bool} (h : vSub e f = true) : ∀ P : Expr → Prop, (∀ o i p, f o i = true → P (.Subscript o i p)) → P e := fun P kk => by
  obtain ⟨o, i, p, rfl, h⟩ := vSub_of h
  exact kk _ _ _ h
theorem vList_e {e : Expr} {f : List Expr → Bool} (h : vList e f = true) : ∀ P : Expr → Prop, (∀ es p, f es = true → P (.List es p)) → P e := fun P kk => by
  obtain ⟨es, p, rfl, h⟩ := vList_of h
  exact kk _ _ h
theorem vTup_e {e : Expr} {f : List Expr → Bool} (h : vTup e f = true) : ∀ P : Expr → Prop, (∀ es k p, f es = true → P (.Tuple es k p)) → P e := fun P kk => by
  obtain ⟨es, k, p, rfl, h⟩ := vTup_of h
  exact kk _ _ _ h
theorem vLC_e {e : Expr} {f : Expr → List Comprehension → Scope → Bool} (h : vLC e f = true) : ∀ P : Expr → Prop, (∀ x gs sc p, f x gs sc = true → P (.ListComp x gs sc p)) → P e := fun P kk => by
  obtain ⟨x, gs, sc, p, rfl, h⟩ := vLC_of h
  exact kk _ _ _ _ h
theorem and2e {a b : Bool} {p : Prop} (h : (a && b) = true) (k : a = true → b = true → p) : p := k (and_iff.mp h).1 (and_iff.mp h).2
theorem and3e {a b c : Bool} {p : Prop} (h : ((a && b) && c) = true) (k : a = true → b = true → c = true → p) : p := and2e h fun h z => and2e h fun h1 h2 => k h1 h2 z
theorem and4e {a b c d : Bool} {p : Prop} (h : (((a && b) && c) && d) = true) (k : a = true → b = true → c = true → d = true → p) : p := and2e h fun h z => and3e h fun h1 h2 h3 => k h1 h2 h3 z
theorem and5e {a b c d e : Bool} {p : Prop} (h : ((((a && b) && c) && d) && e) = true) (k : a = true → b = true → c = true → d = true → e = true → p) : p := and2e h fun h z => and4e h fun h1 h2 h3 h4 => k h1 h2 h3 h4 z
theorem and6e {a b c d e f : Bool} {p : Prop} (h : (((((a && b) && c) && d) && e) && f) = true) (k : a = true → b = true → c = true → d = true → e = true → f = true → p) : p := and2e h fun h z => and5e h fun h1 h2 h3 h4 h5 => k h1 h2 h3 h4 h5 z
theorem and7e {a b c d e f g : Bool} {p : Prop} (h : ((((((a && b) && c) && d) && e) && f) && g) = true) (k : a = true → b = true → c = true → d = true → e = true → f = true → g = true → p) : p := and2e h fun h z => and6e h fun h1 h2 h3 h4 h5 h6 => k h1 h2 h3 h4 h5 h6 z
theorem and8e {a b c d e f g i : Bool} {p : Prop} (h : (((((((a && b) && c) && d) && e) && f) && g) && i) = true) (k : a = true → b = true → c = true → d = true → e = true → f = true → g = true → i = true → p) : p := and2e h fun h z => and7e h fun h1 h2 h3 h4 h5 h6 h7 => k h1 h2 h3 h4 h5 h6 h7 z
end

noncomputable def okE : Expr → Bool
  | .Starred .. => false
  | .Slice .. => false
  | .Set .. => false
  | _ => true

mutual
noncomputable def cX (G : Gd) : X → List Str → Kd → Expr → Bool
  | .lit v, nm, kd, e => vConst e (fun c => litOk c v) || vName e fun x => kd x == some .globalImplicit && G.glob x == some v && !isDebug x
  | .loc i, nm, kd, e => vName e fun x => nm[i]? == some x && locKind (kd x) && !isDebug x
  | .bin op a b, nm, kd, e => vBin e fun l o r => o == opOf op && cX G a nm kd l && cX G b nm kd r
  | .neg a, nm, kd, e => vUn e fun u x => u == .USub && cX G a nm kd x
  | .inv a, nm, kd, e => vUn e fun u x => u == .Invert && cX G a nm kd x
  | .not a, nm, kd, e => vUn e fun u x => u == .Not && cX G a nm kd x
  | .and a b, nm, kd, e => vBool e fun o vs p => o == .And && l2r vs fun x y r => cX G a nm kd x && cX G b nm kd (if r.isEmpty then y else .BoolOp .And (y :: r) p)
  | .or a b, nm, kd, e => vBool e fun o vs p => o == .Or && l2r vs fun x y r => cX G a nm kd x && cX G b nm kd (if r.isEmpty then y else .BoolOp .Or (y :: r) p)
  | .cmp op a b, nm, kd, e => vCmp e fun l os rs => l1 os fun o => l1 rs fun r => o == copOf op && cX G a nm kd l && cX G b nm kd r
  | .cmp2 o1 o2 a b c, nm, kd, e => vCmp e fun l os rs => l2 os fun p1 p2 => l2 rs fun m r => p1 == copOf o1 && p2 == copOf o2 && cX G a nm kd l && cX G b nm kd m && cX G c nm kd r
  | .mem p a ks, nm, kd, e => vCmp e fun l os rs => l1 os fun o => l1 rs fun r => vTup r fun elts => o == (if p then CmpOp.In else CmpOp.NotIn) && cX G a nm kd l && intLits? elts == some ks && decide (ks.length ≤ 100)
  | .ite c a b, nm, kd, e => vIfX e fun t x y => cX G c nm kd t && cX G a nm kd x && cX G b nm kd y
  | .call f as, nm, kd, e => vCall e fun g args _ => vName g fun x => kd x == some .globalImplicit && G.fn x == some f && !isDebug x && cXs G as nm kd args
  | .new c as, nm, kd, e => vCall e fun g args _ => vName g fun x => kd x == some .globalImplicit && G.cls x == some c && !isDebug x && cXs G as nm kd args
  | .meth o m as, nm, kd, e => vCall e fun g args p => vAttr g fun oe y ap => baseOk oe && G.attrs[m]? == some y && ap.endLine == p.line && decide (args.length < 20) && cX G o nm kd oe && cXs G as nm kd args
  | .len a, nm, kd, e => vCall e fun g args _ => vName g fun x => l1 args fun r => x == ("len" : Str) && kd x == some .globalImplicit && cX G a nm kd r
  | .listOf a, nm, kd, e => vCall e fun g args _ => vName g fun x => l1 args fun r => x == ("list" : Str) && kd x == some .globalImplicit && cX G a nm kd r
  | .sorted a, nm, kd, e => vCall e fun g args _ => vName g fun x => l1 args fun r => x == ("sorted" : Str) && kd x == some .globalImplicit && cX G a nm kd r
  | .rng1 b, nm, kd, e => vCall e fun g args _ => vName g fun x => l1 args fun r => x == ("range" : Str) && kd x == some .globalImplicit && cX G b nm kd r
  | .rng2 a b, nm, kd, e => vCall e fun g args _ => vName g fun x => l2 args fun q r => x == ("range" : Str) && kd x == some .globalImplicit && cX G a nm kd q && cX G b nm kd r
  | .rng3 a b c, nm, kd, e => vCall e fun g args _ => vName g fun x => l3 args fun q r t => x == ("range" : Str) && kd x == some .globalImplicit && cX G a nm kd q && cX G b nm kd r && cX G c nm kd t
  | .append a b, nm, kd, e => vCall e fun g args p => vAttr g fun oe y ap => l1 args fun r => y == ("append" : Str) && baseOk oe && ap.endLine == p.line && cX G a nm kd oe && cX G b nm kd r
  | .count a b, nm, kd, e => vCall e fun g args p => vAttr g fun oe y ap => l1 args fun r => y == ("count" : Str) && baseOk oe && ap.endLine == p.line && cX G a nm kd oe && cX G b nm kd r
  | .attr o a, nm, kd, e => vAttr e fun oe y _ => baseOk oe && G.attrs[a]? == some y && G.isField a && cX G o nm kd oe
  | .idx o i, nm, kd, e => vSub e fun oe ie => cX G o nm kd oe && cX G i nm kd ie
  | .slTo o b, nm, kd, e => vSub e fun oe sl => vSlice sl fun l u t => l.isNone && t.isNone && oS u fun be => cX G o nm kd oe && cX G b nm kd be
  | .slFrom o a, nm, kd, e => vSub e fun oe sl => vSlice sl fun l u t => u.isNone && t.isNone && oS l fun ae => cX G o nm kd oe && cX G a nm kd ae
  | .slBt o a b, nm, kd, e => vSub e fun oe sl => vSlice sl fun l u t => t.isNone && oS l fun ae => oS u fun be => cX G o nm kd oe && cX G a nm kd ae && cX G b nm kd be
  | .rev o, nm, kd, e => vSub e fun oe sl => vSlice sl fun l u t => l.isNone && u.isNone && (oS t fun te => vUn te fun n y => n == .USub && vConst y fun c => litOk c (.int 1)) && cX G o nm kd oe
  | .list es, nm, kd, e => vList e fun elts => cXs G es nm kd elts && decide (elts.length ≤ 100)
  | .tup es, nm, kd, e => vTup e fun elts => cXs G es nm kd elts && decide (elts.length ≤ 100)
  | .comp e it, nm, kd, ex => vLC ex fun elt gs sc => l1 gs fun g => vGen g fun x iter fs => fs.isEmpty && cX G it nm kd iter && compOk nm kd sc x && cX G e (nm ++ [x]) (kdIn kd sc) elt
  | .compIf e it c, nm, kd, ex => vLC ex fun elt gs sc => l1 gs fun g => vGen g fun x iter fs => l1 fs fun t => cX G it nm kd iter && compOk nm kd sc x && cX G c (nm ++ [x]) (kdIn kd sc) t && cX G e (nm ++ [x]) (kdIn kd sc) elt
noncomputable def cXs (G : Gd) : Xs → List Str → Kd → List Expr → Bool
  | .nil, nm, kd, es => es.isEmpty
  | .cons a as, nm, kd, es => match es with
    | e :: r => cX G a nm kd e && cXs G as nm kd r
    | [] => false
end

theorem cX_ok {G : Gd} {e : X} {nm : List Str} {kd : Kd} {ex : Expr} (h : cX G e nm kd ex = true) : okE ex = true := by
  cases e with
  | lit v =>
    have h : (vConst ex _ || vName ex _) = true := h
    rcases Bool.or_eq_true_iff.mp h with h | h
    · obtain ⟨_, _, _, rfl, _⟩ := vConst_of h; rfl
    · obtain ⟨_, _, rfl, _⟩ := vName_of h; rfl
  | loc i => obtain ⟨_, _, rfl, _⟩ := vName_of h; rfl
  | bin op a b => obtain ⟨_, _, _, _, rfl, _⟩ := vBin_of h; rfl
  | neg a => obtain ⟨_, _, _, rfl, _⟩ := vUn_of h; rfl
  | inv a => obtain ⟨_, _, _, rfl, _⟩ := vUn_of h; rfl
  | not a => obtain ⟨_, _, _, rfl, _⟩ := vUn_of h; rfl
  | and a b => obtain ⟨_, _, _, rfl, _⟩ := vBool_of h; rfl
  | or a b => obtain ⟨_, _, _, rfl, _⟩ := vBool_of h; rfl
  | cmp op a b => obtain ⟨_, _, _, _, rfl, _⟩ := vCmp_of h; rfl
  | cmp2 o1 o2 a b c => obtain ⟨_, _, _, _, rfl, _⟩ := vCmp_of h; rfl
  | mem p a ks => obtain ⟨_, _, _, _, rfl, _⟩ := vCmp_of h; rfl
  | ite c a b => obtain ⟨_, _, _, _, rfl, _⟩ := vIfX_of h; rfl
  | attr o a => obtain ⟨_, _, _, rfl, _⟩ := vAttr_of h; rfl
  | idx o i => obtain ⟨_, _, _, rfl, _⟩ := vSub_of h; rfl
  | slTo o b => obtain ⟨_, _, _, rfl, _⟩ := vSub_of h; rfl
  | slFrom o a => obtain ⟨_, _, _, rfl, _⟩ := vSub_of h; rfl
  | slBt o a b => obtain ⟨_, _, _, rfl, _⟩ := vSub_of h; rfl
  | rev o => obtain ⟨_, _, _, rfl, _⟩ := vSub_of h; rfl
  | list es => obtain ⟨_, _, rfl, _⟩ := vList_of h; rfl
  | tup es => obtain ⟨_, _, _, rfl, _⟩ := vTup_of h; rfl
  | comp e it => obtain ⟨_, _, _, _, rfl, _⟩ := vLC_of h; rfl
  | compIf e it c => obtain ⟨_, _, _, _, rfl, _⟩ := vLC_of h; rfl
  | _ => obtain ⟨_, _, _, rfl, _⟩ := vCall_of h; rfl

noncomputable def isComp : Expr → Bool
  | .ListComp .. => true
  | .SetComp .. => true
  | .DictComp .. => true
  | _ => false
noncomputable def isTup : Expr → Bool
  | .Tuple .. => true
  | _ => false

/-! views of a statement -/
noncomputable def wAsn (s : Stmt) (f : List Expr → Expr → Bool) : Bool := match s with | .Assign ts v _ => f ts v | _ => false
theorem wAsn_of {s : Stmt} {f : List Expr → Expr → Bool} (h : wAsn s f = true) : ∃ ts v p, s = .Assign ts v p ∧ f ts v = true := by
  cases s <;> first | exact (Bool.false_ne_true h).elim | exact ⟨_, _, _, rfl, h⟩
noncomputable def wAug (s : Stmt) (f : Expr → Operator → Expr → Bool) : Bool := match s with | .AugAssign t o v _ => f t o v | _ => false
theorem wAug_of {s : Stmt} {f : Expr → Operator → Expr → Bool} (h : wAug s f = true) : ∃ t o v p, s = .AugAssign t o v p ∧ f t o v = true := by
  cases s <;> first | exact (Bool.false_ne_true h).elim | exact ⟨_, _, _, _, rfl, h⟩
noncomputable def wIf (s : Stmt) (f : Expr → List Stmt → List Stmt → Bool) : Bool := match s with | .If t b o _ => f t b o | _ => false
theorem wIf_of {s : Stmt} {f : Expr → List Stmt → List Stmt → Bool} (h : wIf s f = true) : ∃ t b o p, s = .If t b o p ∧ f t b o = true := by
  cases s <;> first | exact (Bool.false_ne_true h).elim | exact ⟨_, _, _, _, rfl, h⟩
noncomputable def wFor (s : Stmt) (f : Expr → Expr → List Stmt → Bool) : Bool := match s with | .For t i b [] _ => f t i b | _ => false
theorem wFor_of {s : Stmt} {f : Expr → Expr → List Stmt → Bool} (h : wFor s f = true) : ∃ t i b p, s = .For t i b [] p ∧ f t i b = true := by
  cases s with
  | For t i b o p =>
    cases o with
    | nil => exact ⟨_, _, _, _, rfl, h⟩
    | cons _ _ => exact (Bool.false_ne_true h).elim
  | _ => exact (Bool.false_ne_true h).elim
noncomputable def wRet (s : Stmt) (f : Option Expr → Bool) : Bool := match s with | .Return v _ => f v | _ => false
theorem wRet_of {s : Stmt} {f : Option Expr → Bool} (h : wRet s f = true) : ∃ v p, s = .Return v p ∧ f v = true := by
  cases s <;> first | exact (Bool.false_ne_true h).elim | exact ⟨_, _, rfl, h⟩
noncomputable def wExp (s : Stmt) (f : Expr → Bool) : Bool := match s with | .Expr v _ => f v | _ => false
theorem wExp_of {s : Stmt} {f : Expr → Bool} (h : wExp s f = true) : ∃ v p, s = .Expr v p ∧ f v = true := by
  cases s <;> first | exact (Bool.false_ne_true h).elim | exact ⟨_, _, rfl, h⟩

mutual
noncomputable def cS (G : Gd) : S → List Str → Kd → Stmt → Bool
  | .asn i e, nm, kd, st => wAsn st fun ts v => l1 ts fun t => vName t fun x => nm[i]? == some x && (kd x == some .local || kd x == some .cell) && cX G e nm kd v
  | .asn2 i j e, nm, kd, st => wAsn st fun ts v => l1 ts fun t => vTup t fun es => l2 es fun a b => vName a fun x => vName b fun y =>
      nm[i]? == some x && nm[j]? == some y && i != j && (kd x == some .local || kd x == some .cell) && (kd y == some .local || kd y == some .cell) && !isComp v && !isTup v && cX G e nm kd v
  | .setattr o a e, nm, kd, st => wAsn st fun ts v => l1 ts fun t => vAttr t fun oe y _ => G.attrs[a]? == some y && G.isField a && !isComp v && cX G e nm kd v && cX G o nm kd oe
  | .setidx o i e, nm, kd, st => wAsn st fun ts v => l1 ts fun t => vSub t fun oe ie => !isComp v && cX G e nm kd v && cX G o nm kd oe && cX G i nm kd ie
  | .aug i op e, nm, kd, st => wAug st fun t o v => vName t fun x => nm[i]? == some x && (kd x == some .local || kd x == some .cell) && o == opOf op && (op == .add || op == .bor || op == .bxor) && cX G e nm kd v
  | .augidx o i op e, nm, kd, st => wAug st fun t p v => vSub t fun oe ie => p == opOf op && (op == .add || op == .bor || op == .bxor) && cX G o nm kd oe && cX G i nm kd ie && cX G e nm kd v
  | .augattr o a op e, nm, kd, st => wAug st fun t p v => vAttr t fun oe y _ => G.attrs[a]? == some y && G.isField a && p == opOf op && (op == .add || op == .bor || op == .bxor) && cX G o nm kd oe && cX G e nm kd v
  | .ite c t f, nm, kd, st => wIf st fun te b o => cX G c nm kd te && cB G t nm kd b && cB G f nm kd o
  | .loop x it b, nm, kd, st => wFor st fun t ie body => vName t fun y => nm[x]? == some y && (kd y == some .local || kd y == some .cell) && cX G it nm kd ie && cB G b nm kd body
  | .ret e, nm, kd, st => wRet st fun o => oS o fun v => cX G e nm kd v
  | .expr e, nm, kd, st => wExp st fun v => !isComp v && cX G e nm kd v
  | .fail, nm, kd, st => true
noncomputable def cB (G : Gd) : B → List Str → Kd → List Stmt → Bool
  | .nil, nm, kd, b => b.isEmpty
  | .cons s r, nm, kd, b => match b with
    | st :: t => cS G s nm kd st && cB G r nm kd t
    | [] => false
end

end Mz
end

section
open PySem PySem.W PyProof.Rows
set_option Elab.async false
set_option autoImplicit false

set_option tactic.hygienic false
namespace Mz

structure Gd.Ok (G : Gd) : Prop extends ClsOk G where
  g : G.base.Ns mainGlobals G.mg
  b : G.base.Ns builtinsNs G.mb
  nolimit : G.base.NoLimit
  blen : G.mg "len" = none ∧ G.mb "len" = some (.builtin "len")
  bsorted : G.mg "sorted" = none ∧ G.mb "sorted" = some (.builtin "sorted")
  blist : G.mg "list" = none ∧ G.mb "list" = some (.type "list")
  brange : G.mg "range" = none ∧ G.mb "range" = some (.type "range")
  globOk : ∀ x v, G.glob x = some v → ∃ val, G.mg x = some val ∧ VR G.ρ₀ v val
  fnOk : ∀ x f, G.fn x = some f → ∃ a, G.fnA f = some a ∧ G.mg x = some (.ref a)
  fnKeep : ∀ f a, G.fnA f = some a → keepIn G.K (.ref a) = true
  clsName : ∀ x c, G.cls x = some c → ∃ C, G.clsA c = some C ∧ G.mg x = some (.ref C)
  clsKeep : ∀ c C, G.clsA c = some C → keepIn G.K (.ref C) = true
  new : ∀ c C f, G.clsA c = some C → G.T.init c = some f → ∃ fI, G.fnA f = some fI ∧ findIn G.K (.ref C) "__init__" = some (some (.ref fI)) ∧ isFn G.K (.ref fI) = true ∧ makesIn G.K C = true
  meth : ∀ c C m f y, G.clsA c = some C → G.T.meth c m = some f → G.attrs[m]? = some y → ∃ fI, G.fnA f = some fI ∧ findIn G.K (.ref C) y = some (some (.ref fI)) ∧ isFn G.K (.ref fI) = true ∧ plainGet G.K C y = true

theorem Done.after {G : Gd} {L : Addr} {ρ ρ₁ : RMap} {s s₁ s' : Shared} {v : V} {H' : Hp} {x : Value} (st : Stp [L] ρ ρ₁ s s₁) (n : ∀ m, s.heap.Ns L m → s₁.heap.Ns L m) (D : Done G L ρ₁ s₁ v H' x s') : Done G L ρ s v H' x s' := by
  obtain ⟨ρ', hv, S', st', n'⟩ := D
  exact ⟨ρ', hv, S', st.trans st', fun m h => n' m (n m h)⟩

noncomputable def DoneU (G : Gd) (L : Addr) (ρ : RMap) (s : Shared) (H' : Hp) (s' : Shared) : Prop := ∃ ρ', Sim G ρ' H' s' ∧ Stp [L] ρ ρ' s s' ∧ ∀ m, s.heap.Ns L m → s'.heap.Ns L m
theorem DoneU.after {G : Gd} {L : Addr} {ρ ρ₁ : RMap} {s s₁ s' : Shared} {H' : Hp} (st : Stp [L] ρ ρ₁ s s₁) (n : ∀ m, s.heap.Ns L m → s₁.heap.Ns L m) (D : DoneU G L ρ₁ s₁ H' s') : DoneU G L ρ s H' s' := by
  obtain ⟨ρ', S', st', n'⟩ := D
  exact ⟨ρ', S', st.trans st', fun m h => n' m (n m h)⟩
noncomputable def FnS (G : Gd) (F : FnT) (d : Nat) : Prop :=
  ∀ (f : Nat) (a : Addr) (args : List V) (h : Hp) (v : V) (h' : Hp) (A : Around) (ρ : RMap) (s : Shared) (xs : List Value), G.fnA f = some a → F f args h = some (v, h') → ArF A d → Sim G ρ h s → All2 (VR ρ) args xs →
    codeAny (model G.prog G.w) A (.call (.ref a) ⟨xs, []⟩) (fun r s' => ∃ x, r = .ok (.ret x) ∧ ∃ ρ', VR ρ' v x ∧ Sim G ρ' h' s' ∧ Stp [] ρ ρ' s s') s

structure SndE (G : Gd) (F : FnT) (d : Nat) (nm : List Str) (kd : Kd) (e : X) (ex : Expr) : Prop where
  run : ∀ {A : Around} {env : Env} {ρ : RMap} {l : Loc} {H : Hp} {s : Shared} {v : V} {H' : Hp}, Ar A d → Lc G nm kd env ρ l s → Sim G ρ H s → ev G.T F e l H = some (v, H') →
    wpAny (model G.prog G.w) A (eval ex env) (Done G env.locals ρ s v H') (fun _ _ => False) s
structure SndT (G : Gd) (F : FnT) (d : Nat) (nm : List Str) (kd : Kd) (e : X) (ex : Expr) : Prop where
  run : ∀ {A : Around} {env : Env} {ρ : RMap} {l : Loc} {H : Hp} {s : Shared} {v : V} {H' : Hp} {b : Bool}, Ar A d → Lc G nm kd env ρ l s → Sim G ρ H s → ev G.T F e l H = some (v, H') → truthy v = some b →
    wpAny (model G.prog G.w) A (isTrue ex env (eval ex env)) (fun c s' => c = b ∧ DoneU G env.locals ρ s H' s') (fun _ _ => False) s
noncomputable def SndX (G : Gd) (F : FnT) (d : Nat) (nm : List Str) (kd : Kd) (e : X) (ex : Expr) : Prop := SndE G F d nm kd e ex ∧ SndT G F d nm kd e ex
noncomputable def SndXs (G : Gd) (F : FnT) (d : Nat) (nm : List Str) (kd : Kd) (es : Xs) (exs : List Expr) : Prop :=
  (∀ {A : Around} {env : Env} {ρ : RMap} {l : Loc} {H : Hp} {s : Shared} {vs : List V} {H' : Hp} {pos : Pos}, Ar A d → Lc G nm kd env ρ l s → Sim G ρ H s → evs G.T F es l H = some (vs, H') →
    wpAny (model G.prog G.w) A (spliced (backTo pos (starEach exs env))) (fun xs s' => ∃ ρ', All2 (VR ρ') vs xs ∧ Sim G ρ' H' s' ∧ Stp [env.locals] ρ ρ' s s' ∧ ∀ m, s.heap.Ns env.locals m → s'.heap.Ns env.locals m) (fun _ _ => False) s) ∧
  ∀ (env : Env) (pos : Pos), (backTo pos (starEach exs env)).any (·.1) = false

section
variable {G : Gd} {F : FnT} {d : Nat} {nm : List Str} {kd : Kd}

theorem SndE.use {e : X} {ex : Expr} (h : SndE G F d nm kd e ex) {A : Around} {env : Env} {ρ : RMap} {l : Loc} {H : Hp} {s : Shared} {v : V} {H' : Hp} {Q : Value → Shared → Prop} {E : Value → Shared → Prop}
    (hA : Ar A d) (lc : Lc G nm kd env ρ l s) (S : Sim G ρ H s) (hev : ev G.T F e l H = some (v, H'))
    (k : ∀ x s' ρ', VR ρ' v x → Sim G ρ' H' s' → Stp [env.locals] ρ ρ' s s' → (∀ m, s.heap.Ns env.locals m → s'.heap.Ns env.locals m) → Lc G nm kd env ρ' l s' → Q x s') :
    wpAny (model G.prog G.w) A (eval ex env) Q E s :=
  wpAny_mono (h.run hA lc S hev) (fun x s' D => let ⟨ρ', hv, S', st, n⟩ := D; k x s' ρ' hv S' st n (lc.step st n)) fun _ _ f => f.elim

theorem SndT.use {e : X} {ex : Expr} (h : SndT G F d nm kd e ex) {A : Around} {env : Env} {ρ : RMap} {l : Loc} {H : Hp} {s : Shared} {v : V} {H' : Hp} {b : Bool} {Q : Bool → Shared → Prop} {E : Value → Shared → Prop}
    (hA : Ar A d) (lc : Lc G nm kd env ρ l s) (S : Sim G ρ H s) (hev : ev G.T F e l H = some (v, H')) (ht : truthy v = some b)
    (k : ∀ s' ρ', Sim G ρ' H' s' → Stp [env.locals] ρ ρ' s s' → (∀ m, s.heap.Ns env.locals m → s'.heap.Ns env.locals m) → Lc G nm kd env ρ' l s' → Q b s') :
    wpAny (model G.prog G.w) A (isTrue ex env (eval ex env)) Q E s :=
  wpAny_mono (h.run hA lc S hev ht) (fun x s' D => by obtain ⟨rfl, ρ', S', st, n⟩ := D; exact k s' ρ' S' st n (lc.step st n)) fun _ _ f => f.elim

theorem SndXs.use {es : Xs} {exs : List Expr} (h : SndXs G F d nm kd es exs) {A : Around} {env : Env} {ρ : RMap} {l : Loc} {H : Hp} {s : Shared} {vs : List V} {H' : Hp} {pos : Pos} {Q : List Value → Shared → Prop} {E : Value → Shared → Prop}
    (hA : Ar A d) (lc : Lc G nm kd env ρ l s) (S : Sim G ρ H s) (hev : evs G.T F es l H = some (vs, H'))
    (k : ∀ xs s' ρ', All2 (VR ρ') vs xs → Sim G ρ' H' s' → Stp [env.locals] ρ ρ' s s' → (∀ m, s.heap.Ns env.locals m → s'.heap.Ns env.locals m) → Lc G nm kd env ρ' l s' → Q xs s') :
    wpAny (model G.prog G.w) A (spliced (backTo pos (starEach exs env))) Q E s :=
  wpAny_mono (h.1 hA lc S hev) (fun xs s' D => let ⟨ρ', hv, S', st, n⟩ := D; k xs s' ρ' hv S' st n (lc.step st n)) fun _ _ f => f.elim

noncomputable def plainTest : Expr → Bool
  | .UnaryOp .Not _ _ => false
  | .BoolOp .. => false
  | .IfExp .. => false
  | .Compare .. => false
  | _ => true
theorem isTrue_of {ex : Expr} (h : plainTest ex = true) (env : Env) (w : Sem Value) : isTrue ex env w = (do let v ← w; standAt ex.pos; holding [v] (PySem.truthy v)) := by
  cases ex with
  | UnaryOp o x p => cases o <;> first | rfl | exact (Bool.false_ne_true h).elim
  | _ => first | rfl | exact (Bool.false_ne_true h).elim

theorem SndX.plain {e : X} {ex : Expr} (h : SndE G F d nm kd e ex) (hp : plainTest ex = true) : SndX G F d nm kd e ex := by
  refine ⟨h, ⟨fun {A env ρ l H s v H' b} hA lc S hev ht => ?_⟩⟩
  refine isTrue_plain (h.use hA lc S hev fun x s' ρ' hv S' st n lc' => ?_) (isTrue_of hp env _)
  exact truthy_sound hv ht ⟨rfl, ρ', S', st, n⟩

theorem not_star {e : X} {ex : Expr} (h : cX G e nm kd ex = true) (rest : List Expr) (env : Env) : starEach (ex :: rest) env = (false, eval ex env) :: starEach rest env := by
  have h := cX_ok h
  cases ex <;> first | rfl | exact (Bool.false_ne_true h).elim

/-! ### names -/

theorem vr_int {ρ : RMap} {i : Int} {t : Tok} : VR ρ (.int i) (.int i t) := ⟨t, rfl⟩
theorem vr_bool {ρ : RMap} {b : Bool} : VR ρ (.bool b) (.bool b) := rfl
theorem vr_none {ρ : RMap} : VR ρ .none .none := rfl

theorem snd_lit (O : G.Ok) {v : V} {ex : Expr} (h : cX G (.lit v) nm kd ex = true) : SndX G F d nm kd (.lit v) ex := by
  rcases Bool.or_eq_true_iff.mp (show (vConst ex _ || vName ex _) = true from h) with h | h
  · obtain ⟨c, k, pos, rfl, h⟩ := vConst_of h
    refine .plain ⟨fun {A env ρ l H s v' H'} hA lc S hev => ?_⟩ rfl
    simp only [evlit, evloc, evbin, evneg, evinv, evnot, evand, evor, evcmp, evcmp2, evmem, evite, evcall, evnew, evmeth, evlen, evlistOf, evsorted, evrng1, evrng2, evrng3, evappend, evcount, evattr, evidx, evslTo, evslFrom, evslBt, evrev, evlist, evtup, evcomp, evcompIf, Option.some.injEq, Prod.mk.injEq] at hev
    obtain ⟨rfl, rfl⟩ := hev
    show wpAny _ _ (constValue env c) _ _ _
    cases c with
    | none =>
      cases v with
      | none => exact wpAny_pure (Done.same S lc.offL vr_none)
      | _ => exact (Bool.false_ne_true h).elim
    | bool b =>
      cases v with
      | bool b' => obtain rfl := eq_of_beq h; exact wpAny_pure (Done.same S lc.offL vr_bool)
      | _ => exact (Bool.false_ne_true h).elim
    | int b =>
      cases v with
      | int b' => obtain rfl := eq_of_beq h; exact wpAny_mkInt (Done.same S lc.offL vr_int)
      | _ => exact (Bool.false_ne_true h).elim
    | _ => exact (Bool.false_ne_true h).elim
  · obtain ⟨x, pos, rfl, h⟩ := vName_of h
    obtain ⟨h, h3⟩ := and_iff.mp h
    obtain ⟨h1, h2⟩ := and_iff.mp h
    refine .plain ⟨fun {A env ρ l H s v' H'} hA lc S hev => ?_⟩ rfl
    simp only [evlit, evloc, evbin, evneg, evinv, evnot, evand, evor, evcmp, evcmp2, evmem, evite, evcall, evnew, evmeth, evlen, evlistOf, evsorted, evrng1, evrng2, evrng3, evappend, evcount, evattr, evidx, evslTo, evslFrom, evslBt, evrev, evlist, evtup, evcomp, evcompIf, Option.some.injEq, Prod.mk.injEq] at hev
    obtain ⟨rfl, rfl⟩ := hev
    obtain ⟨val, hm, hr⟩ := O.globOk x v (eq_of_beq h2)
    refine Calls.Name_function_global lc.kind (by rw [lc.kinds]; exact eq_of_beq h1) (Calls.loadGlobal_global (mg := G.mg) (by rw [lc.gl]; exact O.g.keeps S.keep) hm ?_) (isDebug1 (not_true h3))
    exact Done.same S lc.offL (hr.mono S.pre)

set_option tactic.hygienic true in
theorem snd_loc {i : Nat} {ex : Expr} (h : cX G (.loc i) nm kd ex = true) : SndX G F d nm kd (.loc i) ex := by
  obtain ⟨x, pos, rfl, h⟩ := vName_of (show vName ex _ = true from h)
  have h : ((nm[i]? = some x) ∧ locKind (kd x) = true) ∧ isDebug x = false := by
    obtain ⟨h, h3⟩ := and_iff.mp h
    obtain ⟨h1, h2⟩ := and_iff.mp h
    exact ⟨⟨eq_of_beq h1, h2⟩, not_true h3⟩
  refine .plain ⟨fun {A env ρ l H s v' H'} hA lc S hev => ?_⟩ rfl
  simp only [evlit, evloc, evbin, evneg, evinv, evnot, evand, evor, evcmp, evcmp2, evmem, evite, evcall, evnew, evmeth, evlen, evlistOf, evsorted, evrng1, evrng2, evrng3, evappend, evcount, evattr, evidx, evslTo, evslFrom, evslBt, evrev, evlist, evtup, evcomp, evcompIf] at hev
  split at hev
  · rename_i v e
    simp only [Option.some.injEq, Prod.mk.injEq] at hev
    obtain ⟨rfl, rfl⟩ := hev
    refine wpAny_Name ?_ (isDebug1 h.2)
    cases hk : kd x with
    | none => rw [hk] at h; exact (Bool.false_ne_true h.1.2).elim
    | some k =>
      cases k with
      | «local» =>
        obtain ⟨m, hn, hv⟩ := lc.ns
        obtain ⟨val, e1, r⟩ := hv i x v h.1.1 e hk
        exact wpAny_loadName_local lc.kind (by rw [lc.kinds]; exact hk) hn e1 (Done.same S lc.offL r)
      | cell =>
        obtain ⟨c, hc, _⟩ := lc.cells x (.inl hk)
        obtain ⟨val, e1, r⟩ := lc.cval i x v c h.1.1 e (.inl hk) hc
        exact wpAny_loadName_cell lc.kind (by rw [lc.kinds]; exact hk) hc e1 (Done.same S lc.offL r)
      | free =>
        obtain ⟨c, hc, _⟩ := lc.cells x (.inr hk)
        obtain ⟨val, e1, r⟩ := lc.cval i x v c h.1.1 e (.inr hk) hc
        exact wpAny_loadName_free lc.kind (by rw [lc.kinds]; exact hk) hc e1 (Done.same S lc.offL r) (isDebug2 h.2)
      | _ => rw [hk] at h; exact (Bool.false_ne_true h.1.2).elim
  · cases hev

/-! ### operators -/

set_option tactic.hygienic true in
theorem snd_bin {op : Bop} {a b : X} {l r : Expr} {o : Operator} {pos : Pos} (ho : o = opOf op) (ha : SndX G F d nm kd a l) (hb : SndX G F d nm kd b r) :
    SndX G F d nm kd (.bin op a b) (.BinOp l o r pos) := by
  subst ho
  refine .plain ⟨fun {A env ρ l H s v' H'} hA lc S hev => ?_⟩ rfl
  simp only [evlit, evloc, evbin, evneg, evinv, evnot, evand, evor, evcmp, evcmp2, evmem, evite, evcall, evnew, evmeth, evlen, evlistOf, evsorted, evrng1, evrng2, evrng3, evappend, evcount, evattr, evidx, evslTo, evslFrom, evslBt, evrev, evlist, evtup, evcomp, evcompIf] at hev
  split at hev
  · rename_i u H1 e1
    split at hev
    · rename_i w H2 e2
      refine wpAny_BinOp (ha.1.use hA lc S e1 fun x s1 ρ1 r1 S1 st1 n1 lc1 => hb.1.use hA lc1 S1 e2 fun y s2 ρ2 r2 S2 st2 n2 lc2 => ?_)
      exact wpAny_mono (opV_sound hA (lc2.fr S2) S2 lc2.offL (r1.mono st2.pre) r2 hev) (fun z s3 D => (D.after st2 n2).after st1 n1) fun _ _ f => f.elim
    · cases hev
  · cases hev

set_option tactic.hygienic true in
theorem snd_neg {a : X} {l : Expr} {pos : Pos} (ha : SndX G F d nm kd a l) : SndX G F d nm kd (.neg a) (.UnaryOp .USub l pos) := by
  refine .plain ⟨fun {A env ρ l H s v' H'} hA lc S hev => ?_⟩ rfl
  simp only [evlit, evloc, evbin, evneg, evinv, evnot, evand, evor, evcmp, evcmp2, evmem, evite, evcall, evnew, evmeth, evlen, evlistOf, evsorted, evrng1, evrng2, evrng3, evappend, evcount, evattr, evidx, evslTo, evslFrom, evslBt, evrev, evlist, evtup, evcomp, evcompIf] at hev
  split at hev
  · rename_i i H1 e1
    cases hev
    refine wpAny_UnaryOp (ha.1.use hA lc S e1 fun x s1 ρ1 r1 S1 st1 n1 lc1 => ?_)
    obtain ⟨t, rfl⟩ := r1
    exact PyProof.Rows.neg_int ((Done.same S1 lc1.offL vr_int).after st1 n1)
  · cases hev
set_option tactic.hygienic true in
theorem snd_inv {a : X} {l : Expr} {pos : Pos} (ha : SndX G F d nm kd a l) : SndX G F d nm kd (.inv a) (.UnaryOp .Invert l pos) := by
  refine .plain ⟨fun {A env ρ l H s v' H'} hA lc S hev => ?_⟩ rfl
  simp only [evlit, evloc, evbin, evneg, evinv, evnot, evand, evor, evcmp, evcmp2, evmem, evite, evcall, evnew, evmeth, evlen, evlistOf, evsorted, evrng1, evrng2, evrng3, evappend, evcount, evattr, evidx, evslTo, evslFrom, evslBt, evrev, evlist, evtup, evcomp, evcompIf] at hev
  split at hev
  · rename_i i H1 e1
    cases hev
    refine wpAny_UnaryOp (ha.1.use hA lc S e1 fun x s1 ρ1 r1 S1 st1 n1 lc1 => ?_)
    obtain ⟨t, rfl⟩ := r1
    exact PyProof.Rows.invert_int ((Done.same S1 lc1.offL vr_int).after st1 n1)
  · cases hev
set_option tactic.hygienic true in
theorem snd_not {a : X} {l : Expr} {pos : Pos} (ha : SndX G F d nm kd a l) : SndX G F d nm kd (.not a) (.UnaryOp .Not l pos) := by
  have key : ∀ {T : Loc} {H H' : Hp} {v : V}, ev G.T F (.not a) T H = some (v, H') → ∃ u b, ev G.T F a T H = some (u, H') ∧ truthy u = some b ∧ v = .bool !b := by
    intro T H H' v hev
    simp only [evlit, evloc, evbin, evneg, evinv, evnot, evand, evor, evcmp, evcmp2, evmem, evite, evcall, evnew, evmeth, evlen, evlistOf, evsorted, evrng1, evrng2, evrng3, evappend, evcount, evattr, evidx, evslTo, evslFrom, evslBt, evrev, evlist, evtup, evcomp, evcompIf] at hev
    split at hev
    · rename_i u H1 e1
      simp only [Option.map_eq_some_iff] at hev
      obtain ⟨b, hb, e⟩ := hev
      cases e
      exact ⟨u, b, e1, hb, rfl⟩
    · cases hev
  refine ⟨⟨fun {A env ρ l H s v' H'} hA lc S hev => ?_⟩, ⟨fun {A env ρ l H s v' H' b} hA lc S hev ht => ?_⟩⟩
  · obtain ⟨u, b, e1, hb, rfl⟩ := key hev
    refine wpAny_UnaryOp (ha.1.use hA lc S e1 fun x s1 ρ1 r1 S1 st1 n1 lc1 => ?_)
    exact not_of (truthy_sound r1 hb ((Done.same S1 lc1.offL vr_bool).after st1 n1))
  · obtain ⟨u, b', e1, hb, rfl⟩ := key hev
    simp only [Mz.truthy, Option.some.injEq] at ht
    subst ht
    exact isTrue_not (ha.2.use hA lc S e1 hb fun s1 ρ1 S1 st1 n1 lc1 => ⟨rfl, ρ1, S1, st1, n1⟩)

set_option tactic.hygienic true in
theorem snd_and {a b : X} {x y : Expr} {r : List Expr} {pos : Pos} (ha : SndX G F d nm kd a x) (hb : SndE G F d nm kd b (if r.isEmpty then y else .BoolOp .And (y :: r) pos))
    (hbt : SndT G F d nm kd b (if r.isEmpty then y else .BoolOp .And (y :: r) pos)) :
    SndX G F d nm kd (.and a b) (.BoolOp .And (x :: y :: r) pos) := by
  have tail : ∀ (env : Env) {A : Around} {Q : Value → Shared → Prop} {E : Value → Shared → Prop} {s : Shared}, wpAny (model G.prog G.w) A (eval (if r.isEmpty then y else .BoolOp .And (y :: r) pos) env) Q E s → wpAny (model G.prog G.w) A (eval (.BoolOp .And (y :: r) pos) env) Q E s := by
    intro env A Q E s h
    cases r with
    | nil => exact BoolOp_one h
    | cons _ _ => exact h
  have tailT : ∀ (env : Env) {A : Around} {Q : Bool → Shared → Prop} {E : Value → Shared → Prop} {s : Shared}, wpAny (model G.prog G.w) A (isTrue (if r.isEmpty then y else .BoolOp .And (y :: r) pos) env (eval (if r.isEmpty then y else .BoolOp .And (y :: r) pos) env)) Q E s →
      wpAny (model G.prog G.w) A (allTrue .And (y :: r) env) Q E s := by
    intro env A Q E s h
    cases r with
    | nil =>
      show wpAny _ _ (do match BoolOp.And, ← isTrue y env (eval y env) with | BoolOp.And, false => pure false | BoolOp.Or, true => pure true | _, _ => allTrue .And [] env) _ _ _
      refine wpAny_bind (wpAny_mono h (fun c s' hq => ?_) fun _ _ x => x)
      cases c
      · exact wpAny_pure hq
      · exact wpAny_pure hq
    | cons _ _ => exact h
  refine ⟨⟨fun {A env ρ l H s v' H'} hA lc S hev => ?_⟩, ⟨fun {A env ρ l H s v' H' b'} hA lc S hev ht => ?_⟩⟩
  · simp only [evlit, evloc, evbin, evneg, evinv, evnot, evand, evor, evcmp, evcmp2, evmem, evite, evcall, evnew, evmeth, evlen, evlistOf, evsorted, evrng1, evrng2, evrng3, evappend, evcount, evattr, evidx, evslTo, evslFrom, evslBt, evrev, evlist, evtup, evcomp, evcompIf] at hev
    split at hev
    · rename_i u H1 e1
      refine BoolOp_and (ha.1.use hA lc S e1 fun x s1 ρ1 r1 S1 st1 n1 lc1 => ?_)
      split at hev
      · rename_i ht
        refine truthy_sound r1 ht ?_
        simp only [if_true]
        exact tail env (wpAny_mono (hb.run hA lc1 S1 hev) (fun z s3 D => D.after st1 n1) fun _ _ f => f.elim)
      · rename_i ht
        cases hev
        refine truthy_sound r1 ht ?_
        simp only [Bool.false_eq_true, if_false]
        exact ⟨ρ1, r1, S1, st1, n1⟩
      · cases hev
    · cases hev
  · simp only [evlit, evloc, evbin, evneg, evinv, evnot, evand, evor, evcmp, evcmp2, evmem, evite, evcall, evnew, evmeth, evlen, evlistOf, evsorted, evrng1, evrng2, evrng3, evappend, evcount, evattr, evidx, evslTo, evslFrom, evslBt, evrev, evlist, evtup, evcomp, evcompIf] at hev
    split at hev
    · rename_i u H1 e1
      show wpAny _ _ (do match BoolOp.And, ← isTrue x env (eval x env) with | BoolOp.And, false => pure false | BoolOp.Or, true => pure true | _, _ => allTrue .And (y :: r) env) _ _ _
      split at hev
      · rename_i ht1
        refine wpAny_bind (ha.2.use hA lc S e1 ht1 fun s1 ρ1 S1 st1 n1 lc1 => ?_)
        exact tailT env (wpAny_mono (hbt.run hA lc1 S1 hev ht) (fun z s3 D => ⟨D.1, D.2.after st1 n1⟩) fun _ _ f => f.elim)
      · rename_i ht1
        cases hev
        rw [ht1] at ht; cases ht
        refine wpAny_bind (ha.2.use hA lc S e1 ht1 fun s1 ρ1 S1 st1 n1 lc1 => ?_)
        exact wpAny_pure ⟨rfl, ρ1, S1, st1, n1⟩
      · cases hev
    · cases hev

set_option tactic.hygienic true in
theorem snd_or {a b : X} {x y : Expr} {r : List Expr} {pos : Pos} (ha : SndX G F d nm kd a x) (hb : SndE G F d nm kd b (if r.isEmpty then y else .BoolOp .Or (y :: r) pos))
    (hbt : SndT G F d nm kd b (if r.isEmpty then y else .BoolOp .Or (y :: r) pos)) :
    SndX G F d nm kd (.or a b) (.BoolOp .Or (x :: y :: r) pos) := by
  have tail : ∀ (env : Env) {A : Around} {Q : Value → Shared → Prop} {E : Value → Shared → Prop} {s : Shared}, wpAny (model G.prog G.w) A (eval (if r.isEmpty then y else .BoolOp .Or (y :: r) pos) env) Q E s → wpAny (model G.prog G.w) A (eval (.BoolOp .Or (y :: r) pos) env) Q E s := by
    intro env A Q E s h
    cases r with
    | nil => exact BoolOp_one h
    | cons _ _ => exact h
  have tailT : ∀ (env : Env) {A : Around} {Q : Bool → Shared → Prop} {E : Value → Shared → Prop} {s : Shared}, wpAny (model G.prog G.w) A (isTrue (if r.isEmpty then y else .BoolOp .Or (y :: r) pos) env (eval (if r.isEmpty then y else .BoolOp .Or (y :: r) pos) env)) Q E s →
      wpAny (model G.prog G.w) A (allTrue .Or (y :: r) env) Q E s := by
    intro env A Q E s h
    cases r with
    | nil =>
      show wpAny _ _ (do match BoolOp.Or, ← isTrue y env (eval y env) with | BoolOp.And, false => pure false | BoolOp.Or, true => pure true | _, _ => allTrue .Or [] env) _ _ _
      refine wpAny_bind (wpAny_mono h (fun c s' hq => ?_) fun _ _ x => x)
      cases c
      · exact wpAny_pure hq
      · exact wpAny_pure hq
    | cons _ _ => exact h
  refine ⟨⟨fun {A env ρ l H s v' H'} hA lc S hev => ?_⟩, ⟨fun {A env ρ l H s v' H' b'} hA lc S hev ht => ?_⟩⟩
  · simp only [evlit, evloc, evbin, evneg, evinv, evnot, evand, evor, evcmp, evcmp2, evmem, evite, evcall, evnew, evmeth, evlen, evlistOf, evsorted, evrng1, evrng2, evrng3, evappend, evcount, evattr, evidx, evslTo, evslFrom, evslBt, evrev, evlist, evtup, evcomp, evcompIf] at hev
    split at hev
    · rename_i u H1 e1
      refine BoolOp_or (ha.1.use hA lc S e1 fun x s1 ρ1 r1 S1 st1 n1 lc1 => ?_)
      split at hev
      · rename_i ht
        cases hev
        refine truthy_sound r1 ht ?_
        simp only [if_true]
        exact ⟨ρ1, r1, S1, st1, n1⟩
      · rename_i ht
        refine truthy_sound r1 ht ?_
        simp only [Bool.false_eq_true, if_false]
        exact tail env (wpAny_mono (hb.run hA lc1 S1 hev) (fun z s3 D => D.after st1 n1) fun _ _ f => f.elim)
      · cases hev
    · cases hev
  · simp only [evlit, evloc, evbin, evneg, evinv, evnot, evand, evor, evcmp, evcmp2, evmem, evite, evcall, evnew, evmeth, evlen, evlistOf, evsorted, evrng1, evrng2, evrng3, evappend, evcount, evattr, evidx, evslTo, evslFrom, evslBt, evrev, evlist, evtup, evcomp, evcompIf] at hev
    split at hev
    · rename_i u H1 e1
      show wpAny _ _ (do match BoolOp.Or, ← isTrue x env (eval x env) with | BoolOp.And, false => pure false | BoolOp.Or, true => pure true | _, _ => allTrue .Or (y :: r) env) _ _ _
      split at hev
      · rename_i ht1
        cases hev
        rw [ht1] at ht; cases ht
        refine wpAny_bind (ha.2.use hA lc S e1 ht1 fun s1 ρ1 S1 st1 n1 lc1 => ?_)
        exact wpAny_pure ⟨rfl, ρ1, S1, st1, n1⟩
      · rename_i ht1
        refine wpAny_bind (ha.2.use hA lc S e1 ht1 fun s1 ρ1 S1 st1 n1 lc1 => ?_)
        exact tailT env (wpAny_mono (hbt.run hA lc1 S1 hev ht) (fun z s3 D => ⟨D.1, D.2.after st1 n1⟩) fun _ _ f => f.elim)
      · cases hev
    · cases hev

set_option tactic.hygienic true in
theorem snd_ite {c a b : X} {t x y : Expr} {pos : Pos} (hc : SndX G F d nm kd c t) (ha : SndX G F d nm kd a x) (hb : SndX G F d nm kd b y) : SndX G F d nm kd (.ite c a b) (.IfExp t x y pos) := by
  refine ⟨⟨fun {A env ρ l H s v' H'} hA lc S hev => ?_⟩, ⟨fun {A env ρ l H s v' H' b'} hA lc S hev ht => ?_⟩⟩
  · simp only [evlit, evloc, evbin, evneg, evinv, evnot, evand, evor, evcmp, evcmp2, evmem, evite, evcall, evnew, evmeth, evlen, evlistOf, evsorted, evrng1, evrng2, evrng3, evappend, evcount, evattr, evidx, evslTo, evslFrom, evslBt, evrev, evlist, evtup, evcomp, evcompIf] at hev
    split at hev
    · rename_i u H1 e1
      split at hev
      · rename_i ht
        refine wpAny_IfExp (hc.2.use hA lc S e1 ht fun s1 ρ1 S1 st1 n1 lc1 => ?_)
        simp only [if_true]
        exact wpAny_mono (ha.1.run hA lc1 S1 hev) (fun z s3 D => D.after st1 n1) fun _ _ f => f.elim
      · rename_i ht
        refine wpAny_IfExp (hc.2.use hA lc S e1 ht fun s1 ρ1 S1 st1 n1 lc1 => ?_)
        simp only [Bool.false_eq_true, if_false]
        exact wpAny_mono (hb.1.run hA lc1 S1 hev) (fun z s3 D => D.after st1 n1) fun _ _ f => f.elim
      · cases hev
    · cases hev
  · simp only [evlit, evloc, evbin, evneg, evinv, evnot, evand, evor, evcmp, evcmp2, evmem, evite, evcall, evnew, evmeth, evlen, evlistOf, evsorted, evrng1, evrng2, evrng3, evappend, evcount, evattr, evidx, evslTo, evslFrom, evslBt, evrev, evlist, evtup, evcomp, evcompIf] at hev
    split at hev
    · rename_i u H1 e1
      split at hev
      · rename_i ht1
        refine isTrue_IfExp (hc.2.use hA lc S e1 ht1 fun s1 ρ1 S1 st1 n1 lc1 => ?_)
        simp only [if_true]
        exact wpAny_mono (ha.2.run hA lc1 S1 hev ht) (fun z s3 D => ⟨D.1, D.2.after st1 n1⟩) fun _ _ f => f.elim
      · rename_i ht1
        refine isTrue_IfExp (hc.2.use hA lc S e1 ht1 fun s1 ρ1 S1 st1 n1 lc1 => ?_)
        simp only [Bool.false_eq_true, if_false]
        exact wpAny_mono (hb.2.run hA lc1 S1 hev ht) (fun z s3 D => ⟨D.1, D.2.after st1 n1⟩) fun _ _ f => f.elim
      · cases hev
    · cases hev

theorem noMark (o : Cop) (e : Expr) : behindInMarks (copOf o) e = false := by
  cases e <;> cases o <;> simp [behindInMarks, copOf]

set_option tactic.hygienic true in
theorem snd_cmp {op : Cop} {a b : X} {l r : Expr} {o : CmpOp} {pos : Pos} (ho : o = copOf op) (ha : SndX G F d nm kd a l) (hb : SndX G F d nm kd b r) :
    SndX G F d nm kd (.cmp op a b) (.Compare l [o] [r] pos) := by
  subst ho
  have key : ∀ {T : Loc} {H H' : Hp} {v : V}, ev G.T F (.cmp op a b) T H = some (v, H') → ∃ u H1 w c, ev G.T F a T H = some (u, H1) ∧ ev G.T F b T H1 = some (w, H') ∧ cmpV op u w H' = some c ∧ v = .bool c := by
    intro T H H' v hev
    simp only [evlit, evloc, evbin, evneg, evinv, evnot, evand, evor, evcmp, evcmp2, evmem, evite, evcall, evnew, evmeth, evlen, evlistOf, evsorted, evrng1, evrng2, evrng3, evappend, evcount, evattr, evidx, evslTo, evslFrom, evslBt, evrev, evlist, evtup, evcomp, evcompIf] at hev
    split at hev
    · rename_i u H1 e1
      split at hev
      · rename_i w H2 e2
        simp only [Option.map_eq_some_iff] at hev
        obtain ⟨c, hc, e⟩ := hev
        cases e
        exact ⟨u, H1, w, c, e1, e2, hc, rfl⟩
      · cases hev
    · cases hev
  refine ⟨⟨fun {A env ρ l H s v' H'} hA lc S hev => ?_⟩, ⟨fun {A env ρ l H s v' H' b'} hA lc S hev ht => ?_⟩⟩
  · obtain ⟨u, H1, w, c, e1, e2, hc, rfl⟩ := key hev
    refine wpAny_Compare1 (ha.1.use hA lc S e1 fun x s1 ρ1 r1 S1 st1 n1 lc1 => hb.1.use hA lc1 S1 e2 fun y s2 ρ2 r2 S2 st2 n2 lc2 => ?_) (noMark op r)
    exact cmpV_sound hA S2 (r1.mono st2.pre) r2 hc (((Done.same S2 lc2.offL vr_bool).after st2 n2).after st1 n1)
  · obtain ⟨u, H1, w, c, e1, e2, hc, rfl⟩ := key hev
    cases ht
    refine wpAny_isTrue_Compare1 (ha.1.use hA lc S e1 fun x s1 ρ1 r1 S1 st1 n1 lc1 => hb.1.use hA lc1 S1 e2 fun y s2 ρ2 r2 S2 st2 n2 lc2 => ?_) (noMark op r)
    exact cmpV_sound hA S2 (r1.mono st2.pre) r2 hc (wpAny_truthy_bool ⟨rfl, ρ2, S2, st1.trans st2, fun m h => n2 m (n1 m h)⟩)
end
end Mz
end

section
open PySem PySem.W PyProof.Rows
set_option Elab.async false
set_option autoImplicit false

set_option tactic.hygienic false
namespace Mz
section
variable {G : Gd} {F : FnT} {d : Nat} {nm : List Str} {kd : Kd}

theorem op_here {M : Model} {A : Around} {E : Value → Shared → Prop} {s : Shared} {vs : List Value} {m : Sem Value} {Q : Value → Shared → Prop} (h : wpAny M A m Q E s) : wpAny M A (operate vs m) Q E s := by
  unfold operate
  exact wpAny_bind (wpAny_holding (wpAny_mono h (fun r s' hq => wpAny_bind (wpAny_release (wpAny_pure hq))) fun _ _ e => e))

theorem lastMark2 (o1 o2 : Cop) (a b : Expr) : lastMarks [copOf o1, copOf o2] [a, b] = false := by
  show behindInMarks (copOf o2) b = false
  exact noMark o2 b

set_option tactic.hygienic true in
theorem snd_cmp2 {o1 o2 : Cop} {a b c : X} {l m r : Expr} {p1 p2 : CmpOp} {pos : Pos} (h1 : p1 = copOf o1) (h2 : p2 = copOf o2) (ha : SndX G F d nm kd a l) (hb : SndX G F d nm kd b m) (hc : SndX G F d nm kd c r) :
    SndX G F d nm kd (.cmp2 o1 o2 a b c) (.Compare l [p1, p2] [m, r] pos) := by
  subst h1
  subst h2
  have key : ∀ {T : Loc} {H H' : Hp} {v : V}, ev G.T F (.cmp2 o1 o2 a b c) T H = some (v, H') → ∃ u H1 w H2, ev G.T F a T H = some (u, H1) ∧ ev G.T F b T H1 = some (w, H2) ∧
      ((cmpV o1 u w H2 = some false ∧ v = .bool false ∧ H' = H2) ∨ (∃ z q, cmpV o1 u w H2 = some true ∧ ev G.T F c T H2 = some (z, H') ∧ cmpV o2 w z H' = some q ∧ v = .bool q)) := by
    intro T H H' v hev
    simp only [evlit, evloc, evbin, evneg, evinv, evnot, evand, evor, evcmp, evcmp2, evmem, evite, evcall, evnew, evmeth, evlen, evlistOf, evsorted, evrng1, evrng2, evrng3, evappend, evcount, evattr, evidx, evslTo, evslFrom, evslBt, evrev, evlist, evtup, evcomp, evcompIf] at hev
    split at hev
    · rename_i u H1 e1
      split at hev
      · rename_i w H2 e2
        refine ⟨u, H1, w, H2, e1, e2, ?_⟩
        split at hev
        · rename_i ht
          split at hev
          · rename_i z H3 e3
            simp only [Option.map_eq_some_iff] at hev
            obtain ⟨q, hq, e⟩ := hev
            cases e
            exact .inr ⟨z, q, ht, e3, hq, rfl⟩
          · cases hev
        · rename_i ht
          cases hev
          exact .inl ⟨ht, rfl, rfl⟩
        · cases hev
      · cases hev
    · cases hev
  have main : ∀ {A : Around} {env : Env} {ρ : RMap} {T : Loc} {H H' : Hp} {s : Shared} {v : V}, Ar A d → Lc G nm kd env ρ T s → Sim G ρ H s → ev G.T F (.cmp2 o1 o2 a b c) T H = some (v, H') →
      ∀ q, v = .bool q → ∀ whole, wpAny (model G.prog G.w) A (PySem.isTrue (.Compare l [copOf o1, copOf o2] [m, r] pos) env whole) (fun c' s' => c' = q ∧ DoneU G env.locals ρ s H' s') (fun _ _ => False) s := by
    intro A env ρ T H H' s v hA lc S hev q hq whole
    obtain ⟨u, H1, w, H2, e1, e2, hrest⟩ := key hev
    refine isTrue_chain (ha.1.use hA lc S e1 fun x s1 ρ1 r1 S1 st1 n1 lc1 => ?_) (lastMark2 o1 o2 m r)
    show wpAny _ _ (do
      let rv ← holding [x] (eval m env)
      standAt pos
      let c ← holding [x, rv] (compareOp (copOf o1) x rv)
      release [x, rv] [c]
      if ← holding [c, rv] (PySem.truthy c) then testChain pos rv [copOf o2] [eval r env] else pure false) _ _ _
    refine wpAny_bind (wpAny_holding (hb.1.use hA lc1 S1 e2 fun y s2 ρ2 r2 S2 st2 n2 lc2 => wpAny_bind (wpAny_standAt (wpAny_bind (wpAny_holding ?_)))))
    rcases hrest with ⟨hc1, rfl, rfl⟩ | ⟨z, q', hc1, e3, hq2, rfl⟩
    · refine cmpV_sound hA S2 (r1.mono st2.pre) r2 hc1 (wpAny_bind (wpAny_release (wpAny_bind (wpAny_holding (wpAny_truthy_bool ?_)))))
      cases hq
      exact wpAny_pure ⟨rfl, ρ2, S2, st1.trans st2, fun m h => n2 m (n1 m h)⟩
    · refine cmpV_sound hA S2 (r1.mono st2.pre) r2 hc1 (wpAny_bind (wpAny_release (wpAny_bind (wpAny_holding (wpAny_truthy_bool ?_)))))
      cases hq
      show wpAny _ _ (do
        let rv ← holding [y] (eval r env)
        standAt pos
        let c ← operate [y, rv] (compareOp (copOf o2) y rv)
        holding [c] (PySem.truthy c)) _ _ _
      refine wpAny_bind (wpAny_holding (hc.1.use hA lc2 S2 e3 fun z' s3 ρ3 r3 S3 st3 n3 lc3 => wpAny_bind (wpAny_standAt (wpAny_bind (op_here ?_)))))
      refine cmpV_sound hA S3 (r2.mono st3.pre) r3 hq2 (wpAny_holding (wpAny_truthy_bool ?_))
      exact ⟨rfl, ρ3, S3, (st1.trans st2).trans st3, fun m h => n3 m (n2 m (n1 m h))⟩
  refine ⟨⟨fun {A env ρ l H s v' H'} hA lc S hev => ?_⟩, ⟨fun {A env ρ l H s v' H' b'} hA lc S hev ht => ?_⟩⟩
  · obtain ⟨u, H1, w, H2, e1, e2, hrest⟩ := key hev
    have em : markedEach [copOf o1, copOf o2] [m, r] (evalEach [m, r] env) = [eval m env, eval r env] := by
      show [eval m env, markedBehindIn (copOf o2) r (eval r env)] = _
      rw [markedBehindIn_of_false (noMark o2 r)]
    show wpAny _ _ (do compareChain pos (← eval _ env) [copOf o1, copOf o2] (markedEach [copOf o1, copOf o2] [m, r] (evalEach [m, r] env))) _ _ _
    rw [em]
    refine wpAny_bind (ha.1.use hA lc S e1 fun x s1 ρ1 r1 S1 st1 n1 lc1 => ?_)
    show wpAny _ _ (do
      let rv ← holding [x] (eval m env)
      standAt pos
      let c ← holding [x, rv] (compareOp (copOf o1) x rv)
      release [x, rv] [c]
      if ← holding [c, rv] (PySem.truthy c) then compareChain pos rv [copOf o2] [eval r env] else pure c) _ _ _
    refine wpAny_bind (wpAny_holding (hb.1.use hA lc1 S1 e2 fun y s2 ρ2 r2 S2 st2 n2 lc2 => wpAny_bind (wpAny_standAt (wpAny_bind (wpAny_holding ?_)))))
    rcases hrest with ⟨hc1, rfl, rfl⟩ | ⟨z, q', hc1, e3, hq2, rfl⟩
    · refine cmpV_sound hA S2 (r1.mono st2.pre) r2 hc1 (wpAny_bind (wpAny_release (wpAny_bind (wpAny_holding (wpAny_truthy_bool ?_)))))
      exact wpAny_pure ⟨ρ2, vr_bool, S2, st1.trans st2, fun m h => n2 m (n1 m h)⟩
    · refine cmpV_sound hA S2 (r1.mono st2.pre) r2 hc1 (wpAny_bind (wpAny_release (wpAny_bind (wpAny_holding (wpAny_truthy_bool ?_)))))
      show wpAny _ _ (do
        let rv ← holding [y] (eval r env)
        standAt pos
        operate [y, rv] (compareOp (copOf o2) y rv)) _ _ _
      refine wpAny_bind (wpAny_holding (hc.1.use hA lc2 S2 e3 fun z' s3 ρ3 r3 S3 st3 n3 lc3 => wpAny_bind (wpAny_standAt (op_here ?_))))
      refine cmpV_sound hA S3 (r2.mono st3.pre) r3 hq2 ?_
      exact ⟨ρ3, vr_bool, S3, (st1.trans st2).trans st3, fun m h => n3 m (n2 m (n1 m h))⟩
  · obtain ⟨u, H1, w, H2, e1, e2, hrest⟩ := key hev
    have : v' = .bool b' := by
      rcases hrest with ⟨_, rfl, _⟩ | ⟨_, _, _, _, _, rfl⟩ <;> (cases ht; rfl)
    exact main hA lc S hev b' this _


set_option tactic.hygienic true in
theorem intLits_spliced {pos : Pos} : ∀ {es : List Expr} {ks : List Int} {env : Env} {A : Around} {s : Shared} {Q : List Value → Shared → Prop} {E : Value → Shared → Prop}, intLits? es = some ks →
    (∀ xs tk, IntsAre xs ks → Q xs { s with toks := tk }) → wpAny (model G.prog G.w) A (spliced (backTo pos (starEach es env))) Q E s
  | [], ks, env, A, s, Q, E, h, k => by
    cases h
    exact wpAny_pure (k [] s.toks .nil)
  | e :: r, ks, env, A, s, Q, E, h, k => by
    simp only [intLits?] at h
    split at h
    · rename_i i is e1 e2
      cases h
      cases e with
      | Constant c kk p =>
        cases c with
        | int j =>
          have e1 := Option.some.inj (show some j = some i from e1)
          subst e1
          show wpAny _ _ (spliced ((false, eval (.Constant (.int j) kk p) env) :: backTo pos (starEach r env))) _ _ _
          refine Calls.spliced_cons (wpAny_mkInt ?_)
          exact intLits_spliced (s := { s with toks := s.toks + 1 }) e2 fun xs tk hx => k _ tk (.cons _ _ hx)
        | _ => cases (show none = some i from e1)
      | _ => cases (show none = some i from e1)
    · cases h

set_option tactic.hygienic true in
theorem snd_mem {p : Bool} {a : X} {ks : List Int} {l : Expr} {o : CmpOp} {elts : List Expr} {n : Nat} {p1 pos : Pos} (ho : o = if p then CmpOp.In else CmpOp.NotIn) (ha : SndX G F d nm kd a l) (hk : intLits? elts = some ks) (hz : ks.length ≤ 100) :
    SndX G F d nm kd (.mem p a ks) (.Compare l [o] [.Tuple elts n p1] pos) := by
  subst ho
  have key : ∀ {T : Loc} {H H' : Hp} {v : V}, ev G.T F (.mem p a ks) T H = some (v, H') → ∃ i, ev G.T F a T H = some (.int i, H') ∧ v = .bool (if p then ks.contains i else !ks.contains i) := by
    intro T H H' v hev
    simp only [evlit, evloc, evbin, evneg, evinv, evnot, evand, evor, evcmp, evcmp2, evmem, evite, evcall, evnew, evmeth, evlen, evlistOf, evsorted, evrng1, evrng2, evrng3, evappend, evcount, evattr, evidx, evslTo, evslFrom, evslBt, evrev, evlist, evtup, evcomp, evcompIf] at hev
    split at hev
    · rename_i i H1 e1
      cases hev
      exact ⟨i, e1, rfl⟩
    · cases hev
  have hm : behindInMarks (if p then CmpOp.In else CmpOp.NotIn) (.Tuple elts n p1) = false := by cases p <;> rfl
  have main : ∀ {A : Around} {env : Env} {ρ : RMap} {T : Loc} {H H' : Hp} {s : Shared} {v : V}, Ar A d → Lc G nm kd env ρ T s → Sim G ρ H s → ev G.T F (.mem p a ks) T H = some (v, H') →
      ∀ {Q : Value → Shared → Prop} {E : Value → Shared → Prop}, (∀ q s', v = .bool q → DoneU G env.locals ρ s H' s' → Q (.bool q) s') →
      wpAny (model G.prog G.w) A (eval l env) (fun x s₁ => wpAny (model G.prog G.w) A (eval (.Tuple elts n p1) env) (fun y s₂ => wpAny (model G.prog G.w) A (compareOp (if p then CmpOp.In else CmpOp.NotIn) x y) Q E s₂) E s₁) E s := by
    intro A env ρ T H H' s v hA lc S hev Q E hQ
    obtain ⟨i, e1, rfl⟩ := key hev
    refine ha.1.use hA lc S e1 fun x s1 ρ1 r1 S1 st1 n1 lc1 => Tuple_ (intLits_spliced hk fun xs tk hx => ?_)
    obtain ⟨t, rfl⟩ := r1
    have hlen := hx.length
    refine wpAny_newObj_type ?_ (by show xs.toArray.size ≤ sizeLine; rw [List.size_toArray, sizeLine_eq]; omega)
    have hobj := Heap.get?_push_size (o := ({ cls := .type "tuple", data := .seq xs.toArray } : Obj)) s1.heap rfl
    refine mem_sound p hA hx (n := 0) hobj (hQ _ _ rfl ?_)
    obtain ⟨S', st⟩ := grow (h' := s1.heap.push { cls := .type "tuple", data := .seq xs.toArray }) (tk := tk) S1 (fun b q e => Heap.get?_push_of_some _ e)
    exact ⟨ρ1, S', st1.trans (st.own_mono (by simp)), fun m h => st.nsOf lc1.offL m (n1 m h)⟩
  refine ⟨⟨fun {A env ρ l H s v' H'} hA lc S hev => ?_⟩, ⟨fun {A env ρ l H s v' H' b'} hA lc S hev ht => ?_⟩⟩
  · refine wpAny_Compare1 (main hA lc S hev fun q s' hq D => ?_) hm
    subst hq
    obtain ⟨ρ', S', st', n'⟩ := D
    exact ⟨ρ', vr_bool, S', st', n'⟩
  · refine wpAny_isTrue_Compare1 (main hA lc S hev fun q s' hq D => ?_) hm
    subst hq
    cases ht
    exact wpAny_truthy_bool ⟨rfl, D⟩

/-! ### places, slices, displays -/

theorem notSlice {e : X} {ex : Expr} (h : cX G e nm kd ex = true) (o i : Value) : subscripted ex false o i = operate [o, i] (getItem o i) := by
  have h := cX_ok h
  cases ex <;> first | rfl | exact (Bool.false_ne_true h).elim

theorem tail_ref {ρ : RMap} {H : Hp} {s : Shared} {A : Around} {o : V} {x i : Value} {ops : List Value} {value slice : Expr} {Q : Value → Shared → Prop} {E : Value → Shared → Prop} (S : Sim G ρ H s) (hx : VR ρ o x)
    (hk : ∃ k, o = .ref k ∧ ((∃ vs, H[k]? = some (.list vs)) ∨ (∃ vs, H[k]? = some (.tup vs)) ∨ ∃ vs, H[k]? = some (.ro vs))) (hg : wpAny (model G.prog G.w) A (getItem x i) Q E s)
    (hs : subscripted slice false x i = operate ops (getItem x i)) : wpAny (model G.prog G.w) A (subscriptTail value slice x i) Q E s := by
  obtain ⟨k, rfl, ⟨vs, e⟩ | ⟨vs, e⟩ | ⟨vs, e⟩⟩ := hk
  · obtain ⟨a, xs, n, p, r, b, g⟩ := S.list e
    obtain rfl := Sim.ref hx p
    exact tail_any (isL_of g).typeIs slot_list_getitem.lookup hg hs
  · obtain ⟨a, xs, n, p, r, g⟩ := S.tup e
    obtain rfl := Sim.ref hx p
    exact tail_any (T := "tuple") ⟨_, g, rfl⟩ PySem.F.slot_tuple_getitem.lookup hg hs
  · obtain ⟨a, xs, p, r, g⟩ := S.ro e
    obtain rfl := Sim.ref hx p
    exact tail_any g.typeIs slot_list_getitem.lookup hg hs

set_option tactic.hygienic true in
theorem snd_idx {o i : X} {oe ie : Expr} {pos : Pos} (ho : SndX G F d nm kd o oe) (hi : SndX G F d nm kd i ie) (hc : cX G i nm kd ie = true) : SndX G F d nm kd (.idx o i) (.Subscript oe ie pos) := by
  refine .plain ⟨fun {A env ρ l H s v' H'} hA lc S hev => ?_⟩ rfl
  simp only [evlit, evloc, evbin, evneg, evinv, evnot, evand, evor, evcmp, evcmp2, evmem, evite, evcall, evnew, evmeth, evlen, evlistOf, evsorted, evrng1, evrng2, evrng3, evappend, evcount, evattr, evidx, evslTo, evslFrom, evslBt, evrev, evlist, evtup, evcomp, evcompIf] at hev
  split at hev
  · rename_i u H1 e1
    split at hev
    · rename_i w H2 e2
      simp only [Option.map_eq_some_iff] at hev
      obtain ⟨c, hc', e⟩ := hev
      cases e
      refine Subscript_ (ho.1.use hA lc S e1 fun x s1 ρ1 r1 S1 st1 n1 lc1 => hi.1.use hA lc1 S1 e2 fun y s2 ρ2 r2 S2 st2 n2 lc2 => ?_)
      have hr1 := r1.mono st2.pre
      refine tail_ref S2 hr1 ?_ (getIdx_sound S2 hr1 r2 hc' fun z hz => ((Done.same S2 lc2.offL hz).after st2 n2).after st1 n1) (notSlice hc _ _)
      unfold getIdx at hc'
      split at hc'
      · rename_i k i
        split at hc'
        · split at hc'
          · rename_i vs e; exact ⟨k, rfl, .inl ⟨vs, e⟩⟩
          · rename_i vs e; exact ⟨k, rfl, .inr (.inl ⟨vs, e⟩)⟩
          · cases hc'
        · cases hc'
      · cases hc'
    · cases hev
  · cases hev
end
end Mz
end

section
open PySem PySem.W PyProof.Rows
set_option Elab.async false
set_option autoImplicit false

set_option tactic.hygienic false

namespace Mz
section
variable {G : Gd} {F : FnT} {d : Nat} {nm : List Str} {kd : Kd}

theorem snds_nil : SndXs G F d nm kd .nil [] := by
  refine ⟨fun {A env ρ l H s vs H' pos} hA lc S hev => ?_, fun env pos => rfl⟩
  simp only [evs, Option.some.injEq, Prod.mk.injEq] at hev
  obtain ⟨rfl, rfl⟩ := hev
  exact wpAny_pure ⟨ρ, .nil, S, .refl _ _ _, fun _ h => h⟩

set_option tactic.hygienic true in
theorem snds_cons {e : X} {es : Xs} {ex : Expr} {exs : List Expr} (hc : cX G e nm kd ex = true) (he : SndX G F d nm kd e ex) (hes : SndXs G F d nm kd es exs) : SndXs G F d nm kd (.cons e es) (ex :: exs) := by
  refine ⟨fun {A env ρ l H s vs H' pos} hA lc S hev => ?_, fun env pos => ?_⟩
  · simp only [evs] at hev
    split at hev
    · rename_i v H1 e1
      split at hev
      · rename_i vs' H2 e2
        cases hev
        rw [not_star hc]
        refine Calls.spliced_cons (he.1.use hA lc S e1 fun x s1 ρ1 r1 S1 st1 n1 lc1 => hes.use hA lc1 S1 e2 fun xs s2 ρ2 r2 S2 st2 n2 lc2 => ?_)
        exact ⟨ρ2, .cons (r1.mono st2.pre) r2, S2, st1.trans st2, fun m h => n2 m (n1 m h)⟩
      · cases hev
    · cases hev
  · rw [not_star hc]
    show (false || (backTo pos (starEach exs env)).any (·.1)) = false
    rw [hes.2 env pos]; rfl

theorem evalArgs_of {M : Model} {A : Around} {E : Value → Shared → Prop} {s : Shared} {f : Value} {trees : List (Bool × Sem Value)} {Q : Args → Shared → Prop} (hn : trees.any (·.1) = false)
    (h : wpAny M A (spliced trees) (fun vs s' => Q ⟨vs, []⟩ s') E s) : wpAny M A (evalArgs f true trees []) Q E s := by
  cases trees with
  | nil => exact fun Γ p hΓ => evalArgs_empty (M := M) (A := A) (E := E) (h Γ p hΓ) Γ p hΓ
  | cons p r =>
    obtain ⟨b, t⟩ := p
    have hb : b = false := by
      simp only [List.any_cons, Bool.or_eq_false_iff] at hn
      exact hn.1
    subst hb
    exact Calls.evalArgs_plain h

theorem Name_builtin (O : G.Ok) {x : Str} {val : Value} (hb : G.mg x = none ∧ G.mb x = some val) (hd : (x == ("__debug__" : Str)) = false) {A : Around} {env : Env} {ρ : RMap} {l : Loc} {H : Hp} {s : Shared} {pos : Pos} {Q : Value → Shared → Prop} {E : Value → Shared → Prop}
    (hk : kd x = some .globalImplicit) (lc : Lc G nm kd env ρ l s) (S : Sim G ρ H s) (h : Q val s) : wpAny (model G.prog G.w) A (eval (.Name x pos) env) Q E s :=
  Calls.Name_function_global lc.kind (by rw [lc.kinds]; exact hk) (Calls.loadGlobal_builtin (mg := G.mg) (mb := G.mb) (by rw [lc.gl]; exact O.g.keeps S.keep) hb.1 (by rw [lc.bl]; exact O.b.keeps S.keep) hb.2 h) hd

theorem call_builtin (O : G.Ok) {x : Str} {T : String} (isT : Bool) (hb : G.mg x = none ∧ G.mb x = some (if isT then .type T else .builtin T)) (hd : (x == ("__debug__" : Str)) = false) {es : Xs} {args : List Expr} {A : Around} {env : Env} {ρ : RMap} {l : Loc} {H H' : Hp} {s : Shared} {np pos : Pos} {vs : List V} {Q : Value → Shared → Prop} {E : Value → Shared → Prop}
    (hk : kd x = some .globalImplicit) (hes : SndXs G F d nm kd es args) (hA : Ar A d) (lc : Lc G nm kd env ρ l s) (S : Sim G ρ H s) (hev : evs G.T F es l H = some (vs, H'))
    (k : ∀ xs s' ρ', All2 (VR ρ') vs xs → Sim G ρ' H' s' → Stp [env.locals] ρ ρ' s s' → (∀ m, s.heap.Ns env.locals m → s'.heap.Ns env.locals m) → Lc G nm kd env ρ' l s' →
      wpAny (model G.prog G.w) A (PySem.call (if isT then .type T else .builtin T) xs) Q E s') :
    wpAny (model G.prog G.w) A (eval (.Call (.Name x np) args [] pos) env) Q E s := by
  refine PyProof.Rows.Call_Name rfl (Name_builtin O hb hd hk lc S ?_)
  cases isT with
  | true =>
    exact PyProof.Rows.callWith_type (hes.2 env pos) (evalArgs_of (hes.2 env pos) (hes.use hA lc S hev fun xs s' ρ' r S' st n lc' => by simpa using k xs s' ρ' r S' st n lc'))
  | false =>
    exact Calls.callWith_builtin (hes.2 env pos) (evalArgs_of (hes.2 env pos) (hes.use hA lc S hev fun xs s' ρ' r S' st n lc' => by simpa using k xs s' ρ' r S' st n lc'))

theorem evs_one {T : Tab} {a : X} {l : Loc} {H H1 : Hp} {v : V} (h : ev T F a l H = some (v, H1)) : evs T F (.cons a .nil) l H = some ([v], H1) := by
  simp only [evs, h]
theorem evs_two {T : Tab} {a b : X} {l : Loc} {H H1 H2 : Hp} {v w : V} (h : ev T F a l H = some (v, H1)) (h' : ev T F b l H1 = some (w, H2)) : evs T F (.cons a (.cons b .nil)) l H = some ([v, w], H2) := by
  simp only [evs, h, h']
theorem evs_three {T : Tab} {a b c : X} {l : Loc} {H H1 H2 H3 : Hp} {v w z : V} (h : ev T F a l H = some (v, H1)) (h' : ev T F b l H1 = some (w, H2)) (h'' : ev T F c l H2 = some (z, H3)) : evs T F (.cons a (.cons b (.cons c .nil))) l H = some ([v, w, z], H3) := by
  simp only [evs, h, h', h'']

set_option tactic.hygienic true in
theorem snd_len (O : G.Ok) {a : X} {r : Expr} {np pos : Pos} (hk : kd "len" = some .globalImplicit) (hc : cX G a nm kd r = true) (ha : SndX G F d nm kd a r) : SndX G F d nm kd (.len a) (.Call (.Name "len" np) [r] [] pos) := by
  refine .plain ⟨fun {A env ρ l H s v' H'} hA lc S hev => ?_⟩ rfl
  simp only [evlit, evloc, evbin, evneg, evinv, evnot, evand, evor, evcmp, evcmp2, evmem, evite, evcall, evnew, evmeth, evlen, evlistOf, evsorted, evrng1, evrng2, evrng3, evappend, evcount, evattr, evidx, evslTo, evslFrom, evslBt, evrev, evlist, evtup, evcomp, evcompIf] at hev
  split at hev
  · rename_i u H1 e1
    simp only [Option.map_eq_some_iff] at hev
    obtain ⟨c, hc', e⟩ := hev
    cases e
    refine call_builtin O (T := "len") false O.blen rfl hk (snds_cons hc ha snds_nil) hA lc S (evs_one e1) fun xs s1 ρ1 r1 S1 st1 n1 lc1 => ?_
    cases r1 with
    | cons r t => cases t; exact wpAny_mono (len_sound S1 lc1.offL r hc') (fun z s3 D => D.after st1 n1) fun _ _ f => f.elim
  · cases hev

set_option tactic.hygienic true in
theorem snd_listOf (O : G.Ok) {a : X} {r : Expr} {np pos : Pos} (hk : kd "list" = some .globalImplicit) (hc : cX G a nm kd r = true) (ha : SndX G F d nm kd a r) : SndX G F d nm kd (.listOf a) (.Call (.Name "list" np) [r] [] pos) := by
  refine .plain ⟨fun {A env ρ l H s v' H'} hA lc S hev => ?_⟩ rfl
  simp only [evlit, evloc, evbin, evneg, evinv, evnot, evand, evor, evcmp, evcmp2, evmem, evite, evcall, evnew, evmeth, evlen, evlistOf, evsorted, evrng1, evrng2, evrng3, evappend, evcount, evattr, evidx, evslTo, evslFrom, evslBt, evrev, evlist, evtup, evcomp, evcompIf] at hev
  split at hev
  · rename_i u H1 e1
    refine call_builtin O (T := "list") true O.blist rfl hk (snds_cons hc ha snds_nil) hA lc S (evs_one e1) fun xs s1 ρ1 r1 S1 st1 n1 lc1 => ?_
    cases r1 with
    | cons r t => cases t; exact wpAny_mono (mkList_sound hA (lc1.fr S1) S1 lc1.offL r hev) (fun z s3 D => D.after st1 n1) fun _ _ f => f.elim
  · cases hev

set_option tactic.hygienic true in
theorem snd_sorted (O : G.Ok) {a : X} {r : Expr} {np pos : Pos} (hk : kd "sorted" = some .globalImplicit) (hc : cX G a nm kd r = true) (ha : SndX G F d nm kd a r) : SndX G F d nm kd (.sorted a) (.Call (.Name "sorted" np) [r] [] pos) := by
  refine .plain ⟨fun {A env ρ l H s v' H'} hA lc S hev => ?_⟩ rfl
  simp only [evlit, evloc, evbin, evneg, evinv, evnot, evand, evor, evcmp, evcmp2, evmem, evite, evcall, evnew, evmeth, evlen, evlistOf, evsorted, evrng1, evrng2, evrng3, evappend, evcount, evattr, evidx, evslTo, evslFrom, evslBt, evrev, evlist, evtup, evcomp, evcompIf] at hev
  split at hev
  · rename_i u H1 e1
    refine call_builtin O (T := "sorted") false O.bsorted rfl hk (snds_cons hc ha snds_nil) hA lc S (evs_one e1) fun xs s1 ρ1 r1 S1 st1 n1 lc1 => ?_
    cases r1 with
    | cons r t => cases t; exact wpAny_mono (sorted_sound (lc1.fr S1) S1 lc1.offL r hev) (fun z s3 D => D.after st1 n1) fun _ _ f => f.elim
  · cases hev

set_option tactic.hygienic true in
theorem rng_cond {h : Hp} {a b c : Int} {r : V × Hp} (e : mkRng h a b c = some r) : c ≠ 0 ∧ a.natAbs ≤ 100000 ∧ b.natAbs ≤ 100000 ∧ c.natAbs ≤ 100000 ∧ r = (.ref h.length, h ++ [.rng a c (rngLen a b c)]) := by
  unfold mkRng at e
  split at e
  · rename_i hc; cases e; exact ⟨hc.1, hc.2.1, hc.2.2.1, hc.2.2.2, rfl⟩
  · cases e

set_option tactic.hygienic true in
theorem snd_rng1 (O : G.Ok) {a : X} {r : Expr} {np pos : Pos} (hk : kd "range" = some .globalImplicit) (hc : cX G a nm kd r = true) (ha : SndX G F d nm kd a r) : SndX G F d nm kd (.rng1 a) (.Call (.Name "range" np) [r] [] pos) := by
  refine .plain ⟨fun {A env ρ l H s v' H'} hA lc S hev => ?_⟩ rfl
  simp only [evlit, evloc, evbin, evneg, evinv, evnot, evand, evor, evcmp, evcmp2, evmem, evite, evcall, evnew, evmeth, evlen, evlistOf, evsorted, evrng1, evrng2, evrng3, evappend, evcount, evattr, evidx, evslTo, evslFrom, evslBt, evrev, evlist, evtup, evcomp, evcompIf] at hev
  split at hev
  · rename_i n H1 e1
    obtain ⟨h1, h2, h3, h4, e⟩ := rng_cond hev
    cases e
    refine call_builtin O (T := "range") true O.brange rfl hk (snds_cons hc ha snds_nil) hA lc S (evs_one e1) fun xs s1 ρ1 r1 S1 st1 n1 lc1 => ?_
    cases r1 with
    | cons r t =>
      cases t
      obtain ⟨t, rfl⟩ := r
      exact PySem.call_range_1 ((Done.pushRng S1 lc1.offL h1 h2 h3 h4).after st1 n1)
  · cases hev

set_option tactic.hygienic true in
theorem snd_rng2 (O : G.Ok) {a b : X} {q r : Expr} {np pos : Pos} (hk : kd "range" = some .globalImplicit) (hc : cX G a nm kd q = true) (ha : SndX G F d nm kd a q) (hc2 : cX G b nm kd r = true) (hb : SndX G F d nm kd b r) : SndX G F d nm kd (.rng2 a b) (.Call (.Name "range" np) [q, r] [] pos) := by
  refine .plain ⟨fun {A env ρ l H s v' H'} hA lc S hev => ?_⟩ rfl
  simp only [evlit, evloc, evbin, evneg, evinv, evnot, evand, evor, evcmp, evcmp2, evmem, evite, evcall, evnew, evmeth, evlen, evlistOf, evsorted, evrng1, evrng2, evrng3, evappend, evcount, evattr, evidx, evslTo, evslFrom, evslBt, evrev, evlist, evtup, evcomp, evcompIf] at hev
  split at hev
  · rename_i n H1 e1
    split at hev
    · rename_i m H2 e2
      obtain ⟨h1, h2, h3, h4, e⟩ := rng_cond hev
      cases e
      refine call_builtin O (T := "range") true O.brange rfl hk (snds_cons hc ha (snds_cons hc2 hb snds_nil)) hA lc S (evs_two e1 e2) fun xs s1 ρ1 r1 S1 st1 n1 lc1 => ?_
      cases r1 with
      | cons r t =>
        cases t with
        | cons r' t =>
          cases t
          obtain ⟨t, rfl⟩ := r
          obtain ⟨t', rfl⟩ := r'
          exact PySem.call_range_2 ((Done.pushRng S1 lc1.offL h1 h2 h3 h4).after st1 n1)
    · cases hev
  · cases hev

set_option tactic.hygienic true in
theorem snd_rng3 (O : G.Ok) {a b c : X} {q r w : Expr} {np pos : Pos} (hk : kd "range" = some .globalImplicit) (hc : cX G a nm kd q = true) (ha : SndX G F d nm kd a q) (hc2 : cX G b nm kd r = true) (hb : SndX G F d nm kd b r)
    (hc3 : cX G c nm kd w = true) (hcc : SndX G F d nm kd c w) : SndX G F d nm kd (.rng3 a b c) (.Call (.Name "range" np) [q, r, w] [] pos) := by
  refine .plain ⟨fun {A env ρ l H s v' H'} hA lc S hev => ?_⟩ rfl
  simp only [evlit, evloc, evbin, evneg, evinv, evnot, evand, evor, evcmp, evcmp2, evmem, evite, evcall, evnew, evmeth, evlen, evlistOf, evsorted, evrng1, evrng2, evrng3, evappend, evcount, evattr, evidx, evslTo, evslFrom, evslBt, evrev, evlist, evtup, evcomp, evcompIf] at hev
  split at hev
  · rename_i n H1 e1
    split at hev
    · rename_i m H2 e2
      split at hev
      · rename_i k H3 e3
        obtain ⟨h1, h2, h3, h4, e⟩ := rng_cond hev
        cases e
        refine call_builtin O (T := "range") true O.brange rfl hk (snds_cons hc ha (snds_cons hc2 hb (snds_cons hc3 hcc snds_nil))) hA lc S (evs_three e1 e2 e3) fun xs s1 ρ1 r1 S1 st1 n1 lc1 => ?_
        cases r1 with
        | cons r t =>
          cases t with
          | cons r' t =>
            cases t with
            | cons r'' t =>
              cases t
              obtain ⟨t, rfl⟩ := r
              obtain ⟨t', rfl⟩ := r'
              obtain ⟨t'', rfl⟩ := r''
              refine PySem.call_range_3 h1 ((Done.pushRng S1 lc1.offL h1 h2 h3 h4).after st1 n1) (Or.inl (PyProof.noPylong_small (by first | assumption | exact Nat.le_of_lt ‹_› | exact Nat.lt_succ_of_lt ‹_› | exact Nat.ne_of_lt ‹_› | exact Nat.ne_of_gt ‹_› | exact Nat.le_trans ‹_› (by decide) | exact Nat.lt_of_lt_of_le ‹_› (by decide) | decide | omega)))
      · cases hev
    · cases hev
  · cases hev

/-! ### attributes -/
set_option tactic.hygienic true in
theorem snd_attr (O : G.Ok) {o : X} {a : Nat} {oe : Expr} {y : Str} {pos : Pos} (hb : baseOk oe = true) (ha : G.attrs[a]? = some y) (hf : G.isField a = true) (ho : SndX G F d nm kd o oe) : SndX G F d nm kd (.attr o a) (.Attribute oe y pos) := by
  refine .plain ⟨fun {A env ρ l H s v' H'} hA lc S hev => ?_⟩ rfl
  simp only [evlit, evloc, evbin, evneg, evinv, evnot, evand, evor, evcmp, evcmp2, evmem, evite, evcall, evnew, evmeth, evlen, evlistOf, evsorted, evrng1, evrng2, evrng3, evappend, evcount, evattr, evidx, evslTo, evslFrom, evslBt, evrev, evlist, evtup, evcomp, evcompIf] at hev
  split at hev
  · rename_i u H1 e1
    simp only [Option.map_eq_some_iff] at hev
    obtain ⟨c, hc', e⟩ := hev
    cases e
    refine Attribute_any_ (ho.1.use hA lc S e1 fun x s1 ρ1 r1 S1 st1 n1 lc1 => ?_) (by cases oe <;> first | rfl | exact (Bool.false_ne_true hb).elim)
    exact wpAny_mono (getA_sound O.toClsOk (lc1.fr S1) S1 lc1.offL r1 ha hf hc' true) (fun z s3 D => D.after st1 n1) fun _ _ f => f.elim
  · cases hev

/-! ### displays -/
set_option tactic.hygienic true in
theorem snd_list {es : Xs} {elts : List Expr} {pos : Pos} (hes : SndXs G F d nm kd es elts) (hz : elts.length ≤ 100) (hlen : ∀ {l H vs H'}, evs G.T F es l H = some (vs, H') → vs.length ≤ 100) : SndX G F d nm kd (.list es) (.List elts pos) := by
  refine .plain ⟨fun {A env ρ l H s v' H'} hA lc S hev => ?_⟩ rfl
  simp only [evlit, evloc, evbin, evneg, evinv, evnot, evand, evor, evcmp, evcmp2, evmem, evite, evcall, evnew, evmeth, evlen, evlistOf, evsorted, evrng1, evrng2, evrng3, evappend, evcount, evattr, evidx, evslTo, evslFrom, evslBt, evrev, evlist, evtup, evcomp, evcompIf] at hev
  split at hev
  · rename_i vs H1 e1
    cases hev
    refine List_ (hes.use hA lc S e1 fun xs s1 ρ1 r1 S1 st1 n1 lc1 => ?_)
    have h1 := r1.length
    have h2 := hlen e1
    refine wpAny_newObj_type ?_ (by show xs.toArray.size ≤ sizeLine; rw [List.size_toArray, sizeLine_eq]; omega)
    exact (Done.pushList (tk := s1.toks) (n := 0) S1 lc1.offL r1).after st1 n1
  · cases hev
set_option tactic.hygienic true in
theorem snd_tup {es : Xs} {elts : List Expr} {k : Nat} {pos : Pos} (hes : SndXs G F d nm kd es elts) (hlen : ∀ {l H vs H'}, evs G.T F es l H = some (vs, H') → vs.length ≤ 100) : SndX G F d nm kd (.tup es) (.Tuple elts k pos) := by
  refine .plain ⟨fun {A env ρ l H s v' H'} hA lc S hev => ?_⟩ rfl
  simp only [evlit, evloc, evbin, evneg, evinv, evnot, evand, evor, evcmp, evcmp2, evmem, evite, evcall, evnew, evmeth, evlen, evlistOf, evsorted, evrng1, evrng2, evrng3, evappend, evcount, evattr, evidx, evslTo, evslFrom, evslBt, evrev, evlist, evtup, evcomp, evcompIf] at hev
  split at hev
  · rename_i vs H1 e1
    cases hev
    refine Tuple_ (hes.use hA lc S e1 fun xs s1 ρ1 r1 S1 st1 n1 lc1 => ?_)
    have h1 := r1.length
    have h2 := hlen e1
    refine wpAny_newObj_type ?_ (by show xs.toArray.size ≤ sizeLine; rw [List.size_toArray, sizeLine_eq]; omega)
    exact (Done.pushTup (tk := s1.toks) (n := 0) S1 lc1.offL r1).after st1 n1
  · cases hev
noncomputable def xsLen : Xs → Nat
  | .nil => 0
  | .cons _ r => xsLen r + 1
set_option tactic.hygienic true in
theorem evs_len {T : Tab} : ∀ {es : Xs} {l : Loc} {H : Hp} {vs : List V} {H' : Hp}, evs T F es l H = some (vs, H') → vs.length = xsLen es
  | .nil, l, H, vs, H', h => by cases h; rfl
  | .cons e r, l, H, vs, H', h => by
    simp only [evs] at h
    split at h
    · split at h
      · rename_i e2; cases h; simp [xsLen, evs_len e2]
      · cases h
    · cases h
theorem cXs_len : ∀ {es : Xs} {exs : List Expr}, cXs G es nm kd exs = true → xsLen es = exs.length
  | .nil, exs, h => by cases exs with | nil => rfl | cons _ _ => cases h
  | .cons e r, exs, h => by
    cases exs with
    | nil => cases h
    | cons _ t => simp [xsLen, cXs_len (Bool.and_eq_true_iff.mp h).2]

/-! ### slices -/
theorem slice_here {lo hi st : Option Expr} {p : Pos} {A : Around} {env : Env} {s : Shared} {Q : Value → Shared → Prop} {E : Value → Shared → Prop}
    (h : wpAny (model G.prog G.w) A (valueOrNone (evalOpt lo env)) (fun l s₁ => wpAny (model G.prog G.w) A (valueOrNone (evalOpt hi env)) (fun u s₂ => wpAny (model G.prog G.w) A (valueOrNone (evalOpt st env)) (fun t s₃ =>
      Q (.ref s₃.heap.objs.size) { s₃ with heap := s₃.heap.push { cls := .type "slice", data := .fields #[l, u, t] } }) E s₂) E s₁) E s) :
    wpAny (model G.prog G.w) A (eval (.Slice lo hi st p) env) Q E s := by
  show wpAny _ _ (do
    let l ← valueOrNone (evalOpt lo env)
    let u ← holding [l] (valueOrNone (evalOpt hi env))
    let s ← holding [l, u] (valueOrNone (evalOpt st env))
    newFields "slice" [l, u, s]) _ _ _
  exact wpAny_bind (wpAny_mono h (fun l s₁ h₁ => wpAny_bind (wpAny_holding (wpAny_mono h₁ (fun u s₂ h₂ => wpAny_bind (wpAny_holding (wpAny_mono h₂ (fun t s₃ h₃ => wpAny_newObj_type h₃) fun _ _ e => e))) fun _ _ e => e))) fun _ _ e => e)

set_option tactic.hygienic true in
theorem slice_tail {A : Around} {env : Env} {ρ ρ2 : RMap} {l : Loc} {H2 H' : Hp} {s s2 : Shared} {u r : V} {x vl vu : Value} {lo hi : Option Int} {value slice : Expr} (lc2 : Lc G nm kd env ρ2 l s2) (S2 : Sim G ρ2 H2 s2)
    (st1 : Stp [env.locals] ρ ρ2 s s2) (n1 : ∀ m, s.heap.Ns env.locals m → s2.heap.Ns env.locals m) (r1 : VR ρ2 u x) (pl : IsPart vl lo) (pu : IsPart vu hi) (h : cut H2 u lo hi = some (r, H'))
    (hs : ∀ o i, subscripted slice false o i = operate [i, o] (getItem o i)) :
    wpAny (model G.prog G.w) A (subscriptTail value slice x (.ref s2.heap.objs.size)) (Done G env.locals ρ s r H') (fun _ _ => False) { s2 with heap := s2.heap.push { cls := .type "slice", data := .fields #[vl, vu, .none] } } := by
  obtain ⟨S3, st3⟩ := grow (h' := s2.heap.push { cls := .type "slice", data := .fields #[vl, vu, .none] }) (tk := s2.toks) S2 (fun b q e => Heap.get?_push_of_some _ e)
  have lc3 := lc2.step (st3.own_mono (by simp)) (st3.nsOf lc2.offL)
  have hsl := Heap.IsSliceOf.new s2.heap vl vu .none
  have hg := wpAny_mono (cut_sound (A := A) S3 lc3.offL r1 pl pu hsl h) (fun z s3 D => (D.after (st3.own_mono (by simp)) (st3.nsOf lc2.offL)).after st1 n1) (fun _ _ f => f)
  refine tail_ref S3 r1 ?_ hg (hs _ _)
  unfold cut at h
  split at h
  · rename_i vs e
    obtain ⟨i, a, xs, rfl, e', _⟩ := S2.getR r1 e
    exact ⟨i, rfl, e'.elim (fun q => .inl ⟨vs, q⟩) fun q => .inr (.inr ⟨vs, q⟩)⟩
  · cases h

set_option tactic.hygienic true in
theorem snd_slTo {o b : X} {oe be : Expr} {p pos : Pos} (ho : SndX G F d nm kd o oe) (hb : SndX G F d nm kd b be) : SndX G F d nm kd (.slTo o b) (.Subscript oe (.Slice none (some be) none p) pos) := by
  refine .plain ⟨fun {A env ρ l H s v' H'} hA lc S hev => ?_⟩ rfl
  simp only [evlit, evloc, evbin, evneg, evinv, evnot, evand, evor, evcmp, evcmp2, evmem, evite, evcall, evnew, evmeth, evlen, evlistOf, evsorted, evrng1, evrng2, evrng3, evappend, evcount, evattr, evidx, evslTo, evslFrom, evslBt, evrev, evlist, evtup, evcomp, evcompIf] at hev
  split at hev
  · rename_i u H1 e1
    split at hev
    · rename_i j H2 e2
      refine Subscript_ (ho.1.use hA lc S e1 fun x s1 ρ1 r1 S1 st1 n1 lc1 => slice_here (wpAny_pure (hb.1.use hA lc1 S1 e2 fun y s2 ρ2 r2 S2 st2 n2 lc2 => wpAny_pure ?_)))
      obtain ⟨t, rfl⟩ := r2
      exact slice_tail lc2 S2 (st1.trans st2) (fun m h => n2 m (n1 m h)) (r1.mono st2.pre) .none (.int j t) hev (fun _ _ => rfl)
    · cases hev
  · cases hev
set_option tactic.hygienic true in
theorem snd_slFrom {o a : X} {oe ae : Expr} {p pos : Pos} (ho : SndX G F d nm kd o oe) (ha : SndX G F d nm kd a ae) : SndX G F d nm kd (.slFrom o a) (.Subscript oe (.Slice (some ae) none none p) pos) := by
  refine .plain ⟨fun {A env ρ l H s v' H'} hA lc S hev => ?_⟩ rfl
  simp only [evlit, evloc, evbin, evneg, evinv, evnot, evand, evor, evcmp, evcmp2, evmem, evite, evcall, evnew, evmeth, evlen, evlistOf, evsorted, evrng1, evrng2, evrng3, evappend, evcount, evattr, evidx, evslTo, evslFrom, evslBt, evrev, evlist, evtup, evcomp, evcompIf] at hev
  split at hev
  · rename_i u H1 e1
    split at hev
    · rename_i j H2 e2
      refine Subscript_ (ho.1.use hA lc S e1 fun x s1 ρ1 r1 S1 st1 n1 lc1 => slice_here (ha.1.use hA lc1 S1 e2 fun y s2 ρ2 r2 S2 st2 n2 lc2 => wpAny_pure (wpAny_pure ?_)))
      obtain ⟨t, rfl⟩ := r2
      exact slice_tail lc2 S2 (st1.trans st2) (fun m h => n2 m (n1 m h)) (r1.mono st2.pre) (.int j t) .none hev (fun _ _ => rfl)
    · cases hev
  · cases hev
set_option tactic.hygienic true in
theorem snd_slBt {o a b : X} {oe ae be : Expr} {p pos : Pos} (ho : SndX G F d nm kd o oe) (ha : SndX G F d nm kd a ae) (hb : SndX G F d nm kd b be) : SndX G F d nm kd (.slBt o a b) (.Subscript oe (.Slice (some ae) (some be) none p) pos) := by
  refine .plain ⟨fun {A env ρ l H s v' H'} hA lc S hev => ?_⟩ rfl
  simp only [evlit, evloc, evbin, evneg, evinv, evnot, evand, evor, evcmp, evcmp2, evmem, evite, evcall, evnew, evmeth, evlen, evlistOf, evsorted, evrng1, evrng2, evrng3, evappend, evcount, evattr, evidx, evslTo, evslFrom, evslBt, evrev, evlist, evtup, evcomp, evcompIf] at hev
  split at hev
  · rename_i u H1 e1
    split at hev
    · rename_i i H2 e2
      split at hev
      · rename_i j H3 e3
        refine Subscript_ (ho.1.use hA lc S e1 fun x s1 ρ1 r1 S1 st1 n1 lc1 => slice_here (ha.1.use hA lc1 S1 e2 fun y s2 ρ2 r2 S2 st2 n2 lc2 => hb.1.use hA lc2 S2 e3 fun z s3 ρ3 r3 S3 st3 n3 lc3 => wpAny_pure ?_))
        obtain ⟨t, rfl⟩ := r2
        obtain ⟨t', rfl⟩ := r3
        exact slice_tail lc3 S3 ((st1.trans st2).trans st3) (fun m h => n3 m (n2 m (n1 m h))) ((r1.mono st2.pre).mono st3.pre) (.int i t) (.int j t') hev (fun _ _ => rfl)
      · cases hev
    · cases hev
  · cases hev
set_option tactic.hygienic true in
theorem snd_rev {o : X} {oe : Expr} {kk : Nat} {p0 p1 p pos : Pos} (ho : SndX G F d nm kd o oe) : SndX G F d nm kd (.rev o) (.Subscript oe (.Slice none none (some (.UnaryOp .USub (.Constant (.int 1) kk p0) p1)) p) pos) := by
  refine .plain ⟨fun {A env ρ l H s v' H'} hA lc S hev => ?_⟩ rfl
  simp only [evlit, evloc, evbin, evneg, evinv, evnot, evand, evor, evcmp, evcmp2, evmem, evite, evcall, evnew, evmeth, evlen, evlistOf, evsorted, evrng1, evrng2, evrng3, evappend, evcount, evattr, evidx, evslTo, evslFrom, evslBt, evrev, evlist, evtup, evcomp, evcompIf] at hev
  split at hev
  · rename_i u H1 e1
    split at hev
    · rename_i vs eL
      split at hev
      · rename_i hz
        cases hev
        refine Subscript_ (ho.1.use hA lc S e1 fun x s1 ρ1 r1 S1 st1 n1 lc1 => slice_here (wpAny_pure (wpAny_pure (wpAny_UnaryOp (wpAny_mkInt (PyProof.Rows.neg_int ?_))))))
        obtain ⟨S2, st2⟩ := grow (h' := s1.heap) (tk := s1.toks + 1 + 1) S1 (fun b q e => e)
        have lc2 := lc1.step (st2.own_mono (by simp)) (st2.nsOf lc1.offL)
        obtain ⟨S3, st3⟩ := grow (h' := s1.heap.push { cls := .type "slice", data := .fields #[.none, .none, .int (-1) (s1.toks + 1)] }) (tk := s1.toks + 1 + 1) S2 (fun b q e => Heap.get?_push_of_some _ e)
        have lc3 := lc2.step (st3.own_mono (by simp)) (st3.nsOf lc2.offL)
        have hsl := Heap.IsSliceOf.new s1.heap .none .none (.int (-1) (s1.toks + 1))
        have hg := wpAny_mono (rev_sound (A := A) S3 lc3.offL r1 hsl eL hz) (fun z s3 D => ((D.after (st3.own_mono (by simp)) (st3.nsOf lc2.offL)).after (st2.own_mono (by simp)) (st2.nsOf lc1.offL)).after st1 n1) (fun _ _ f => f)
        obtain ⟨i, a, xs, n, rfl, e', rfl, hp, hr, hb, hgg⟩ := S1.getL r1 eL
        have hl3 : ({ s1 with heap := s1.heap.push { cls := .type "slice", data := .fields #[.none, .none, .int (-1) (s1.toks + 1)] }, toks := s1.toks + 1 + 1 } : Shared).heap.IsList a xs.toArray := isL_of (Heap.get?_push_of_some _ hgg)
        -- the step is no «none»: its own road
        show wpAny _ _ (do
          let r ← subscripted (.Slice none none (some (.UnaryOp .USub (.Constant (.int 1) kk p0) p1)) p) (← getitemInPython (.ref a)) (.ref a) (.ref s1.heap.objs.size)
          letTemporaryGo oe (.ref a) r
          pure r) _ _ _
        exact tail_any (value := oe) (slice := .Slice none none (some (.UnaryOp .USub (.Constant (.int 1) kk p0) p1)) p) (ops := [.ref a, .ref s1.heap.objs.size]) hl3.typeIs slot_list_getitem.lookup hg rfl
      · cases hev
    · cases hev
  · cases hev
end
end Mz
end

section
open PySem PySem.W PyProof.Rows
set_option Elab.async false
set_option autoImplicit false

set_option tactic.hygienic false

namespace Mz
section
variable {G : Gd} {F : FnT} {d : Nat} {nm : List Str} {kd : Kd}

theorem method_call {oe : Expr} {y : Str} {ap p : Pos} {args : List Expr} {env : Env} {A : Around} {s : Shared} {Q : Value → Shared → Prop} {E : Value → Shared → Prop} (hb : baseOk oe = true)
    (hstar : (backTo p (starEach args env)).any (·.1) = false) (hlen : args.length < 20) (hline : (ap.endLine == p.line) = true)
    (h : wpAny (model G.prog G.w) A (eval oe env) (fun ov s₁ => wpAny (model G.prog G.w) A (getMethod ov y (do return (← importBound oe env).getD true)) (fun fx s₂ => wpAny (model G.prog G.w) A (callWith p fx.1 fx.2 (backTo p (starEach args env)) []) Q E s₂) E s₁) E s) :
    wpAny (model G.prog G.w) A (eval (.Call (.Attribute oe y ap) args [] p) env) Q E s := by
  rw [arm_eval_Call]
  have hbase : attributeBase oe y env (eval oe env) = eval oe env := by cases oe <;> first | rfl | exact (Bool.false_ne_true hb).elim
  rw [hbase]
  have hall : (backTo p (starEach args env)).all (!·.1) = true := by
    rw [List.all_eq_not_any_not]
    simpa using hstar
  have few : methodCallForm (args.length + ([] : List Keyword).length) (backTo p (starEach args env)) (backToKw p (keywordEach [] env)) = true := by
    unfold methodCallForm
    rw [hall]
    have : args.length < 30 := by first | assumption | exact Nat.le_of_lt ‹_› | exact Nat.lt_succ_of_lt ‹_› | exact Nat.ne_of_lt ‹_› | exact Nat.ne_of_gt ‹_› | exact Nat.le_trans ‹_› (by decide) | exact Nat.lt_of_lt_of_le ‹_› (by decide) | decide | omega
    simp [show backToKw p (keywordEach [] env) = [] from rfl, this]
  refine wpAny_bind (wpAny_mono h (fun ov s₁ h₁ => wpAny_bind (wpAny_standAt ?_)) fun _ _ e => e)
  unfold methodCall
  rw [few]
  refine wpAny_bind (wpAny_holding (wpAny_mono h₁ (fun fx s₂ h₂ => ?_) fun _ _ e => e))
  obtain ⟨f, first⟩ := fx
  show wpAny _ _ (methodCallPos true oe env ap p >>= fun callPos => callWith callPos f first (backTo p (starEach args env)) []) _ _ _
  unfold methodCallPos
  rw [if_pos (by rw [hline]; rfl)]
  exact wpAny_bind (wpAny_pure h₂)

set_option tactic.hygienic true in
theorem snd_append {a b : X} {oe r : Expr} {ap p : Pos} (hb : baseOk oe = true) (hline : (ap.endLine == p.line) = true) (ha : SndX G F d nm kd a oe) (hc : cX G b nm kd r = true) (hbx : SndX G F d nm kd b r) :
    SndX G F d nm kd (.append a b) (.Call (.Attribute oe "append" ap) [r] [] p) := by
  have hes := snds_cons hc hbx (snds_nil (G := G) (F := F) (d := d) (nm := nm) (kd := kd))
  refine .plain ⟨fun {A env ρ l H s v' H'} hA lc S hev => ?_⟩ rfl
  simp only [evlit, evloc, evbin, evneg, evinv, evnot, evand, evor, evcmp, evcmp2, evmem, evite, evcall, evnew, evmeth, evlen, evlistOf, evsorted, evrng1, evrng2, evrng3, evappend, evcount, evattr, evidx, evslTo, evslFrom, evslBt, evrev, evlist, evtup, evcomp, evcompIf] at hev
  split at hev
  · rename_i u H1 e1
    split at hev
    · rename_i vs w H2 eL e2
      refine method_call hb (hes.2 env p) (by simp) hline (ha.1.use hA lc S e1 fun x s1 ρ1 r1 S1 st1 n1 lc1 => ?_)
      obtain ⟨k, a', xs, n, rfl, e', rfl, hp, hr, hbb, hg⟩ := S1.getL r1 eL
      refine Calls.getMethod_list_append hg rfl rfl ?_
      refine Calls.callWith_builtin (hes.2 env p) (evalArgs_of (hes.2 env p) (hes.use hA lc1 S1 (evs_one e2) fun ys s2 ρ2 r2 S2 st2 n2 lc2 => ?_))
      cases r2 with
      | cons r t =>
        cases t
        exact wpAny_mono (append_sound S2 lc2.offL (r1.mono st2.pre) r hev) (fun z s3 D => (D.after st2 n2).after st1 n1) fun _ _ f => f.elim
    · cases hev
  · cases hev

set_option tactic.hygienic true in
theorem snd_count {a b : X} {oe r : Expr} {ap p : Pos} (hb : baseOk oe = true) (hline : (ap.endLine == p.line) = true) (ha : SndX G F d nm kd a oe) (hc : cX G b nm kd r = true) (hbx : SndX G F d nm kd b r) :
    SndX G F d nm kd (.count a b) (.Call (.Attribute oe "count" ap) [r] [] p) := by
  have hes := snds_cons hc hbx (snds_nil (G := G) (F := F) (d := d) (nm := nm) (kd := kd))
  refine .plain ⟨fun {A env ρ l H s v' H'} hA lc S hev => ?_⟩ rfl
  simp only [evlit, evloc, evbin, evneg, evinv, evnot, evand, evor, evcmp, evcmp2, evmem, evite, evcall, evnew, evmeth, evlen, evlistOf, evsorted, evrng1, evrng2, evrng3, evappend, evcount, evattr, evidx, evslTo, evslFrom, evslBt, evrev, evlist, evtup, evcomp, evcompIf] at hev
  split at hev
  · rename_i u H1 e1
    split at hev
    · rename_i vs w H2 eL e2
      simp only [Option.map_eq_some_iff] at hev
      obtain ⟨c, hc', e⟩ := hev
      cases e
      refine method_call hb (hes.2 env p) (by simp) hline (ha.1.use hA lc S e1 fun x s1 ρ1 r1 S1 st1 n1 lc1 => ?_)
      obtain ⟨k, a', xs, n, rfl, e', rfl, hp, hr, hbb, hg⟩ := S1.getL r1 eL
      refine getMethod_list_of PySem.F.slot_list_count PySem.F.type_list_count (isL_of hg) ⟨_, hg, rfl⟩ ?_
      refine Calls.callWith_builtin (hes.2 env p) (evalArgs_of (hes.2 env p) (hes.use hA lc1 S1 (evs_one e2) fun ys s2 ρ2 r2 S2 st2 n2 lc2 => ?_))
      cases r2 with
      | cons r t =>
        cases t
        exact wpAny_mono (count_sound S2 lc2.offL (r1.mono st2.pre) r hc') (fun z s3 D => (D.after st2 n2).after st1 n1) fun _ _ f => f.elim
    · cases hev
  · cases hev

theorem FnS.use (hF : FnS G F d) {f : Nat} {a : Addr} {args : List V} {h h' : Hp} {v : V} {A : Around} {ρ : RMap} {s : Shared} {xs : List Value} {Q : Value → Shared → Prop} {E : Value → Shared → Prop} (ha : G.fnA f = some a) (e : F f args h = some (v, h')) (hA : ArF A d)
    (S : Sim G ρ h s) (hx : All2 (VR ρ) args xs) (k : ∀ x s' ρ', VR ρ' v x → Sim G ρ' h' s' → Stp [] ρ ρ' s s' → Q x s') : wpAny (model G.prog G.w) A (PySem.call (.ref a) xs []) Q E s := by
  refine wpAny_call (codeAny_mono (hF f a args h v h' A ρ s xs ha e hA S hx) fun r s' hr => ?_)
  obtain ⟨x, rfl, ρ', hv, S', st⟩ := hr
  exact k x s' ρ' hv S' st

theorem callWith_top {f : Value} {trees : List (Bool × Sem Value)} {first : List Value} {pos : Pos} {A : Around} {s : Shared} {Q : Value → Shared → Prop} {E : Value → Shared → Prop} (O : G.Ok) (hk : keepIn G.K f = true) (hn : trees.any (·.1) = false)
    (h : wpAny (model G.prog G.w) A (spliced trees) (fun vs s' => G.K.In s'.heap ∧ wpAny (model G.prog G.w) A (PySem.call f (first ++ vs) []) Q E s') E s) : wpAny (model G.prog G.w) A (callWith pos f first trees []) Q E s :=
  callWith_of (P := fun h => G.K.In h) (by rw [hn]; rfl) (keeps_K hk) (evalArgs_of hn h)

set_option tactic.hygienic true in
theorem snd_call (O : G.Ok) (hF : FnS G F d) {f : Nat} {as : Xs} {x : Str} {args : List Expr} {np pos : Pos} (hk : kd x = some .globalImplicit) (hf : G.fn x = some f) (hd : isDebug x = false) (hes : SndXs G F d nm kd as args) :
    SndX G F d nm kd (.call f as) (.Call (.Name x np) args [] pos) := by
  refine .plain ⟨fun {A env ρ l H s v' H'} hA lc S hev => ?_⟩ rfl
  simp only [evlit, evloc, evbin, evneg, evinv, evnot, evand, evor, evcmp, evcmp2, evmem, evite, evcall, evnew, evmeth, evlen, evlistOf, evsorted, evrng1, evrng2, evrng3, evappend, evcount, evattr, evidx, evslTo, evslFrom, evslBt, evrev, evlist, evtup, evcomp, evcompIf] at hev
  split at hev
  · rename_i vs H1 e1
    obtain ⟨a, ha, hm⟩ := O.fnOk x f hf
    refine PyProof.Rows.Call_Name rfl (Calls.Name_function_global lc.kind (by rw [lc.kinds]; exact hk) (Calls.loadGlobal_global (mg := G.mg) (by rw [lc.gl]; exact O.g.keeps S.keep) hm ?_) (isDebug1 hd))
    refine callWith_top O (O.fnKeep f a ha) (hes.2 env pos) (hes.use hA lc S e1 fun xs s1 ρ1 r1 S1 st1 n1 lc1 => ⟨O.kin.keeps S1.keep, ?_⟩)
    refine hF.use ha hev hA.f S1 (by simpa using r1) fun x s2 ρ2 r2 S2 st2 => ?_
    exact (Done.of lc1.offL r2 S2 st2).after st1 n1
  · cases hev

set_option tactic.hygienic true in
theorem snd_meth (O : G.Ok) (hF : FnS G F d) {o : X} {m : Nat} {as : Xs} {oe : Expr} {y : Str} {args : List Expr} {ap p : Pos} (hb : baseOk oe = true) (hline : (ap.endLine == p.line) = true) (hlen : args.length < 20) (hm : G.attrs[m]? = some y)
    (ho : SndX G F d nm kd o oe) (hes : SndXs G F d nm kd as args) : SndX G F d nm kd (.meth o m as) (.Call (.Attribute oe y ap) args [] p) := by
  refine .plain ⟨fun {A env ρ l H s v' H'} hA lc S hev => ?_⟩ rfl
  simp only [evlit, evloc, evbin, evneg, evinv, evnot, evand, evor, evcmp, evcmp2, evmem, evite, evcall, evnew, evmeth, evlen, evlistOf, evsorted, evrng1, evrng2, evrng3, evappend, evcount, evattr, evidx, evslTo, evslFrom, evslBt, evrev, evlist, evtup, evcomp, evcompIf] at hev
  split at hev
  · rename_i k H1 e1
    split at hev
    · rename_i c fs eo
      split at hev
      · rename_i f hlk hmt
        split at hev
        · rename_i vs H2 e2
          refine method_call hb (hes.2 env p) hlen hline (ho.1.use hA lc S e1 fun x s1 ρ1 r1 S1 st1 n1 lc1 => ?_)
          obtain ⟨q, hq, hne, b1, b2, C, es, n, hC, g1, g2, hfs⟩ := S1.rep.at_ k _ eo
          obtain ⟨q', hq', rfl⟩ := id r1
          rw [hq] at hq'; cases hq'
          obtain ⟨fI, hfA, hfind, hfn, hpg⟩ := O.meth c C m f y hC hmt hm
          obtain ⟨mm, F1⟩ := lc1.fr S1
          refine method_inst (K := G.K) (C := C) (ox := instObj C q.2) (es := es) (n := n) F1 O.kin ⟨g1, rfl, rfl, g2⟩ hpg hfind hfn ((lookup_get O.nodup hm hfs).2 hlk) ?_
          refine callWith_top O (O.fnKeep f fI hfA) (hes.2 env p) (hes.use hA lc1 S1 e2 fun xs s2 ρ2 r2 S2 st2 n2 lc2 => ⟨O.kin.keeps S2.keep, ?_⟩)
          refine hF.use hfA hev hA.f S2 (.cons (r1.mono st2.pre) r2) fun x s3 ρ3 r3 S3 st3 => ?_
          exact ((Done.of lc2.offL r3 S3 st3).after st2 n2).after st1 n1
        · cases hev
      · cases hev
    · cases hev
  · cases hev

set_option tactic.hygienic true in
theorem snd_new (O : G.Ok) (hF : FnS G F d) {c : Nat} {as : Xs} {x : Str} {args : List Expr} {np pos : Pos} (hk : kd x = some .globalImplicit) (hf : G.cls x = some c) (hd : isDebug x = false) (hes : SndXs G F d nm kd as args) :
    SndX G F d nm kd (.new c as) (.Call (.Name x np) args [] pos) := by
  refine .plain ⟨fun {A env ρ l H s v' H'} hA lc S hev => ?_⟩ rfl
  simp only [evlit, evloc, evbin, evneg, evinv, evnot, evand, evor, evcmp, evcmp2, evmem, evite, evcall, evnew, evmeth, evlen, evlistOf, evsorted, evrng1, evrng2, evrng3, evappend, evcount, evattr, evidx, evslTo, evslFrom, evslBt, evrev, evlist, evtup, evcomp, evcompIf] at hev
  split at hev
  · rename_i vs H1 e1
    split at hev
    · rename_i f hinit
      split at hev
      · rename_i H2 e2
        cases hev
        obtain ⟨C, hC, hm⟩ := O.clsName x c hf
        obtain ⟨fI, hfA, hfind, hfn, hmk⟩ := O.new c C f hC hinit
        refine PyProof.Rows.Call_Name rfl (Calls.Name_function_global lc.kind (by rw [lc.kinds]; exact hk) (Calls.loadGlobal_global (mg := G.mg) (by rw [lc.gl]; exact O.g.keeps S.keep) hm ?_) (isDebug1 hd))
        refine callWith_top O (O.clsKeep c C hC) (hes.2 env pos) (hes.use hA lc S e1 fun xs s1 ρ1 r1 S1 st1 n1 lc1 => ⟨O.kin.keeps S1.keep, ?_⟩)
        obtain ⟨mm, F1⟩ := lc1.fr S1
        refine wpAny_call (make_K F1 (news_all _ _ _) (O.kin.keeps S1.keep) hmk hfind (beq_iff_eq.mp hfn) fun z dz h' F' N' hlt hdz => ?_)
        have hz := N' _ List.mem_cons_self
        have hdzz := N' _ (List.mem_cons_of_mem _ List.mem_cons_self)
        have fresh : ∀ b : Addr, dz ≤ b → b ≠ env.locals → G.base.get? b = none → s1.heap.get? b = none := by
          intro b hb hbL hb0
          cases e : s1.heap.get? b with
          | none => rfl
          | some o => exact absurd (hlt _ (mem_allNews.mpr ⟨e, hbL, hb0⟩)) (Nat.not_lt.mpr hb)
        have f1 := fresh z (Nat.le_of_lt hdz) hz.2.1 hz.2.2
        have f2 := fresh dz (Nat.le_refl _) hdzz.2.1 hdzz.2.2
        have hk' := keep_all F' N' (fun p hp => List.mem_cons_of_mem _ (List.mem_cons_of_mem _ hp)) S1.keep
        obtain ⟨S2, st2, rr⟩ := grow_newL (h' := h') (tk := s1.toks) (p := (z, dz)) (o := .inst c []) S1 lc1.offL (base_no F1) hk' (fun _ _ => Heap.Ns_frame F'.ns) f1 f2
          ⟨Nat.ne_of_gt hdz, hz.2.2, hdzz.2.2, C, [], 0, hC, hz.1, hdzz.1, .nil⟩
        refine codeAny_mono (hF f fI _ _ _ _ _ (ρ1 ++ [(z, dz)]) _ (.ref z :: xs) hfA e2 hA.new S2 (.cons rr (vrs_mono st2.pre (by simpa using r1)))) fun r s' hr => ?_
        obtain ⟨y, rfl, ρ', hv, S', st'⟩ := hr
        refine ⟨hv, ?_⟩
        refine (Done.after st1 n1 (Done.after st2 (Fr.nsTo F1 F') ?_))
        have hoff : Off (ρ1 ++ [(z, dz)]) env.locals := by
          intro q hq
          rcases List.mem_append.mp hq with h | h
          · exact lc1.offL q h
          · cases List.mem_singleton.mp h
            exact ⟨hz.2.1, hdzz.2.1⟩
        exact Done.of hoff (rr.mono st'.pre) S' st'
      · cases hev
    · cases hev
  · cases hev
end
end Mz
end

section
open PySem PySem.W PyProof.Rows
set_option Elab.async false
set_option autoImplicit false

set_option tactic.hygienic false

namespace Mz
section
variable {G : Gd} {F : FnT} {d : Nat} {nm : List Str} {kd : Kd}

theorem Sim.but {ρ : RMap} {H : Hp} {s : Shared} {h' : Heap} {tk : Nat} {a : Addr} (S : Sim G ρ H s) (ho : Off ρ a) (hb : G.base.get? a = none) (hk : ∀ b q, b ≠ a → s.heap.get? b = some q → h'.get? b = some q) :
    Sim G ρ H { s with heap := h', toks := tk } := by
  refine ⟨⟨S.rep.len, fun k o e => ?_, S.rep.apart⟩, fun b o e => hk _ _ (fun x => by subst x; rw [hb] at e; cases e) (S.keep b o e), S.pre⟩
  obtain ⟨p, hp, x⟩ := S.rep.at_ k o e
  have := ho p (mem_of_get hp)
  exact ⟨p, hp, x.mono (List.prefix_refl _) (fun q => hk _ q this.1) (fun q => hk _ q this.2)⟩
theorem Stp.but {ρ : RMap} {s : Shared} {h' : Heap} {tk : Nat} {a : Addr} (hk : ∀ b q, b ≠ a → s.heap.get? b = some q → h'.get? b = some q) (hl : ∃ o, h'.get? a = some o) :
    Stp [a] ρ ρ s { s with heap := h', toks := tk } :=
  ⟨⟨h', tk, rfl⟩, List.prefix_refl _, by simp, fun b o h1 _ e => hk b o (by simpa using h1) e, fun b o e => by
    by_cases h1 : b = a
    · subst h1; exact hl
    · exact ⟨o, hk b o h1 e⟩⟩
theorem Stp.tail {own : List Addr} {ρ ρ' : RMap} {s s' : Shared} {h' : Heap} {tk : Nat} {a : Addr} (x : Stp own ρ ρ' s s') (ha : s.heap.get? a = none) (hk : ∀ b q, b ≠ a → s'.heap.get? b = some q → h'.get? b = some q) :
    Stp own ρ ρ' s { s' with heap := h', toks := tk } := by
  have ne : ∀ b o, s.heap.get? b = some o → b ≠ a := fun b o e h => by subst h; rw [ha] at e; cases e
  refine ⟨?_, x.pre, x.new, fun b o h1 h2 e => hk b o (ne b o e) (x.keep b o h1 h2 e), fun b o e => ?_⟩
  · obtain ⟨h, tk', rfl⟩ := x.st; exact ⟨h', tk, rfl⟩
  · obtain ⟨o', e'⟩ := x.live b o e
    exact ⟨o', hk b o' (ne b o e) e'⟩

theorem store_sound {env : Env} {ρ : RMap} {l : Loc} {H : Hp} {s : Shared} {i : Nat} {x : Str} {v : V} {val : Value} {A : Around} {Q : Unit → Shared → Prop} {E : Value → Shared → Prop} (lc : Lc G nm kd env ρ l s) (S : Sim G ρ H s)
    (hi : nm[i]? = some x) (hk : kd x = some .local ∨ kd x = some .cell) (hv : VR ρ v val)
    (k : ∀ s' a, (a = env.locals ∨ (kd x = some .cell ∧ env.cells.lookup x = some a)) → Sim G ρ H s' → Lc G nm kd env ρ (l.set i (some v)) s' → Stp [a] ρ ρ s s' → Q () s') :
    wpAny (model G.prog G.w) A (storeName env x val) Q E s := by
  have hlt : i < nm.length := (List.getElem?_eq_some_iff.mp hi).1
  have other : ∀ {j : Nat} {y : Str}, nm[j]? = some y → j ≠ i → y ≠ x := by
    intro j y hj hne e
    subst e
    exact hne ((List.getElem?_inj (List.getElem?_eq_some_iff.mp hj).1 lc.nodup).mp (hj.trans hi.symm))
  have same : ∀ {j : Nat}, nm[j]? = some x → j = i := fun hj => (List.getElem?_inj (List.getElem?_eq_some_iff.mp hj).1 lc.nodup).mp (hj.trans hi.symm)
  have hget : ∀ {j : Nat} {w : V}, (l.set i (some v))[j]? = some (some w) → (j = i ∧ w = v) ∨ (j ≠ i ∧ l[j]? = some (some w)) := by
    intro j w h
    by_cases hj : i = j
    · subst hj
      rw [List.getElem?_set_self (by rw [lc.len]; exact hlt)] at h
      cases h; exact .inl ⟨rfl, rfl⟩
    · rw [List.getElem?_set_ne hj] at h
      exact .inr ⟨Ne.symm hj, h⟩
  rcases hk with hk | hk
  · obtain ⟨m, hn, hm⟩ := lc.ns
    have hbase : G.base.get? env.locals = none := by
      cases e : G.base.get? env.locals with
      | none => rfl
      | some o => exact absurd (Nat.lt_of_lt_of_le (Heap.lt_size e) lc.above) (Nat.lt_irrefl _)
    refine wpAny_storeName_local (by rw [lc.kinds]; exact hk) hn (fun h' hn' hs' => ?_) (by rw [lc.kind]; rfl)
    have hkeep : ∀ b q, b ≠ env.locals → s.heap.get? b = some q → h'.get? b = some q := fun b q hb e => (hs'.2 b hb).trans e
    have st : Stp [env.locals] ρ ρ s { s with heap := h', toks := s.toks + 1 } := Stp.but hkeep (Heap.Ns_frame hn')
    refine k _ env.locals (.inl rfl) (S.but lc.offL hbase hkeep) ?_ st
    refine ⟨lc.kind, lc.kinds, lc.gl, lc.bl, lc.above, ⟨_, hn', fun j y w h1 h2 h3 => ?_⟩, lc.offL, fun y hy => ?_, fun j y w c h1 h2 h3 h4 => ?_, lc.cinj, lc.nodup, by simp [lc.len]⟩
    · rcases hget h2 with ⟨rfl, rfl⟩ | ⟨hj, h2'⟩
      · rw [hi] at h1; cases h1
        exact ⟨val, by simp, hv⟩
      · obtain ⟨u, e1, r⟩ := hm j y w h1 h2' h3
        exact ⟨u, by simp only [if_neg (other h1 hj)]; exact e1, r⟩
    · obtain ⟨c, h1, ⟨u, o, ho, hd⟩, h3, h4, h5⟩ := lc.cells y hy
      exact ⟨c, h1, ⟨u, o, hkeep c o h3 ho, hd⟩, h3, h4, h5⟩
    · rcases hget h2 with ⟨rfl, rfl⟩ | ⟨hj, h2'⟩
      · rw [hi] at h1; cases h1
        rw [hk] at h3
        rcases h3 with h3 | h3 <;> cases h3
      · obtain ⟨u, ⟨o, ho, hd⟩, r⟩ := lc.cval j y w c h1 h2' h3 h4
        obtain ⟨c', g1, _, g3, _, _⟩ := lc.cells y h3
        rw [h4] at g1; cases g1
        exact ⟨u, ⟨o, hkeep c o g3 ho, hd⟩, r⟩
  · obtain ⟨c, hc, ⟨v0, hcell⟩, hcL, hcoff, hcb⟩ := lc.cells x (.inl hk)
    refine wpAny_storeName_cell lc.kind (by rw [lc.kinds]; exact hk) hc hcell (fun h' hcell' hs' => ?_)
    have hkeep : ∀ b q, b ≠ c → s.heap.get? b = some q → h'.get? b = some q := fun b q hb e => (hs'.2 b hb).trans e
    have st : Stp [c] ρ ρ s { s with heap := h', toks := s.toks } := Stp.but hkeep (let ⟨o, ho, _⟩ := hcell'; ⟨o, ho⟩)
    refine k _ c (.inr ⟨hk, hc⟩) (S.but hcoff hcb hkeep) ?_ st
    obtain ⟨m, hn, hm⟩ := lc.ns
    refine ⟨lc.kind, lc.kinds, lc.gl, lc.bl, lc.above, ⟨m, hn.at' fun o e => hkeep _ o (Ne.symm hcL) e, fun j y w h1 h2 h3 => ?_⟩, lc.offL, fun y hy => ?_, fun j y w c' h1 h2 h3 h4 => ?_, lc.cinj, lc.nodup, by simp [lc.len]⟩
    · rcases hget h2 with ⟨rfl, rfl⟩ | ⟨hj, h2'⟩
      · rw [hi] at h1; cases h1
        rw [hk] at h3; cases h3
      · exact hm j y w h1 h2' h3
    · obtain ⟨c', h1, ⟨u, hu⟩, h3, h4, h5⟩ := lc.cells y hy
      by_cases hcc : c' = c
      · subst hcc
        exact ⟨c', h1, ⟨_, hcell'⟩, h3, h4, h5⟩
      · obtain ⟨o, ho, hd⟩ := hu
        exact ⟨c', h1, ⟨u, o, hkeep c' o hcc ho, hd⟩, h3, h4, h5⟩
    · rcases hget h2 with ⟨rfl, rfl⟩ | ⟨hj, h2'⟩
      · rw [hi] at h1; cases h1
        rw [hc] at h4; cases h4
        exact ⟨val, hcell', hv⟩
      · obtain ⟨u, ⟨o, ho, hd⟩, r⟩ := lc.cval j y w c' h1 h2' h3 h4
        have hne : c' ≠ c := by
          rintro rfl
          exact other h1 hj (lc.cinj y x c' h3 (.inl hk) h4 hc)
        exact ⟨u, ⟨o, hkeep c' o hne ho, hd⟩, r⟩

/-! ### what a loop goes over -/

noncomputable def IterAt (ρ : RMap) (h : Heap) (I : Addr) : It → Nat → Prop
  | .lst k, i => ∃ a, ρ[k]? = some (a, a) ∧ h.IsListIter I a i
  | .tup k, i => ∃ a, ρ[k]? = some (a, a) ∧ h.IsTupleIter I a i
  | .rng a c n, i => IsRangeIter h I (a + (i : Nat) * c) ((n : Int) - (i : Nat)) c

theorem IterAt.mono {ρ ρ' : RMap} {h h' : Heap} {I : Addr} {it : It} {i : Nat} (hp : ρ <+: ρ') (x : IterAt ρ h I it i) (hk : ∀ q, h.get? I = some q → h'.get? I = some q) : IterAt ρ' h' I it i := by
  obtain ⟨t, rfl⟩ := hp
  cases it with
  | lst k =>
    obtain ⟨a, e, hi⟩ := x
    exact ⟨a, by rw [List.getElem?_append_left (List.getElem?_eq_some_iff.mp e).1]; exact e, hi.at hk⟩
  | tup k =>
    obtain ⟨a, e, hi⟩ := x
    exact ⟨a, by rw [List.getElem?_append_left (List.getElem?_eq_some_iff.mp e).1]; exact e, hi.at hk⟩
  | rng a c n => exact hk _ x

set_option tactic.hygienic true in
theorem iter_start {ρ : RMap} {H : Hp} {s : Shared} {v : V} {x : Value} {it : It} {A : Around} {Q : Value → Shared → Prop} {E : Value → Shared → Prop} (S : Sim G ρ H s) (hx : VR ρ v x) (h : itOf H v = some it)
    (k : ∀ o, IterAt ρ (s.heap.push o) s.heap.objs.size it 0 → Q (.ref s.heap.objs.size) { s with heap := s.heap.push o }) : wpAny (model G.prog G.w) A (pyIter x) Q E s := by
  cases v with
  | ref kk =>
    simp only [itOf] at h
    split at h
    · rename_i vs e
      cases h
      obtain ⟨a, xs, n, p, r, b, g⟩ := S.list e
      obtain rfl := Sim.ref hx p
      exact wpAny_pyIter_list (isL_of g) (k _ ⟨a, p, ⟨_, Heap.get?_push_size _ rfl, rfl, rfl⟩⟩)
    · rename_i vs e
      cases h
      obtain ⟨a, xs, n, p, r, g⟩ := S.tup e
      obtain rfl := Sim.ref hx p
      exact wpAny_pyIter_tuple (items := xs.toArray) ⟨_, g, rfl, n, rfl⟩ (k _ ⟨a, p, ⟨_, Heap.get?_push_size _ rfl, rfl, rfl⟩⟩)
    · rename_i a c n e
      cases h
      obtain ⟨p, hp, e1, b, t, u, w, g, hs, hn⟩ := S.rep.at_ kk _ e
      obtain ⟨p1, p2⟩ := p
      obtain rfl := Sim.ref hx hp
      refine wpAny_pyIter_range g hs (k _ ?_)
      show IsRangeIter _ _ _ _ _
      rw [hn]
      simpa using Heap.get?_push_size (o := ({ cls := .type "range_iterator", data := .fields #[rawInt a, rawInt (n : Int), rawInt c] } : Obj)) s.heap rfl
    · cases h
  | _ => cases h

theorem iter_self {ρ : RMap} {s : Shared} {it : It} {I : Addr} {i : Nat} {A : Around} {Q : Value → Shared → Prop} {E : Value → Shared → Prop} (x : IterAt ρ s.heap I it i) (h : Q (.ref I) s) : wpAny (model G.prog G.w) A (pyIter (.ref I)) Q E s := by
  cases it with
  | lst k => obtain ⟨a, _, hi⟩ := x; exact wpAny_pyIter_listiter hi h
  | tup k => obtain ⟨a, _, hi⟩ := x; exact wpAny_pyIter_tupleiter hi h
  | rng a c n => exact wpAny_pyIter_rangeiter x h

set_option tactic.hygienic true in
theorem iter_item {ρ : RMap} {H : Hp} {s : Shared} {v : V} {it : It} {I : Addr} {i : Nat} {A : Around} {Q : Option Value → Shared → Prop} {E : Value → Shared → Prop} (S : Sim G ρ H s) (x : IterAt ρ s.heap I it i) (h : itemAt H it i = some v)
    (k : ∀ val h' tk, VR ρ v val → IterAt ρ h' I it (i + 1) → (∀ b q, b ≠ I → s.heap.get? b = some q → h'.get? b = some q) → (∃ o, h'.get? I = some o) → Q (some val) { s with heap := h', toks := tk }) :
    wpAny (model G.prog G.w) A (pyNext (.ref I)) Q E s := by
  cases it with
  | lst kk =>
    obtain ⟨a, e, hi⟩ := x
    simp only [itemAt] at h
    split at h
    · rename_i vs eo
      obtain ⟨a', xs, n, p, r, b, g⟩ := S.list eo
      rw [e] at p; cases p
      obtain ⟨val, hv, hr⟩ := r.get h
      refine wpAny_pyNext_list_item hi (isL_of g) (x := val) (by simpa using hv) fun h' hi' hs' => ?_
      exact k val h' s.toks hr ⟨a, e, hi'⟩ (fun b q hb eq => (hs'.2 b hb).trans eq) (let ⟨o, ho, _⟩ := hi'; ⟨o, ho⟩)
    · cases h
  | tup kk =>
    obtain ⟨a, e, hi⟩ := x
    simp only [itemAt] at h
    split at h
    · rename_i vs eo
      obtain ⟨a', xs, n, p, r, g⟩ := S.tup eo
      rw [e] at p; cases p
      obtain ⟨val, hv, hr⟩ := r.get h
      refine wpAny_pyNext_tuple_item (items := xs.toArray) hi ⟨_, g, rfl, n, rfl⟩ (x := val) (by simpa using hv) fun h' hi' hs' => ?_
      exact k val h' s.toks hr ⟨a, e, hi'⟩ (fun b q hb eq => (hs'.2 b hb).trans eq) (let ⟨o, ho, _⟩ := hi'; ⟨o, ho⟩)
    · cases h
  | rng a c n =>
    simp only [itemAt] at h
    split at h
    · rename_i hlt
      cases h
      refine wpAny_pyNext_range_item x (by first | assumption | exact Nat.le_of_lt ‹_› | exact Nat.lt_succ_of_lt ‹_› | exact Nat.ne_of_lt ‹_› | exact Nat.ne_of_gt ‹_› | exact Nat.le_trans ‹_› (by decide) | exact Nat.lt_of_lt_of_le ‹_› (by decide) | decide | omega) fun h' hi' hs' => ?_
      refine k _ h' _ vr_int ?_ (fun b q hb eq => (hs'.2 b hb).trans eq) ⟨_, hi'⟩
      show IsRangeIter _ _ _ _ _
      have e1 : a + ((i + 1 : Nat) : Int) * c = a + (i : Int) * c + c := by
        rw [Int.natCast_add, Int.add_mul]; simp; omega
      have e2 : (n : Int) - ((i + 1 : Nat) : Int) = (n : Int) - (i : Int) - 1 := by first | assumption | exact Nat.le_of_lt ‹_› | exact Nat.lt_succ_of_lt ‹_› | exact Nat.ne_of_lt ‹_› | exact Nat.ne_of_gt ‹_› | exact Nat.le_trans ‹_› (by decide) | exact Nat.lt_of_lt_of_le ‹_› (by decide) | decide | omega
      rw [e1, e2]; exact hi'
    · cases h

set_option tactic.hygienic true in
theorem iter_end {ρ : RMap} {H : Hp} {s : Shared} {it : It} {I : Addr} {i : Nat} {A : Around} {Q : Option Value → Shared → Prop} {E : Value → Shared → Prop} (hA : A.handled = none) (S : Sim G ρ H s) (x : IterAt ρ s.heap I it i) (h : lenIt H it = some i)
    (k : ∀ h' tk, (∀ b q, b ≠ I → s.heap.get? b = some q → h'.get? b = some q) → Q none { s with heap := h', toks := tk }) :
    wpAny (model G.prog G.w) A (pyNext (.ref I)) Q E s := by
  cases it with
  | lst kk =>
    obtain ⟨a, e, hi⟩ := x
    simp only [lenIt] at h
    split at h
    · rename_i vs eo
      cases h
      obtain ⟨a', xs, n, p, r, b, g⟩ := S.list eo
      rw [e] at p; cases p
      have := r.length
      refine wpAny_pyNext_list_end hA hi (isL_of g) (by simp; omega) fun h' hs' => k h' s.toks fun b q hb eq => hs' b q hb eq
    · cases h
  | tup kk =>
    obtain ⟨a, e, hi⟩ := x
    simp only [lenIt] at h
    split at h
    · rename_i vs eo
      cases h
      obtain ⟨a', xs, n, p, r, g⟩ := S.tup eo
      rw [e] at p; cases p
      have := r.length
      refine wpAny_pyNext_tuple_end (items := xs.toArray) hA hi ⟨_, g, rfl, n, rfl⟩ (by simp; omega) fun h' hs' => k h' s.toks fun b q hb eq => hs' b q hb eq
    · cases h
  | rng a c n =>
    simp only [lenIt, Option.some.injEq] at h
    refine wpAny_pyNext_range_end hA x (by first | assumption | exact Nat.le_of_lt ‹_› | exact Nat.lt_succ_of_lt ‹_› | exact Nat.ne_of_lt ‹_› | exact Nat.ne_of_gt ‹_› | exact Nat.le_trans ‹_› (by decide) | exact Nat.lt_of_lt_of_le ‹_› (by decide) | decide | omega) fun h' hs' => k h' s.toks fun b q hb eq => hs' b q hb eq
end
end Mz
end

section
open PySem PySem.W PyProof.Rows
set_option Elab.async false
set_option autoImplicit false

set_option tactic.hygienic false

namespace Mz

/-! ### the block of a comprehension -/

noncomputable def clOf (env : Env) : List (Str × NameKind) → List (Str × Addr) → List (Str × Addr)
  | [], acc => acc
  | (n, k) :: r, acc => if k == .free then clOf env r ((n, (env.cells.lookup n).getD 0) :: acc) else clOf env r acc

theorem closureFor_clOf {sc : Scope} {env : Env} (h : ∀ p ∈ sc.names, p.2 = .free → ∃ c, env.cells.lookup p.1 = some c) : closureFor sc env = pure (clOf env sc.names []) := by
  have key : ∀ (names : List (Str × NameKind)) (acc : List (Str × Addr)), (∀ p ∈ names, p.2 = .free → ∃ c, env.cells.lookup p.1 = some c) →
      (forIn names acc fun x r => match x with
        | (name, kind) => if (kind == .free) = true then (do let a ← cellOf env name; pure (ForInStep.yield ((name, a) :: r))) else pure (ForInStep.yield r) : Sem (List (Str × Addr))) = pure (clOf env names acc) := by
    intro names
    induction names with
    | nil => intro acc _; rfl
    | cons p r ih =>
      intro acc hp
      obtain ⟨n, k⟩ := p
      rw [List.forIn_cons]
      unfold clOf
      by_cases hk : (k == .free) = true
      · obtain ⟨c, hc⟩ := hp (n, k) List.mem_cons_self (beq_iff_eq.mp hk)
        have hcell : cellOf env n = pure c := by unfold cellOf; rw [hc]
        simp only [hk, if_true, hcell, hc, Option.getD_some]
        exact ih _ fun p hm => hp p (List.mem_cons_of_mem _ hm)
      · simp only [hk, Bool.false_eq_true, if_false]
        exact ih _ fun p hm => hp p (List.mem_cons_of_mem _ hm)
  unfold closureFor
  have := key sc.names [] h
  show (forIn sc.names [] _ >>= fun cs => pure cs) = _
  first
    | (rw [show (forIn sc.names [] _ : Sem (List (Str × Addr))) = _ from this]; rfl)
    | (simp only [bind_pure]; exact this)

theorem clOf_acc (env : Env) : ∀ (names : List (Str × NameKind)) (acc : List (Str × Addr)), clOf env names acc = clOf env names [] ++ acc
  | [], acc => by simp [clOf]
  | (n, k) :: r, acc => by
    unfold clOf
    split
    · rw [clOf_acc env r (_ :: acc), clOf_acc env r [_]]; simp
    · exact clOf_acc env r acc

set_option tactic.hygienic true in
theorem clOf_mem (env : Env) : ∀ {names : List (Str × NameKind)} {y : Str} {c : Addr}, (y, c) ∈ clOf env names [] → (y, NameKind.free) ∈ names ∧ c = (env.cells.lookup y).getD 0
  | (n, k) :: r, y, c, h => by
    unfold clOf at h
    split at h
    · rename_i hk
      rw [clOf_acc] at h
      rcases List.mem_append.mp h with h | h
      · obtain ⟨h1, h2⟩ := clOf_mem env h
        exact ⟨List.mem_cons_of_mem _ h1, h2⟩
      · have := List.mem_singleton.mp h
        cases this
        rw [beq_iff_eq.mp hk]
        exact ⟨List.mem_cons_self, rfl⟩
    · obtain ⟨h1, h2⟩ := clOf_mem env h
      exact ⟨List.mem_cons_of_mem _ h1, h2⟩

theorem lookup_isSome_of_mem {α : Type} : ∀ {l : List (Str × α)} {y : Str} {c : α}, (y, c) ∈ l → ∃ c', l.lookup y = some c' ∧ (y, c') ∈ l
  | (n, k) :: r, y, c, h => by
    rw [List.lookup_cons]
    cases hb : y == n with
    | true => rw [beq_iff_eq.mp hb]; exact ⟨k, rfl, List.mem_cons_self⟩
    | false =>
      rcases List.mem_cons.mp h with e | h
      · cases e; simp at hb
      · obtain ⟨c', h1, h2⟩ := lookup_isSome_of_mem h
        exact ⟨c', h1, List.mem_cons_of_mem _ h2⟩

theorem clOf_has (env : Env) : ∀ {names : List (Str × NameKind)} {y : Str}, (y, NameKind.free) ∈ names → ∃ c, (y, c) ∈ clOf env names []
  | (n, k) :: r, y, h => by
    unfold clOf
    rcases List.mem_cons.mp h with e | h
    · cases e
      simp only [beq_self_eq_true, if_true]
      rw [clOf_acc]
      exact ⟨_, List.mem_append_right _ List.mem_cons_self⟩
    · obtain ⟨c, hc⟩ := clOf_has env h
      split
      · rw [clOf_acc]; exact ⟨c, List.mem_append_left _ hc⟩
      · exact ⟨c, hc⟩

theorem clOf_lookup {env : Env} {names : List (Str × NameKind)} {y : Str} (h : (y, NameKind.free) ∈ names) {c : Addr} (hc : env.cells.lookup y = some c) : (clOf env names []).lookup y = some c := by
  obtain ⟨c0, h0⟩ := clOf_has env h
  obtain ⟨c', h1, h2⟩ := lookup_isSome_of_mem h0
  rw [h1, (clOf_mem env h2).2, hc]; rfl

theorem cellsFrom_acc : ∀ (names : List (Str × NameKind)) (n : Nat) (acc : List (Str × Addr)), cellsFrom n names acc = cellsFrom n names [] ++ acc
  | [], n, acc => by simp [cellsFrom]
  | (y, k) :: r, n, acc => by
    unfold cellsFrom
    split
    · rw [cellsFrom_acc r _ (_ :: acc), cellsFrom_acc r _ [_]]; simp
    · exact cellsFrom_acc r n acc
set_option tactic.hygienic true in
theorem cellsFrom_mem : ∀ {names : List (Str × NameKind)} {n : Nat} {y : Str} {c : Addr}, (y, c) ∈ cellsFrom n names [] → (y, NameKind.cell) ∈ names
  | (z, k) :: r, n, y, c, h => by
    unfold cellsFrom at h
    split at h
    · rename_i hk
      rw [cellsFrom_acc] at h
      rcases List.mem_append.mp h with h | h
      · exact List.mem_cons_of_mem _ (cellsFrom_mem h)
      · have := List.mem_singleton.mp h
        cases this
        rw [beq_iff_eq.mp hk]; exact List.mem_cons_self
    · exact List.mem_cons_of_mem _ (cellsFrom_mem h)
theorem cellsFrom_has : ∀ {names : List (Str × NameKind)} {n : Nat} {y : Str}, (y, NameKind.cell) ∈ names → ∃ c, (y, c) ∈ cellsFrom n names []
  | (z, k) :: r, n, y, h => by
    unfold cellsFrom
    rcases List.mem_cons.mp h with e | h
    · cases e
      simp only [beq_self_eq_true, if_true]
      rw [cellsFrom_acc]
      exact ⟨_, List.mem_append_right _ List.mem_cons_self⟩
    · split
      · obtain ⟨c, hc⟩ := cellsFrom_has (n := n + 1) h
        rw [cellsFrom_acc]; exact ⟨c, List.mem_append_left _ hc⟩
      · exact cellsFrom_has h

theorem lookup_append' {α : Type} (a b : List (Str × α)) (y : Str) : (a ++ b).lookup y = (match a.lookup y with | some c => some c | none => b.lookup y) := by
  induction a with
  | nil => rfl
  | cons p r ih =>
    obtain ⟨n, k⟩ := p
    simp only [List.cons_append, List.lookup_cons]
    cases y == n with
    | true => rfl
    | false => exact ih

noncomputable def cenvOf (sc : Scope) (L : Addr) (env : Env) : Env :=
  { scope := relabel sc env, locals := L, globals := env.globals, cells := cellsFrom (L + 1) sc.names (clOf env sc.names []), qual := env.qual, func := none, code := env.code, frame := env.frame, builtins := env.builtins }

theorem new_block {M : Model} {A : Around} {E : Value → Shared → Prop} {s : Shared} {sc : Scope} {env : Env} {cl : List (Str × Addr)} {Q : Env → Shared → Prop}
    (h : Q { scope := sc, locals := s.heap.objs.size, globals := env.globals, cells := cellsFrom (s.heap.objs.size + 1) sc.names cl, qual := env.qual, func := none, code := env.code, frame := env.frame, builtins := env.builtins }
      { s with heap := pushCells (s.heap.push { cls := .type "dict", data := .dict #[] }) sc.names }) :
    wpAny M A (newFunctionEnv sc env.globals cl [] env.qual none .none (some env)) Q E s := by
  simp only [newFunctionEnv, Option.isSome_some, if_true]
  refine wpAny_bind (wpAny_alloc ?_)
  refine wpAny_bind (wpAny_layCells _ (fun name kind cells => by cases hkc : kind == NameKind.cell <;> simp [hkc]) _ _ _ _ ?_)
  rw [show ({ s with heap := s.heap.push { cls := .type "dict", data := .dict #[] } } : Shared).heap.objs.size = s.heap.objs.size + 1 from Heap.size_push ..]
  exact wpAny_bind (wpAny_pure (wpAny_pure h))

theorem mem_of_lookup' {α : Type} {l : List (Str × α)} {n : Str} {c : α} (h : l.lookup n = some c) : (n, c) ∈ l := mem_of_lookup h

theorem kdIn_eq (kd : Kd) (sc : Scope) (y : Str) : kdIn kd sc y = (sc.names.lookup y).map fun k => if (k == .free && kd y == some .cell) then .cell else k := by
  unfold kdIn
  induction sc.names with
  | nil => rfl
  | cons p r ih =>
    obtain ⟨n, k⟩ := p
    by_cases hc : (k == .free && kd n == some .cell) = true
    · simp only [List.map_cons, hc, if_true, List.lookup_cons]
      cases hb : y == n with
      | true => obtain rfl : y = n := beq_iff_eq.mp hb; simp only [Option.map_some, hc, if_true]
      | false => exact ih
    · simp only [List.map_cons, hc, Bool.false_eq_true, if_false, List.lookup_cons]
      cases hb : y == n with
      | true => obtain rfl : y = n := beq_iff_eq.mp hb; simp only [Option.map_some, hc, Bool.false_eq_true, if_false]
      | false => exact ih

structure CompOk (nm : List Str) (kd : Kd) (sc : Scope) (x : Str) : Prop where
  kind : sc.kind = .function
  keys : nodupKeys sc.names = true
  notIn : x ∉ nm
  no0 : (".0" : Str) ∉ nm
  self : sc.names.lookup x = some .local ∨ sc.names.lookup x = some .cell
  free : ∀ p ∈ sc.names, p.2 = .free → kd p.1 = some .cell ∨ kd p.1 = some .free
  cell : ∀ p ∈ sc.names, p.2 = .cell → p.1 = x
  loc : ∀ p ∈ sc.names, p.2 = .local → p.1 = x ∨ p.1 = (".0" : Str)
theorem compOk_of {nm : List Str} {kd : Kd} {sc : Scope} {x : Str} (h : compOk nm kd sc x = true) : CompOk nm kd sc x := by
  unfold compOk at h
  simp only [Bool.and_eq_true, beq_iff_eq, Bool.not_eq_true', Bool.or_eq_true, List.all_eq_true, bne_iff_ne, ne_eq] at h
  obtain ⟨⟨⟨⟨⟨⟨h1, h2⟩, h3⟩, h4⟩, h5⟩, h6⟩, h7⟩ := h
  refine ⟨h1, h2, by simpa using h3, by simpa using h7, h5, fun p hp hk => ?_, fun p hp hk => ?_, fun p hp hk => ?_⟩
  · have := h6 p hp; rw [hk] at this; simpa using this
  · have := h6 p hp; rw [hk] at this; simpa using this
  · have := h6 p hp; rw [hk] at this; simpa using this

theorem lookup_of_nodup : ∀ {names : List (Str × NameKind)} {y : Str} {k : NameKind}, nodupKeys names = true → (y, k) ∈ names → names.lookup y = some k
  | (n, k') :: r, y, k, h, hm => by
    simp only [nodupKeys, Bool.and_eq_true, Bool.not_eq_true'] at h
    rw [List.lookup_cons]
    cases hb : y == n with
    | true =>
      rcases List.mem_cons.mp hm with e | hm
      · cases e; rfl
      · have := List.any_eq_false.mp h.1 _ hm
        rw [beq_iff_eq.mp hb] at this
        simp at this
    | false =>
      rcases List.mem_cons.mp hm with e | hm
      · cases e; simp at hb
      · exact lookup_of_nodup h.2 hm

section
variable {G : Gd} {F : FnT} {d : Nat} {nm : List Str} {kd : Kd}

theorem block_lc {env : Env} {ρ : RMap} {l : Loc} {H : Hp} {s s' : Shared} {sc : Scope} {x : Str} {h0 : Heap} (lc : Lc G nm kd env ρ l s) (S : Sim G ρ H s) (hc : CompOk nm kd sc x)
    (h0k : ∀ b o, s.heap.get? b = some o → h0.get? b = some o) (hs : s'.heap = pushCells (h0.push { cls := .type "dict", data := .dict #[] }) sc.names) (hle : s.heap.objs.size ≤ h0.objs.size) :
    Lc G (nm ++ [x]) (kdIn kd sc) (cenvOf sc h0.objs.size env) ρ (l ++ [none]) s' := by
  have keep1 : ∀ b o, h0.get? b = some o → s'.heap.get? b = some o := fun b o e => by rw [hs]; exact pushCells_keeps _ _ b o (Heap.get?_push_of_some _ e)
  have keep : ∀ b o, s.heap.get? b = some o → s'.heap.get? b = some o := fun b o e => keep1 b o (h0k b o e)
  have fresh : ∀ a : Addr, s.heap.objs.size ≤ a → s.heap.get? a = none := by
    intro a ha
    cases e : s.heap.get? a with
    | none => rfl
    | some o => exact absurd (Heap.lt_size e) (Nat.not_lt.mpr ha)
  have offF : ∀ a : Addr, s.heap.get? a = none → Off ρ a := by
    intro a ha p hp
    obtain ⟨⟨o1, e1⟩, ⟨o2, e2⟩⟩ := S.rep.live hp
    exact ⟨fun e => (by rw [e, ha] at e1; cases e1), fun e => (by rw [e, ha] at e2; cases e2)⟩
  have ok := cellsFrom_ok sc.names (h0.push { cls := .type "dict", data := .dict #[] }) (h0.objs.size + 1) [] ⟨fun _ _ hm => (nomatch hm), List.Pairwise.nil⟩ (by rw [Heap.size_push]; exact Nat.le_refl _)
  rw [Heap.size_push] at ok
  rw [← hs] at ok
  have hns : s'.heap.Ns h0.objs.size fun _ => none := by rw [hs]; exact (Heap.Ns.new h0 (.type "dict")).keeps (pushCells_keeps _ _)
  have hcells : ∀ y, (cenvOf sc h0.objs.size env).cells.lookup y = (match (cellsFrom (h0.objs.size + 1) sc.names []).lookup y with | some c => some c | none => (clOf env sc.names []).lookup y) := by
    intro y
    show (cellsFrom (h0.objs.size + 1) sc.names (clOf env sc.names [])).lookup y = _
    rw [cellsFrom_acc, lookup_append']
    generalize (cellsFrom (h0.objs.size + 1) sc.names []).lookup y = o
    cases o <;> rfl
  -- a captured name
  have captured : ∀ y, sc.names.lookup y = some .free → ∃ c, (cenvOf sc h0.objs.size env).cells.lookup y = some c ∧ env.cells.lookup y = some c ∧ (kd y = some .cell ∨ kd y = some .free) := by
    intro y hy
    have hm := mem_of_lookup' hy
    have hk := hc.free _ hm rfl
    obtain ⟨c, h1, _⟩ := lc.cells y hk
    refine ⟨c, ?_, h1, hk⟩
    rw [hcells]
    cases e : (cellsFrom (h0.objs.size + 1) sc.names []).lookup y with
    | some c' =>
      have h2 := lookup_of_nodup hc.keys (cellsFrom_mem (mem_of_lookup' e))
      rw [hy] at h2; cases h2
    | none => exact clOf_lookup hm h1
  have ownCell : ∀ y, sc.names.lookup y = some .cell → y = x ∧ ∃ c, (cenvOf sc h0.objs.size env).cells.lookup y = some c ∧ s'.heap.IsCell c none ∧ h0.objs.size + 1 ≤ c := by
    intro y hy
    have hm := mem_of_lookup' hy
    refine ⟨hc.cell _ hm rfl, ?_⟩
    obtain ⟨c0, h0'⟩ := cellsFrom_has (n := h0.objs.size + 1) hm
    obtain ⟨c, h1, h2⟩ := lookup_isSome_of_mem h0'
    refine ⟨c, by rw [hcells, h1], (ok.empty y c h2).1, (ok.empty y c h2).2⟩
  have split : ∀ y, (kdIn kd sc y = some .cell ∨ kdIn kd sc y = some .free) → sc.names.lookup y = some .cell ∨ sc.names.lookup y = some .free := by
    intro y hy
    rw [kdIn_eq] at hy
    cases e : sc.names.lookup y with
    | none => rw [e] at hy; simp at hy
    | some k =>
      rw [e] at hy
      cases k <;> simp at hy ⊢
  refine ⟨?_, fun y => ?_, lc.gl, lc.bl, ?_, ⟨_, hns, fun i y v h1 h2 h3 => ?_⟩, offF _ (fresh _ hle), fun y hy => ?_, fun i y v c h1 h2 h3 h4 => ?_, fun y z c hy hz h1 h2 => ?_, ?_, ?_⟩
  · exact hc.kind
  · show (relabel sc env).names.lookup y = kdIn kd sc y
    unfold relabel kdIn
    congr 1
    apply List.map_congr_left
    rintro ⟨n, k⟩ _
    simp only [lc.kind, lc.kinds, beq_self_eq_true, Bool.and_true]
  · show G.base.objs.size ≤ h0.objs.size
    obtain ⟨m, hn, _⟩ := lc.ns
    exact Nat.le_trans lc.above (Nat.le_trans (Nat.le_of_lt hn.lt) hle)
  · -- a local name of the block: x or the hidden one
    exfalso
    rw [kdIn_eq] at h3
    cases e : sc.names.lookup y with
    | none => rw [e] at h3; simp at h3
    | some k =>
      rw [e] at h3
      have hk : k = .local := by
        simp only [Option.map_some, Option.some.injEq] at h3
        split at h3
        · cases h3
        · exact h3
      subst hk
      have hm := mem_of_lookup' e
      by_cases hi : i < nm.length
      · rw [List.getElem?_append_left hi] at h1
        have hmem := mem_of_get h1
        rcases hc.loc _ hm rfl with h | h
        · exact hc.notIn (h ▸ hmem)
        · exact hc.no0 (h ▸ hmem)
      · have hi' : i = nm.length := by
          have := (List.getElem?_eq_some_iff.mp h1).1
          simp at this; omega
        subst hi'
        rw [← lc.len] at h2
        simp at h2
  · rcases split y hy with h | h
    · obtain ⟨rfl, c, h1, h2, h3⟩ := ownCell y h
      have hf : s.heap.get? c = none := fresh c (Nat.le_trans hle (Nat.le_of_succ_le h3))
      exact ⟨c, h1, ⟨_, h2⟩, Nat.ne_of_gt h3, offF c hf, off_base S hf⟩
    · obtain ⟨c, h1, h2, hk⟩ := captured y h
      obtain ⟨c', g1, ⟨v, o, ho, hd⟩, g3, g4, g5⟩ := lc.cells y hk
      rw [h2] at g1; cases g1
      refine ⟨c, h1, ⟨v, o, keep c o ho, hd⟩, ?_, g4, g5⟩
      exact Nat.ne_of_lt (Nat.lt_of_lt_of_le (Heap.lt_size ho) hle)
  · have hi : i < nm.length := by
      have := (List.getElem?_eq_some_iff.mp h1).1
      simp at this
      rcases Nat.lt_or_ge i nm.length with h | h
      · exact h
      · have hi' : i = nm.length := by first | assumption | exact Nat.le_of_lt ‹_› | exact Nat.lt_succ_of_lt ‹_› | exact Nat.ne_of_lt ‹_› | exact Nat.ne_of_gt ‹_› | exact Nat.le_trans ‹_› (by decide) | exact Nat.lt_of_lt_of_le ‹_› (by decide) | decide | omega
        subst hi'
        rw [← lc.len] at h2
        simp at h2
    rw [List.getElem?_append_left hi] at h1
    rw [List.getElem?_append_left (by rw [lc.len]; exact hi)] at h2
    rcases split y h3 with h | h
    · obtain ⟨rfl, _⟩ := ownCell y h
      exact absurd (mem_of_get h1) hc.notIn
    · obtain ⟨c', g1, g2, hk⟩ := captured y h
      rw [h4] at g1; cases g1
      obtain ⟨val, ⟨o, ho, hd⟩, r⟩ := lc.cval i y v c h1 h2 hk g2
      exact ⟨val, ⟨o, keep c o ho, hd⟩, r⟩
  · rcases split y hy with h | h <;> rcases split z hz with h' | h'
    · rw [(ownCell y h).1, (ownCell z h').1]
    · obtain ⟨_, c1, e1, _, g⟩ := ownCell y h
      obtain ⟨c2, e2, e3, hk⟩ := captured z h'
      rw [h1] at e1; cases e1
      rw [h2] at e2; cases e2
      obtain ⟨c', q1, ⟨_, o, ho, _⟩, _⟩ := lc.cells z hk
      rw [e3] at q1; cases q1
      exact absurd (Nat.lt_of_lt_of_le (Heap.lt_size ho) hle) (Nat.not_lt.mpr (Nat.le_of_succ_le g))
    · obtain ⟨_, c1, e1, _, g⟩ := ownCell z h'
      obtain ⟨c2, e2, e3, hk⟩ := captured y h
      rw [h2] at e1; cases e1
      rw [h1] at e2; cases e2
      obtain ⟨c', q1, ⟨_, o, ho, _⟩, _⟩ := lc.cells y hk
      rw [e3] at q1; cases q1
      exact absurd (Nat.lt_of_lt_of_le (Heap.lt_size ho) hle) (Nat.not_lt.mpr (Nat.le_of_succ_le g))
    · obtain ⟨c1, e1, e3, hk⟩ := captured y h
      obtain ⟨c2, e2, e4, hk'⟩ := captured z h'
      rw [h1] at e1; cases e1
      rw [h2] at e2; cases e2
      exact lc.cinj y z c hk hk' e3 e4
  · refine List.nodup_append.mpr ⟨lc.nodup, by simp, ?_⟩
    intro a ha b hb
    rw [List.mem_singleton.mp hb]
    exact fun e => hc.notIn (e ▸ ha)
  · simp [lc.len]
end
end Mz
end

section
open PySem PySem.W PyProof.Rows
set_option Elab.async false
set_option autoImplicit false

set_option tactic.hygienic false

namespace Mz
section
variable {G : Gd} {F : FnT} {d : Nat} {nm : List Str} {kd : Kd}

theorem Lc.but {env : Env} {ρ : RMap} {l : Loc} {s : Shared} {h' : Heap} {tk : Nat} {a : Addr} (lc : Lc G nm kd env ρ l s) (hk : ∀ b q, b ≠ a → s.heap.get? b = some q → h'.get? b = some q) (haL : a ≠ env.locals)
    (hac : ∀ y c, (kd y = some .cell ∨ kd y = some .free) → env.cells.lookup y = some c → c ≠ a) : Lc G nm kd env ρ l { s with heap := h', toks := tk } := by
  obtain ⟨m, hn, hm⟩ := lc.ns
  refine ⟨lc.kind, lc.kinds, lc.gl, lc.bl, lc.above, ⟨m, hn.at' fun o e => hk _ o (Ne.symm haL) e, hm⟩, lc.offL, fun y hy => ?_, fun j y w c h1 h2 h3 h4 => ?_, lc.cinj, lc.nodup, lc.len⟩
  · obtain ⟨c, h1, ⟨u, o, ho, hd⟩, h3, h4, h5⟩ := lc.cells y hy
    exact ⟨c, h1, ⟨u, o, hk c o (hac y c hy h1) ho, hd⟩, h3, h4, h5⟩
  · obtain ⟨u, ⟨o, ho, hd⟩, r⟩ := lc.cval j y w c h1 h2 h3 h4
    exact ⟨u, ⟨o, hk c o (hac y c h3 h4) ho, hd⟩, r⟩

theorem adopt {ρ : RMap} {H : Hp} {s : Shared} {p : Addr × Addr} {o : O} (S : Sim G ρ H s) (h1 : Off ρ p.1) (h2 : Off ρ p.2) (ho : ObjAt G (ρ ++ [p]) s.heap p o) :
    Sim G (ρ ++ [p]) (H ++ [o]) s ∧ VR (ρ ++ [p]) (.ref H.length) (.ref p.1) := by
  have hpre : ρ <+: ρ ++ [p] := ⟨[p], rfl⟩
  refine ⟨⟨⟨by simp [S.rep.len], ?_, ?_⟩, S.keep, S.pre.trans hpre⟩, ⟨p, by rw [← S.rep.len]; simp, rfl⟩⟩
  · intro k q e
    by_cases hlt : k < H.length
    · rw [List.getElem?_append_left hlt] at e
      obtain ⟨r, hr, x⟩ := S.rep.at_ k q e
      refine ⟨r, ?_, x.mono hpre (fun q e => e) (fun q e => e)⟩
      rw [List.getElem?_append_left (by rw [S.rep.len]; exact hlt)]; exact hr
    · have hk' : k = H.length := by
        have := (List.getElem?_eq_some_iff.mp e).1
        simp at this; omega
      subst hk'
      have : q = o := by simpa using e.symm
      subst this
      exact ⟨p, by rw [← S.rep.len]; simp, ho⟩
  · intro i j q r hi hj hij
    have fresh : ∀ q ∈ ρ, q.1 ≠ p.1 ∧ q.1 ≠ p.2 ∧ q.2 ≠ p.1 ∧ q.2 ≠ p.2 := fun q hq => ⟨(h1 q hq).1, (h2 q hq).1, (h1 q hq).2, (h2 q hq).2⟩
    rcases Nat.lt_trichotomy i ρ.length with a1 | a1 | a1
    · rw [List.getElem?_append_left a1] at hi
      rcases Nat.lt_trichotomy j ρ.length with a2 | a2 | a2
      · rw [List.getElem?_append_left a2] at hj
        exact S.rep.apart i j q r hi hj hij
      · subst a2
        have : r = p := by simpa using hj.symm
        subst this
        exact fresh q (mem_of_get hi)
      · rw [List.getElem?_eq_none (by simp; omega)] at hj; cases hj
    · subst a1
      have : q = p := by simpa using hi.symm
      subst this
      rcases Nat.lt_trichotomy j ρ.length with a2 | a2 | a2
      · rw [List.getElem?_append_left a2] at hj
        obtain ⟨f1, f2, f3, f4⟩ := fresh r (mem_of_get hj)
        exact ⟨f1.symm, f3.symm, f2.symm, f4.symm⟩
      · exact absurd a2.symm hij
      · rw [List.getElem?_eq_none (by simp; omega)] at hj; cases hj
    · rw [List.getElem?_eq_none (by simp; omega)] at hi; cases hi

noncomputable abbrev testsOf (ifs : List Expr) (env : Env) : Sem Bool :=
  forIn ifs true fun c r => if r = true then do let ok ← PySem.isTrue c env (eval c env); pure (ForInStep.yield ok) else pure (ForInStep.yield r)

structure TurnS (G : Gd) (d : Nat) (nm' : List Str) (kd' : Kd) (f : Loc → V → Hp → Option (Option V × Hp)) (ifs : List Expr) (elt : Expr) : Prop where
  run : ∀ {A : Around} {env : Env} {ρ : RMap} {l : Loc} {H : Hp} {s : Shared} {v : V} {r : Option V} {H' : Hp}, Ar A d → Lc G nm' kd' env ρ (l ++ [some v]) s → Sim G ρ H s → f l v H = some (r, H') →
    wpAny (model G.prog G.w) A (testsOf ifs env) (fun ok s₃ => match r with
      | some y => ok = true ∧ ∃ ρ₃ H₃, Sim G ρ₃ H₃ s₃ ∧ Stp [env.locals] ρ ρ₃ s s₃ ∧ (∀ m, s.heap.Ns env.locals m → s₃.heap.Ns env.locals m) ∧ wpAny (model G.prog G.w) A (eval elt env) (Done G env.locals ρ₃ s₃ y H') (fun _ _ => False) s₃
      | none => ok = false ∧ DoneU G env.locals ρ s H' s₃) (fun _ _ => False) s

structure CompSt (G : Gd) (nm' : List Str) (kd' : Kd) (env : Env) (l : Loc) (ρ₀ : RMap) (s₀ : Shared) (own : List Addr) (D I : Addr) (it : It) (i : Nat) (done : List V) (ρ : RMap) (H : Hp) (s : Shared) : Prop where
  sim : Sim G ρ H s
  lc : ∃ w, Lc G nm' kd' env ρ (l ++ [w]) s
  acc : ∃ ys k, All2 (VR ρ) done ys ∧ s.heap.get? D = some (listOf ys.toArray k)
  itr : IterAt ρ s.heap I it i
  stp : Stp own ρ₀ ρ s₀ s
  offD : Off ρ D
  offI : Off ρ I

structure Apart (G : Gd) (kd' : Kd) (env : Env) (s₀ : Shared) (own : List Addr) (D I : Addr) : Prop where
  fresh : ∀ a ∈ own, s₀.heap.get? a = none
  hD : D ∈ own
  hI : I ∈ own
  hC : env.locals ∈ own
  DI : D ≠ I
  DC : D ≠ env.locals
  IC : I ≠ env.locals
  Dc : ∀ y c, (kd' y = some .cell ∨ kd' y = some .free) → env.cells.lookup y = some c → c ≠ D
  Ic : ∀ y c, (kd' y = some .cell ∨ kd' y = some .free) → env.cells.lookup y = some c → c ≠ I
  bD : G.base.get? D = none
  bI : G.base.get? I = none

set_option tactic.hygienic true in
theorem comp_loop {nm' : List Str} {kd' : Kd} {f : Loc → V → Hp → Option (Option V × Hp)} {ifs : List Expr} {elt iter : Expr} {x : Str} {px pos : Pos} {sc : Scope} {A : Around} {cenv : Env} {l : Loc} {ρ₀ : RMap} {s₀ s : Shared} {own : List Addr} {D I : Addr} {it : It}
    {ρ : RMap} {H Hend : Hp} {n : Nat} {vs : List V} {R : Result → Shared → Prop} (hA : Ar A d) (T : TurnS G d nm' kd' f ifs elt) (ap : Apart G kd' cenv s₀ own D I) (hx : nm'[l.length]? = some x) (hkx : kd' x = some .local ∨ kd' x = some .cell)
    (hcx : ∀ c, cenv.cells.lookup x = some c → kd' x = some .cell → c ∈ own) (hn : n ≤ 1000)
    (st : CompSt G nm' kd' cenv l ρ₀ s₀ own D I it 0 [] ρ H s) (hgo : compGo (f l) it n 0 H = some (vs, Hend))
    (hR : ∀ ρ' s', Sim G ρ' Hend s' → Stp own ρ₀ ρ' s₀ s' → (∃ m, s'.heap.Ns cenv.locals m) → Off ρ' D → Off ρ' cenv.locals → (∃ ys k, All2 (VR ρ') vs ys ∧ s'.heap.get? D = some (listOf ys.toArray k)) → R (.ok .next) s') :
    codeAny (model G.prog G.w) A (.compLoop (.ListComp elt [⟨.Name x px, iter, ifs, 0⟩] sc pos) 0 (.ref I) (.ref D) cenv) R s := by
  refine codeAny_compLoop_tests (fun k s => ∃ n i done ρ H vs', k = n + 1 ∧ n ≤ 1000 ∧ done.length + n ≤ 1000 ∧ CompSt G nm' kd' cenv l ρ₀ s₀ own D I it i done ρ H s ∧ compGo (f l) it n i H = some (vs', Hend) ∧ done ++ vs' = vs) ?_ (n + 1)
    ⟨n, 0, [], ρ, H, vs, rfl, hn, by simpa using hn, st, hgo, rfl⟩
  rintro k s ⟨n, i, done, ρ, H, vs', rfl, hn, hlen, st, hgo, hvs⟩
  have freshI := ap.fresh I ap.hI
  have freshD := ap.fresh D ap.hD
  cases n with
  | zero =>
    simp only [compGo] at hgo
    split at hgo
    · rename_i hl
      cases hgo
      refine iter_end hA.handled st.sim st.itr hl fun h' tk hk => ?_
      obtain ⟨w, lc⟩ := st.lc
      obtain ⟨m, hns, _⟩ := lc.ns
      obtain ⟨ys, kk, hys, hD⟩ := st.acc
      refine hR ρ _ (st.sim.but st.offI ap.bI hk) (st.stp.tail freshI hk) ⟨m, hns.at' fun o e => hk _ o (Ne.symm ap.IC) e⟩ st.offD lc.offL ⟨ys, kk, ?_, hk _ _ ap.DI hD⟩
      rw [← hvs]; simpa using hys
    · cases hgo
  | succ n =>
    simp only [compGo] at hgo
    split at hgo
    · rename_i v hv
      split at hgo
      · rename_i r H1 ef
        split at hgo
        · rename_i vs1 H2 e2
          simp only [Option.some.injEq, Prod.mk.injEq] at hgo
          obtain ⟨hvs1, rfl⟩ := hgo
          refine iter_item st.sim st.itr hv fun val h1 tk1 hval hit1 hk1 hl1 => ?_
          obtain ⟨w, lc⟩ := st.lc
          have S1 : Sim G ρ H { s with heap := h1, toks := tk1 } := st.sim.but st.offI ap.bI hk1
          have lc1 : Lc G nm' kd' cenv ρ (l ++ [w]) { s with heap := h1, toks := tk1 } := lc.but hk1 ap.IC ap.Ic
          have stp1 : Stp own ρ₀ ρ s₀ { s with heap := h1, toks := tk1 } := st.stp.tail freshI hk1
          obtain ⟨ys, kk, hys, hD⟩ := st.acc
          have hD1 : h1.get? D = some (listOf ys.toArray kk) := hk1 _ _ ap.DI hD
          refine wpAny_assign_Name (store_sound lc1 S1 hx hkx hval fun s2 a ha S2 lc2 st2 => ?_)
          have ha' : a ∈ own ∧ a ≠ D ∧ a ≠ I := by
            rcases ha with rfl | ⟨hkc, hc⟩
            · exact ⟨ap.hC, Ne.symm ap.DC, Ne.symm ap.IC⟩
            · exact ⟨hcx a hc hkc, ap.Dc x a (.inl hkc) hc, ap.Ic x a (.inl hkc) hc⟩
          have hset : (l ++ [w]).set l.length (some v) = l ++ [some v] := by simp
          rw [hset] at lc2
          have stp2 : Stp own ρ₀ ρ s₀ s2 := stp1.trans (st2.own_mono (by intro b hb; rw [List.mem_singleton.mp hb]; exact ha'.1))
          have hD2 : s2.heap.get? D = some (listOf ys.toArray kk) := st2.keep D _ (by simpa using Ne.symm ha'.2.1) st.offD hD1
          have hit2 : IterAt ρ s2.heap I it (i + 1) := hit1.mono (List.prefix_refl _) fun q e => st2.keep I q (by simpa using Ne.symm ha'.2.2) st.offI e
          have stepOwn : ∀ {ρ' : RMap} {u u' : Shared} {ρ'' : RMap}, Stp [cenv.locals] ρ' ρ'' u u' → Stp own ρ' ρ'' u u' := fun x => x.own_mono (by intro b hb; rw [List.mem_singleton.mp hb]; exact ap.hC)
          refine wpAny_mono (T.run hA lc2 S2 ef) (fun ok s3 h3 => ?_) fun _ _ f => f.elim
          cases r with
          | none =>
            obtain ⟨rfl, ρ3, S3, st3, n3⟩ := h3
            simp only [Bool.false_eq_true, if_false]
            have liveD := st2.live D _ hD1
            refine ⟨n + 1, Nat.lt_succ_self _, n, i + 1, done, ρ3, H1, vs1, rfl, by first | assumption | exact Nat.le_of_lt ‹_› | exact Nat.lt_succ_of_lt ‹_› | exact Nat.ne_of_lt ‹_› | exact Nat.ne_of_gt ‹_› | exact Nat.le_trans ‹_› (by decide) | exact Nat.lt_of_lt_of_le ‹_› (by decide) | decide | omega, by first | assumption | exact Nat.le_of_lt ‹_› | exact Nat.lt_succ_of_lt ‹_› | exact Nat.ne_of_lt ‹_› | exact Nat.ne_of_gt ‹_› | exact Nat.le_trans ‹_› (by decide) | exact Nat.lt_of_lt_of_le ‹_› (by decide) | decide | omega, ⟨S3, ⟨some v, lc2.step st3 n3⟩, ⟨ys, kk, vrs_mono st3.pre hys, st3.keep D _ (by simpa using ap.DC) st.offD hD2⟩,
              hit2.mono st3.pre fun q e => st3.keep I q (by simpa using ap.IC) st.offI e, stp2.trans (stepOwn st3), st3.off st.offD hD2, ?_⟩, e2, by rw [← hvs, ← hvs1]⟩
            cases eI : s2.heap.get? I with
            | some o => exact st3.off st.offI eI
            | none =>
              obtain ⟨o, ho⟩ := hl1
              obtain ⟨o', ho'⟩ := st2.live I o ho
              rw [eI] at ho'; cases ho'
          | some y =>
            obtain ⟨rfl, ρ3, H3, S3, st3, n3, helt⟩ := h3
            simp only [if_true]
            refine wpAny_mono helt (fun z s4 h4 => ?_) fun _ _ f => f.elim
            obtain ⟨ρ4, r4, S4, st4, n4⟩ := h4
            have st34 := st3.trans st4
            have hD4 : s4.heap.get? D = some (listOf ys.toArray kk) := st34.keep D _ (by simpa using ap.DC) st.offD hD2
            have offD4 : Off ρ4 D := st34.off st.offD hD2
            have hI2 : ∃ o, s2.heap.get? I = some o := let ⟨o, ho⟩ := hl1; st2.live I o ho
            have offI4 : Off ρ4 I := let ⟨o, ho⟩ := hI2; st34.off st.offI ho
            have hyl := hys.length
            refine wpAny_list_append_plain (items := ys.toArray) ⟨kk, hD4⟩ (fun h5 hp5 hs5 => ?_) (by rw [sizeLine_eq]; simp; omega)
            have hk5 : ∀ b q, b ≠ D → s4.heap.get? b = some q → h5.get? b = some q := fun b q hb e => (hs5.2 b hb).trans e
            obtain ⟨k5, g5⟩ := hp5
            have lc4 := (lc2.step st34 (fun m h => n4 m (n3 m h)))
            refine ⟨n + 1, Nat.lt_succ_self _, n, i + 1, done ++ [y], ρ4, H1, vs1, rfl, by first | assumption | exact Nat.le_of_lt ‹_› | exact Nat.lt_succ_of_lt ‹_› | exact Nat.ne_of_lt ‹_› | exact Nat.ne_of_gt ‹_› | exact Nat.le_trans ‹_› (by decide) | exact Nat.lt_of_lt_of_le ‹_› (by decide) | decide | omega, by simp; omega, ⟨S4.but offD4 ap.bD hk5, ⟨some v, lc4.but hk5 ap.DC ap.Dc⟩,
              ⟨ys ++ [z], k5, (vrs_mono st34.pre hys).append (.cons r4 .nil), by simpa using g5⟩, ?_, (stp2.trans (stepOwn st34)).tail freshD hk5, offD4, offI4⟩, e2, by rw [← hvs, ← hvs1]; simp⟩
            exact (hit2.mono st34.pre fun q e => st34.keep I q (by simpa using ap.IC) st.offI e).mono (List.prefix_refl _) fun q e => hk5 I q (Ne.symm ap.DI) e
        · cases hgo
      · cases hgo
    · cases hgo
end
end Mz
end

section
open PySem PySem.W PyProof.Rows
set_option Elab.async false
set_option autoImplicit false

set_option tactic.hygienic false
namespace Mz
section
variable {G : Gd} {F : FnT} {d : Nat} {nm : List Str} {kd : Kd}

theorem block_cells {env : Env} {ρ : RMap} {l : Loc} {s : Shared} {sc : Scope} {x : Str} {h0 : Heap} (lc : Lc G nm kd env ρ l s) (hc : CompOk nm kd sc x) {y : Str} {c : Addr}
    (h : (cenvOf sc h0.objs.size env).cells.lookup y = some c) : ((y, NameKind.free) ∈ sc.names ∧ c < s.heap.objs.size) ∨ (h0.objs.size + 1 ≤ c ∧ (y, c) ∈ cellsFrom (h0.objs.size + 1) sc.names []) := by
  have hm := mem_of_lookup' h
  have hm' : (y, c) ∈ cellsFrom (h0.objs.size + 1) sc.names [] ++ clOf env sc.names [] := by
    rw [← cellsFrom_acc]; exact hm
  rcases List.mem_append.mp hm' with h1 | h1
  · have ok := cellsFrom_ok sc.names (h0.push { cls := .type "dict", data := .dict #[] }) (h0.objs.size + 1) [] ⟨fun _ _ hm => (nomatch hm), List.Pairwise.nil⟩ (by rw [Heap.size_push]; exact Nat.le_refl _)
    rw [Heap.size_push] at ok
    exact .inr ⟨(ok.empty y c h1).2, h1⟩
  · obtain ⟨h2, h3⟩ := clOf_mem env h1
    obtain ⟨c', g1, ⟨_, o, ho, _⟩, _⟩ := lc.cells y (hc.free _ h2 rfl)
    rw [g1] at h3
    simp only [Option.getD_some] at h3
    subst h3
    exact .inl ⟨h2, Heap.lt_size ho⟩

set_option tactic.hygienic true in
theorem comp_core {f : Loc → V → Hp → Option (Option V × Hp)} {ifs : List Expr} {elt iter : Expr} {x : Str} {px pos : Pos} {sc : Scope} {A : Around} {env : Env} {l : Loc} {ρ : RMap} {H H' : Hp} {s : Shared} {u v : V} {xval : Value}
    {RR : Value → Addr → Result → Shared → Prop} {E : Value → Shared → Prop} (hA : Ar A d) (T : TurnS G d (nm ++ [x]) (kdIn kd sc) f ifs elt) (hc : CompOk nm kd sc x) (lc : Lc G nm kd env ρ l s) (S : Sim G ρ H s) (hv : VR ρ u xval)
    (hev : compAll (f l) u H = some (v, H'))
    (hR : ∀ D C s' ρ' m, VR ρ' v (.ref D) → Sim G ρ' H' s' → Stp [] ρ ρ' s s' → s'.heap.Ns C m → Off ρ' C → s.heap.get? C = none → RR (.ref D) C (.ok .next) s') :
    wpAny (model G.prog G.w) A (pyIter xval) (fun itv s₂ => wpAny (model G.prog G.w) A (newList []) (fun acc s₃ =>
      wpAny (model G.prog G.w) A (newFunctionEnv sc env.globals (clOf env sc.names []) [] env.qual none .none (some env)) (fun cenv s₄ =>
        codeAny (model G.prog G.w) A (.compStart (.ListComp elt [⟨.Name x px, iter, ifs, 0⟩] sc pos) 0 itv acc { cenv with scope := relabel sc env }) (RR acc cenv.locals) s₄) E s₃) E s₂) E s := by
  unfold compAll at hev
  split at hev
  · rename_i it hit
    split at hev
    · rename_i n hn
      split at hev
      · rename_i hn1
        split at hev
        · rename_i vs Hend hgo
          simp only [Option.some.injEq, Prod.mk.injEq] at hev
          obtain ⟨rfl, rfl⟩ := hev
          refine iter_start S hv hit fun o hit0 => ?_
          refine wpAny_newObj_type ?_
          dsimp only
          generalize hh0 : (s.heap.push o).push { cls := .type "list", dict := none, data := .seq ([] : List Value).toArray } = h0
          have sz1 : (s.heap.push o).objs.size = s.heap.objs.size + 1 := Heap.size_push ..
          have sz0 : h0.objs.size = s.heap.objs.size + 1 + 1 := by rw [← hh0, Heap.size_push, sz1]
          have keep0 : ∀ b q, s.heap.get? b = some q → h0.get? b = some q := fun b q e => by rw [← hh0]; exact Heap.get?_push_of_some _ (Heap.get?_push_of_some _ e)
          refine new_block ?_
          generalize hs4 : ({ s with heap := pushCells (h0.push { cls := .type "dict", data := .dict #[] }) sc.names } : Shared) = s4
          have hs4h : s4.heap = pushCells (h0.push { cls := .type "dict", data := .dict #[] }) sc.names := by rw [← hs4]
          have keep4 : ∀ b q, h0.get? b = some q → s4.heap.get? b = some q := fun b q e => by rw [hs4h]; exact pushCells_keeps _ _ b q (Heap.get?_push_of_some _ e)
          have hle : s.heap.objs.size ≤ h0.objs.size := by rw [sz0]; exact Nat.le_trans (Nat.le_succ _) (Nat.le_succ _)
          have hlc := block_lc (s' := s4) lc S hc keep0 hs4h hle
          have fresh : ∀ a : Addr, s.heap.objs.size ≤ a → s.heap.get? a = none := by
            intro a ha
            cases e : s.heap.get? a with
            | none => rfl
            | some o => exact absurd (Heap.lt_size e) (Nat.not_lt.mpr ha)
          have offF : ∀ a : Addr, s.heap.get? a = none → Off ρ a := by
            intro a ha p hp
            obtain ⟨⟨o1, e1⟩, ⟨o2, e2⟩⟩ := S.rep.live hp
            exact ⟨fun e => (by rw [e, ha] at e1; cases e1), fun e => (by rw [e, ha] at e2; cases e2)⟩
          have fI := fresh s.heap.objs.size (Nat.le_refl _)
          have fD := fresh (s.heap.push o).objs.size (by rw [sz1]; exact Nat.le_succ _)
          have fC := fresh h0.objs.size hle
          have hkeep : ∀ b q, s.heap.get? b = some q → s4.heap.get? b = some q := fun b q e => keep4 b q (keep0 b q e)
          obtain ⟨S4, st4⟩ := grow (h' := s4.heap) (tk := s.toks) S hkeep
          have es4 : ({ s with heap := s4.heap, toks := s.toks } : Shared) = s4 := by rw [← hs4]
          rw [es4] at S4 st4
          let own : List Addr := h0.objs.size :: (s.heap.push o).objs.size :: s.heap.objs.size :: (cellsFrom (h0.objs.size + 1) sc.names []).map (·.2)
          have ok := cellsFrom_ok sc.names (h0.push { cls := .type "dict", data := .dict #[] }) (h0.objs.size + 1) [] ⟨fun _ _ hm => (nomatch hm), List.Pairwise.nil⟩ (by rw [Heap.size_push]; exact Nat.le_refl _)
          rw [Heap.size_push] at ok
          have hfresh : ∀ a ∈ own, s.heap.get? a = none := by
            intro a ha
            rcases List.mem_cons.mp ha with rfl | ha
            · exact fC
            rcases List.mem_cons.mp ha with rfl | ha
            · exact fD
            rcases List.mem_cons.mp ha with rfl | ha
            · exact fI
            obtain ⟨⟨y, c⟩, hm, rfl⟩ := List.mem_map.mp ha
            exact fresh c (Nat.le_trans hle (Nat.le_of_succ_le (ok.empty y c hm).2))
          have hDobj : s4.heap.get? (s.heap.push o).objs.size = some (listOf ([] : List Value).toArray 0) := keep4 _ _ (by rw [← hh0]; exact Heap.get?_push_size _ rfl)
          have hIobj : ∀ q, (s.heap.push o).get? s.heap.objs.size = some q → s4.heap.get? s.heap.objs.size = some q := fun q e => keep4 _ _ (by rw [← hh0]; exact Heap.get?_push_of_some _ e)
          have hcellNe : ∀ y c, (cenvOf sc h0.objs.size env).cells.lookup y = some c → c ≠ (s.heap.push o).objs.size ∧ c ≠ s.heap.objs.size := by
            intro y c h
            rcases block_cells lc hc h with ⟨_, h1⟩ | ⟨h1, _⟩
            · exact ⟨Nat.ne_of_lt (by rw [sz1]; exact Nat.lt_succ_of_lt h1), Nat.ne_of_lt h1⟩
            · rw [sz0] at h1
              exact ⟨Nat.ne_of_gt (by rw [sz1]; exact Nat.lt_of_lt_of_le (Nat.lt_succ_self _) (Nat.le_of_succ_le h1)), Nat.ne_of_gt (Nat.lt_of_lt_of_le (Nat.lt_succ_of_lt (Nat.lt_succ_self _)) (Nat.le_of_succ_le h1))⟩
          have ap : Apart G (kdIn kd sc) (cenvOf sc h0.objs.size env) s own (s.heap.push o).objs.size s.heap.objs.size :=
            { fresh := hfresh
              hD := by simp [own]
              hI := by simp [own]
              hC := by simp [own, cenvOf]
              DI := by rw [sz1]; exact Nat.succ_ne_self _
              DC := by show (s.heap.push o).objs.size ≠ h0.objs.size; rw [sz1, sz0]; exact Nat.ne_of_lt (Nat.lt_succ_self _)
              IC := by show s.heap.objs.size ≠ h0.objs.size; rw [sz0]; exact Nat.ne_of_lt (Nat.lt_succ_of_lt (Nat.lt_succ_self _))
              Dc := fun y c _ h => (hcellNe y c h).1
              Ic := fun y c _ h => (hcellNe y c h).2
              bD := off_base S fD
              bI := off_base S fI }
          have hself : kdIn kd sc x = some .local ∨ kdIn kd sc x = some .cell := by
            rw [kdIn_eq]
            rcases hc.self with h | h
            · left; rw [h]; rfl
            · right; rw [h]; rfl
          have hcx : ∀ c, (cenvOf sc h0.objs.size env).cells.lookup x = some c → kdIn kd sc x = some .cell → c ∈ own := by
            intro c h _
            rcases block_cells lc hc h with ⟨h1, _⟩ | ⟨_, h1⟩
            · have := lookup_of_nodup hc.keys h1
              rcases hc.self with h2 | h2 <;> (rw [this] at h2; cases h2)
            · exact List.mem_cons_of_mem _ (List.mem_cons_of_mem _ (List.mem_cons_of_mem _ (List.mem_map.mpr ⟨_, h1, rfl⟩)))
          have itr4 : IterAt ρ s4.heap s.heap.objs.size it 0 := hit0.mono (List.prefix_refl _) hIobj
          have init : CompSt G (nm ++ [x]) (kdIn kd sc) (cenvOf sc h0.objs.size env) l ρ s own (s.heap.push o).objs.size s.heap.objs.size it 0 [] ρ H s4 :=
            ⟨S4, ⟨none, hlc⟩, ⟨[], 0, .nil, hDobj⟩, itr4, st4.own_mono (by simp), offF _ fD, offF _ fI⟩
          have loop : codeAny (model G.prog G.w) A (.compLoop (.ListComp elt [⟨.Name x px, iter, ifs, 0⟩] sc pos) 0 (.ref s.heap.objs.size) (.ref (s.heap.push o).objs.size) (cenvOf sc h0.objs.size env)) (RR (.ref (s.heap.push o).objs.size) h0.objs.size) s4 := by
            refine comp_loop hA T ap (by rw [lc.len]; simp) hself hcx hn1 init hgo fun ρ' s' S' stp' hns' offD' offC' hacc' => ?_
            obtain ⟨m, hns'⟩ := hns'
            obtain ⟨ys, k, hys, hD'⟩ := hacc'
            have hpre : ρ' <+: ρ' ++ [((s.heap.push o).objs.size, (s.heap.push o).objs.size)] := ⟨_, rfl⟩
            obtain ⟨S5, r5⟩ := adopt (p := ((s.heap.push o).objs.size, (s.heap.push o).objs.size)) (o := .list vs) S' offD' offD' ⟨rfl, off_base S fD, ys, k, vrs_mono hpre hys, hD'⟩
            have stp0 : Stp [] ρ ρ' s s' := stp'.drop_own [] fun a ha => .inr (hfresh a ha)
            have stp5 : Stp [] ρ (ρ' ++ [((s.heap.push o).objs.size, (s.heap.push o).objs.size)]) s s' := by
              refine ⟨stp0.st, stp0.pre.trans hpre, fun p hp => ?_, stp0.keep, stp0.live⟩
              have hle' : ρ.length ≤ ρ'.length := stp0.pre.length_le
              rw [List.drop_append_of_le_length hle'] at hp
              rcases List.mem_append.mp hp with h | h
              · exact stp0.new p h
              · rw [List.mem_singleton.mp h]; exact ⟨fD, fD⟩
            have offC5 : Off (ρ' ++ [((s.heap.push o).objs.size, (s.heap.push o).objs.size)]) h0.objs.size := by
              intro p hp
              rcases List.mem_append.mp hp with h | h
              · exact offC' p h
              · rw [List.mem_singleton.mp h]
                have : (s.heap.push o).objs.size ≠ h0.objs.size := ap.DC
                exact ⟨this, this⟩
            exact hR _ _ s' _ m r5 S5 stp5 hns' offC5 fC
          exact codeAny_compStart_list loop (iter_self itr4 loop)
        · cases hev
      · cases hev
    · cases hev
  · cases hev

theorem noSet {e : X} {ex : Expr} (h : cX G e nm kd ex = true) (env : Env) (v : Value) : foldedSetIterable ex env v = pure v := by
  have h := cX_ok h
  cases ex <;> first | rfl | exact (Bool.false_ne_true h).elim

theorem comp_names {sc : Scope} {x : Str} (hc : CompOk nm kd sc x) : ∀ y ∈ sc.names, y.2 = .local → sc.names.lookup y.1 = some .local := by
  rintro ⟨y, k⟩ hy hk
  have hk' : k = .local := hk
  subst hk'
  exact lookup_of_nodup hc.keys hy

theorem comp_closure {env : Env} {ρ : RMap} {l : Loc} {s : Shared} {sc : Scope} {x : Str} (lc : Lc G nm kd env ρ l s) (hc : CompOk nm kd sc x) : closureFor sc env = pure (clOf env sc.names []) :=
  closureFor_clOf fun p hp hk => let ⟨c, h, _⟩ := lc.cells p.1 (hc.free p hp hk); ⟨c, h⟩

theorem comp_eval {f : Loc → V → Hp → Option (Option V × Hp)} {ifs : List Expr} {elt iter : Expr} {e : X} {x : Str} {px pos : Pos} {sc : Scope} {A : Around} {env : Env} {l : Loc} {ρ : RMap} {H H1 H' : Hp} {s : Shared} {u v : V}
    (hA : Ar A d) (T : TurnS G d (nm ++ [x]) (kdIn kd sc) f ifs elt) (hc : CompOk nm kd sc x) (hi : cX G e nm kd iter = true) (hie : SndX G F d nm kd e iter) (lc : Lc G nm kd env ρ l s) (S : Sim G ρ H s)
    (he : ev G.T F e l H = some (u, H1)) (hev : compAll (f l) u H1 = some (v, H')) :
    wpAny (model G.prog G.w) A (eval (.ListComp elt [⟨.Name x px, iter, ifs, 0⟩] sc pos) env) (Done G env.locals ρ s v H') (fun _ _ => False) s := by
  rw [eval_ListComp]
  refine wpAny_comprehension_free (use := none) rfl (noSet hi env) (comp_closure lc hc) hc.kind (comp_names hc) (hie.1.use hA lc S he fun xv s1 ρ1 r1 S1 st1 n1 lc1 => ?_)
  refine comp_core (RR := fun acc C => compPost (model G.prog G.w) A (fun _ _ => False) none (Done G env.locals ρ s v H') acc C) hA T hc lc1 S1 r1 hev fun D C s' ρ' m hD S' st' hns hoffC hfC => ?_
  refine ⟨m, hns, fun h' hs => ?_⟩
  have hk : ∀ b q, b ≠ C → s'.heap.get? b = some q → h'.get? b = some q := fun b q hb e => (hs.2 b hb).trans e
  exact (Done.of lc1.offL hD (S'.but (tk := s'.toks) hoffC (off_base S1 hfC) hk) (st'.tail hfC hk)).after st1 n1

theorem comp_store {f : Loc → V → Hp → Option (Option V × Hp)} {ifs : List Expr} {elt iter : Expr} {e : X} {x y : Str} {px py pos : Pos} {sc : Scope} {A : Around} {env : Env} {l : Loc} {ρ : RMap} {H H1 H' : Hp} {s : Shared} {u v : V} {i : Nat}
    {Q : Shared → Prop} (hA : Ar A d) (T : TurnS G d (nm ++ [x]) (kdIn kd sc) f ifs elt) (hc : CompOk nm kd sc x) (hi : cX G e nm kd iter = true) (hie : SndX G F d nm kd e iter) (lc : Lc G nm kd env ρ l s) (S : Sim G ρ H s)
    (he : ev G.T F e l H = some (u, H1)) (hev : compAll (f l) u H1 = some (v, H')) (hy : nm[i]? = some y) (hky : kd y = some .local ∨ kd y = some .cell)
    (hQ : ∀ s' ρ' a, (a = env.locals ∨ (kd y = some .cell ∧ env.cells.lookup y = some a)) → Sim G ρ' H' s' → Lc G nm kd env ρ' (l.set i (some v)) s' → Stp [env.locals, a] ρ ρ' s s' → Q s') :
    wpAny (model G.prog G.w) A (comprehension (.ListComp elt [⟨.Name x px, iter, ifs, 0⟩] sc pos) sc env (firstIterPos [⟨.Name x px, iter, ifs, 0⟩] pos) (newList []) (firstAsync [⟨.Name x px, iter, ifs, 0⟩]) (firstIter [⟨.Name x px, iter, ifs, 0⟩] env) (some (assign (.Name y py) env)))
      (fun _ s' => Q s') (fun _ _ => False) s := by
  refine wpAny_comprehension_free (use := some (assign (.Name y py) env)) (Q := fun _ s' => Q s') rfl (noSet hi env) (comp_closure lc hc) hc.kind (comp_names hc) (hie.1.use hA lc S he fun xv s1 ρ1 r1 S1 st1 n1 lc1 => ?_)
  refine comp_core (RR := fun acc C => compPost (model G.prog G.w) A (fun _ _ => False) (some (assign (.Name y py) env)) (fun _ s' => Q s') acc C) hA T hc lc1 S1 r1 hev fun D C s' ρ' m hD S' st' hns hoffC hfC => ?_
  show wpAny _ A (assign (.Name y py) env (.ref D)) _ _ s'
  have lc' := lc1.step (st'.own_mono (by simp)) (st'.nsOf lc1.offL)
  refine wpAny_assign_Name (store_sound lc' S' hy hky hD fun s2 a ha S2 lc2 st2 => ?_)
  have haC : a ≠ C ∧ env.locals ≠ C := by
    have hL1 : ∃ o, s1.heap.get? env.locals = some o := let ⟨m, hn, _⟩ := lc1.ns; Heap.Ns_frame hn
    obtain ⟨o, ho⟩ := hL1
    have h2 : env.locals ≠ C := fun e => by rw [e, hfC] at ho; cases ho
    rcases ha with rfl | ⟨hkc, hcl⟩
    · exact ⟨h2, h2⟩
    · obtain ⟨c, g1, ⟨_, oc, hoc, _⟩, _⟩ := lc1.cells y (.inl hkc)
      rw [hcl] at g1; cases g1
      exact ⟨fun e => (by rw [e, hfC] at hoc; cases hoc), h2⟩
  have hns2 : s2.heap.Ns C m := hns.at' fun o e => st2.keep C o (by simpa using Ne.symm haC.1) hoffC e
  refine ⟨m, hns2, fun h' hs => ?_⟩
  have hk : ∀ b q, b ≠ C → s2.heap.get? b = some q → h'.get? b = some q := fun b q hb e => (hs.2 b hb).trans e
  refine hQ { s2 with heap := h' } ρ' a ha (S2.but (tk := s2.toks) hoffC (off_base S1 hfC) hk) (lc2.but hk (Ne.symm haC.2) fun z c hz hcz => ?_) ?_
  · obtain ⟨c', g1, ⟨_, oc, hoc, _⟩, _⟩ := lc1.cells z hz
    rw [hcz] at g1; cases g1
    exact fun e => by rw [e, hfC] at hoc; cases hoc
  · have t1 : Stp [env.locals, a] ρ ρ1 s s1 := st1.own_mono (by simp)
    have t2 : Stp [env.locals, a] ρ1 ρ' s1 s' := st'.own_mono (by simp)
    have t3 : Stp [env.locals, a] ρ' ρ' s' s2 := st2.own_mono (by simp)
    have t4 : Stp [env.locals, a] ρ1 ρ' s1 { s2 with heap := h' } := (t2.trans t3).tail (tk := s2.toks) hfC hk
    exact t1.trans t4
end
end Mz
end

section
open PySem PySem.W PyProof.Rows
set_option Elab.async false
set_option autoImplicit false

set_option tactic.hygienic false
namespace Mz
section
variable {G : Gd} {F : FnT} {d : Nat}

set_option tactic.hygienic true in
theorem turn_comp {nm' : List Str} {kd' : Kd} {e : X} {elt : Expr} (he : SndX G F d nm' kd' e elt) :
    TurnS G d nm' kd' (fun l v h => match ev G.T F e (l ++ [some v]) h with | some (r, h') => some (some r, h') | none => none) [] elt := by
  refine ⟨fun {A env ρ l H s v r H'} hA lc S hev => ?_⟩
  try dsimp only at hev
  split at hev
  · rename_i y h' e1
    cases hev
    refine wpAny_pure (a := true) ⟨rfl, ρ, H, S, .refl _ _ _, fun _ h => h, ?_⟩
    exact he.1.run hA lc S e1
  · cases hev

set_option tactic.hygienic true in
theorem turn_compIf {nm' : List Str} {kd' : Kd} {e c : X} {elt t : Expr} (he : SndX G F d nm' kd' e elt) (hc : SndX G F d nm' kd' c t) :
    TurnS G d nm' kd' (fun l v h => match ev G.T F c (l ++ [some v]) h with
        | some (t, h') => match truthy t with
          | some true => match ev G.T F e (l ++ [some v]) h' with
            | some (r, h'') => some (some r, h'')
            | none => none
          | some false => some (none, h')
          | none => none
        | none => none) [t] elt := by
  refine ⟨fun {A env ρ l H s v r H'} hA lc S hev => ?_⟩
  try dsimp only at hev
  split at hev
  · rename_i tv h1 e1
    have one : ∀ {Q : Bool → Shared → Prop} {E : Value → Shared → Prop}, wpAny (model G.prog G.w) A (PySem.isTrue t env (eval t env)) Q E s → wpAny (model G.prog G.w) A (testsOf [t] env) Q E s := by
      intro Q E h
      unfold testsOf
      rw [List.forIn_cons]
      refine wpAny_bind ?_
      simp only [if_true]
      exact wpAny_bind (wpAny_mono h (fun b s' hb => wpAny_pure (wpAny_pure hb)) fun _ _ e => e)
    split at hev
    · rename_i ht
      split at hev
      · rename_i y h2 e2
        cases hev
        refine one (hc.2.use hA lc S e1 ht fun s1 ρ1 S1 st1 n1 lc1 => ?_)
        exact ⟨rfl, ρ1, h1, S1, st1, n1, he.1.run hA lc1 S1 e2⟩
      · cases hev
    · rename_i ht
      cases hev
      refine one (hc.2.use hA lc S e1 ht fun s1 ρ1 S1 st1 n1 lc1 => ?_)
      exact ⟨rfl, ρ1, S1, st1, n1⟩
    · cases hev
  · cases hev

theorem lit_one {c : Const} (h : litOk c (.int 1) = true) : c = .int 1 := by
  cases c <;> first | exact (Bool.false_ne_true h).elim | exact congrArg Const.int (eq_of_beq h)
theorem ev_comp_inv {T : Tab} {F : FnT} {e it : X} {l : Loc} {H H' : Hp} {v : V} (h : ev T F (.comp e it) l H = some (v, H')) :
    ∃ u H1, ev T F it l H = some (u, H1) ∧ compAll (fun v h => match ev T F e (l ++ [some v]) h with
        | some (r, h') => some (some r, h')
        | none => none) u H1 = some (v, H') := by
  simp only [evlit, evloc, evbin, evneg, evinv, evnot, evand, evor, evcmp, evcmp2, evmem, evite, evcall, evnew, evmeth, evlen, evlistOf, evsorted, evrng1, evrng2, evrng3, evappend, evcount, evattr, evidx, evslTo, evslFrom, evslBt, evrev, evlist, evtup, evcomp, evcompIf] at h
  split at h
  · exact ⟨_, _, by assumption, h⟩
  · cases h
theorem ev_compIf_inv {T : Tab} {F : FnT} {e it c : X} {l : Loc} {H H' : Hp} {v : V} (h : ev T F (.compIf e it c) l H = some (v, H')) :
    ∃ u H1, ev T F it l H = some (u, H1) ∧ compAll (fun v h => match ev T F c (l ++ [some v]) h with
        | some (t, h') => match truthy t with
          | some true => match ev T F e (l ++ [some v]) h' with
            | some (r, h'') => some (some r, h'')
            | none => none
          | some false => some (none, h')
          | none => none
        | none => none) u H1 = some (v, H') := by
  simp only [evlit, evloc, evbin, evneg, evinv, evnot, evand, evor, evcmp, evcmp2, evmem, evite, evcall, evnew, evmeth, evlen, evlistOf, evsorted, evrng1, evrng2, evrng3, evappend, evcount, evattr, evidx, evslTo, evslFrom, evslBt, evrev, evlist, evtup, evcomp, evcompIf] at h
  split at h
  · exact ⟨_, _, by assumption, h⟩
  · cases h

mutual
theorem ev_sound (O : G.Ok) (hF : FnS G F d) : ∀ (e : X) (nm : List Str) (kd : Kd) (ex : Expr), cX G e nm kd ex = true → SndX G F d nm kd e ex
  | .lit v, nm, kd, ex, h => snd_lit O h
  | .loc i, nm, kd, ex, h => snd_loc h
  | .bin op a b, nm, kd, ex, h => by
    refine ((vBin_e h)) _ ?_
    intro l o r p h'
    refine and3e h' ?_
    intro h1 h2 h3
    exact snd_bin (eq_of_beq h1) (ev_sound O hF a nm kd _ h2) (ev_sound O hF b nm kd _ h3)
  | .neg a, nm, kd, ex, h => by
    refine ((vUn_e h)) _ ?_
    intro u x p h'
    refine and2e h' ?_
    intro h1 h2
    obtain rfl := eq_of_beq h1
    exact snd_neg (ev_sound O hF a nm kd _ h2)
  | .inv a, nm, kd, ex, h => by
    refine ((vUn_e h)) _ ?_
    intro u x p h'
    refine and2e h' ?_
    intro h1 h2
    obtain rfl := eq_of_beq h1
    exact snd_inv (ev_sound O hF a nm kd _ h2)
  | .not a, nm, kd, ex, h => by
    refine ((vUn_e h)) _ ?_
    intro u x p h'
    refine and2e h' ?_
    intro h1 h2
    obtain rfl := eq_of_beq h1
    exact snd_not (ev_sound O hF a nm kd _ h2)
  | .and a b, nm, kd, ex, h => by
    refine ((vBool_e h)) _ ?_
    intro o vs p h'
    refine and2e h' ?_
    intro h1 h''
    obtain rfl := eq_of_beq h1
    obtain ⟨x, y, r, rfl, h'''⟩ := l2r_of h''
    refine and2e h''' ?_
    intro h2 h3
    have hb : SndX G F d nm kd b (if r.isEmpty then y else .BoolOp .And (y :: r) p) := ev_sound O hF b nm kd _ h3
    exact snd_and (ev_sound O hF a nm kd _ h2) hb.1 hb.2
  | .or a b, nm, kd, ex, h => by
    refine ((vBool_e h)) _ ?_
    intro o vs p h'
    refine and2e h' ?_
    intro h1 h''
    obtain rfl := eq_of_beq h1
    obtain ⟨x, y, r, rfl, h'''⟩ := l2r_of h''
    refine and2e h''' ?_
    intro h2 h3
    have hb : SndX G F d nm kd b (if r.isEmpty then y else .BoolOp .Or (y :: r) p) := ev_sound O hF b nm kd _ h3
    exact snd_or (ev_sound O hF a nm kd _ h2) hb.1 hb.2
  | .cmp op a b, nm, kd, ex, h => by
    refine ((vCmp_e h)) _ ?_
    intro l os rs p h'
    obtain ⟨o, rfl, h''⟩ := l1_of h'
    obtain ⟨r, rfl, h'''⟩ := l1_of h''
    refine and3e h''' ?_
    intro h1 h2 h3
    exact snd_cmp (eq_of_beq h1) (ev_sound O hF a nm kd _ h2) (ev_sound O hF b nm kd _ h3)
  | .cmp2 o1 o2 a b c, nm, kd, ex, h => by
    refine ((vCmp_e h)) _ ?_
    intro l os rs p h'
    obtain ⟨p1, p2, rfl, h''⟩ := l2_of h'
    obtain ⟨m, r, rfl, h'''⟩ := l2_of h''
    refine and5e h''' ?_
    intro h1 h2 h3 h4 h5
    exact snd_cmp2 (eq_of_beq h1) (eq_of_beq h2) (ev_sound O hF a nm kd _ h3) (ev_sound O hF b nm kd _ h4) (ev_sound O hF c nm kd _ h5)
  | .mem p a ks, nm, kd, ex, h => by
    refine ((vCmp_e h)) _ ?_
    intro l os rs q h'
    obtain ⟨o, rfl, h''⟩ := l1_of h'
    obtain ⟨r, rfl, h'''⟩ := l1_of h''
    obtain ⟨es, k, q2, rfl, h''''⟩ := vTup_of h'''
    refine and4e h'''' ?_
    intro h1 h2 h3 h4
    exact snd_mem (eq_of_beq h1) (ev_sound O hF a nm kd _ h2) (eq_of_beq h3) (of_decide_eq_true h4)
  | .ite c a b, nm, kd, ex, h => by
    refine ((vIfX_e h)) _ ?_
    intro t x y p h'
    refine and3e h' ?_
    intro h1 h2 h3
    exact snd_ite (ev_sound O hF c nm kd _ h1) (ev_sound O hF a nm kd _ h2) (ev_sound O hF b nm kd _ h3)
  | .call f as, nm, kd, ex, h => by
    refine ((vCall_e h)) _ ?_
    intro g args p h'
    obtain ⟨x, q, rfl, h''⟩ := vName_of h'
    refine and4e h'' ?_
    intro h1 h2 h3 h4
    exact snd_call O hF (eq_of_beq h1) (eq_of_beq h2) (not_true h3) (evs_sound O hF as nm kd _ h4)
  | .new c as, nm, kd, ex, h => by
    refine ((vCall_e h)) _ ?_
    intro g args p h'
    obtain ⟨x, q, rfl, h''⟩ := vName_of h'
    refine and4e h'' ?_
    intro h1 h2 h3 h4
    exact snd_new O hF (eq_of_beq h1) (eq_of_beq h2) (not_true h3) (evs_sound O hF as nm kd _ h4)
  | .meth o m as, nm, kd, ex, h => by
    refine ((vCall_e h)) _ ?_
    intro g args p h'
    obtain ⟨oe, y, ap, rfl, h''⟩ := vAttr_of h'
    refine and6e h'' ?_
    intro h1 h2 h3 h4 h5 h6
    exact snd_meth O hF h1 h3 (of_decide_eq_true h4) (eq_of_beq h2) (ev_sound O hF o nm kd _ h5) (evs_sound O hF as nm kd _ h6)
  | .len a, nm, kd, ex, h => by
    refine ((vCall_e h)) _ ?_
    intro g args p h'
    obtain ⟨x, q, rfl, h''⟩ := vName_of h'
    obtain ⟨r, rfl, h'''⟩ := l1_of h''
    refine and3e h''' ?_
    intro h1 h2 h3
    obtain rfl := eq_of_beq h1
    exact snd_len O (eq_of_beq h2) h3 (ev_sound O hF a nm kd _ h3)
  | .listOf a, nm, kd, ex, h => by
    refine ((vCall_e h)) _ ?_
    intro g args p h'
    obtain ⟨x, q, rfl, h''⟩ := vName_of h'
    obtain ⟨r, rfl, h'''⟩ := l1_of h''
    refine and3e h''' ?_
    intro h1 h2 h3
    obtain rfl := eq_of_beq h1
    exact snd_listOf O (eq_of_beq h2) h3 (ev_sound O hF a nm kd _ h3)
  | .sorted a, nm, kd, ex, h => by
    refine ((vCall_e h)) _ ?_
    intro g args p h'
    obtain ⟨x, q, rfl, h''⟩ := vName_of h'
    obtain ⟨r, rfl, h'''⟩ := l1_of h''
    refine and3e h''' ?_
    intro h1 h2 h3
    obtain rfl := eq_of_beq h1
    exact snd_sorted O (eq_of_beq h2) h3 (ev_sound O hF a nm kd _ h3)
  | .rng1 a, nm, kd, ex, h => by
    refine ((vCall_e h)) _ ?_
    intro g args p h'
    obtain ⟨x, q, rfl, h''⟩ := vName_of h'
    obtain ⟨r, rfl, h'''⟩ := l1_of h''
    refine and3e h''' ?_
    intro h1 h2 h3
    obtain rfl := eq_of_beq h1
    exact snd_rng1 O (eq_of_beq h2) h3 (ev_sound O hF a nm kd _ h3)
  | .rng2 a b, nm, kd, ex, h => by
    refine ((vCall_e h)) _ ?_
    intro g args p h'
    obtain ⟨x, q, rfl, h''⟩ := vName_of h'
    obtain ⟨r, t, rfl, h'''⟩ := l2_of h''
    refine and4e h''' ?_
    intro h1 h2 h3 h4
    obtain rfl := eq_of_beq h1
    exact snd_rng2 O (eq_of_beq h2) h3 (ev_sound O hF a nm kd _ h3) h4 (ev_sound O hF b nm kd _ h4)
  | .rng3 a b c, nm, kd, ex, h => by
    refine ((vCall_e h)) _ ?_
    intro g args p h'
    obtain ⟨x, q, rfl, h''⟩ := vName_of h'
    obtain ⟨r, t, u, rfl, h'''⟩ := l3_of h''
    refine and5e h''' ?_
    intro h1 h2 h3 h4 h5
    obtain rfl := eq_of_beq h1
    exact snd_rng3 O (eq_of_beq h2) h3 (ev_sound O hF a nm kd _ h3) h4 (ev_sound O hF b nm kd _ h4) h5 (ev_sound O hF c nm kd _ h5)
  | .append a b, nm, kd, ex, h => by
    refine ((vCall_e h)) _ ?_
    intro g args p h'
    obtain ⟨oe, y, ap, rfl, h''⟩ := vAttr_of h'
    obtain ⟨r, rfl, h'''⟩ := l1_of h''
    refine and5e h''' ?_
    intro h1 h2 h3 h4 h5
    obtain rfl := eq_of_beq h1
    exact snd_append h2 h3 (ev_sound O hF a nm kd _ h4) h5 (ev_sound O hF b nm kd _ h5)
  | .count a b, nm, kd, ex, h => by
    refine ((vCall_e h)) _ ?_
    intro g args p h'
    obtain ⟨oe, y, ap, rfl, h''⟩ := vAttr_of h'
    obtain ⟨r, rfl, h'''⟩ := l1_of h''
    refine and5e h''' ?_
    intro h1 h2 h3 h4 h5
    obtain rfl := eq_of_beq h1
    exact snd_count h2 h3 (ev_sound O hF a nm kd _ h4) h5 (ev_sound O hF b nm kd _ h5)
  | .attr o a, nm, kd, ex, h => by
    refine ((vAttr_e h)) _ ?_
    intro oe y ap h'
    refine and4e h' ?_
    intro h1 h2 h3 h4
    exact snd_attr O h1 (eq_of_beq h2) h3 (ev_sound O hF o nm kd _ h4)
  | .idx o i, nm, kd, ex, h => by
    refine ((vSub_e h)) _ ?_
    intro oe ie p h'
    refine and2e h' ?_
    intro h1 h2
    exact snd_idx (ev_sound O hF o nm kd _ h1) (ev_sound O hF i nm kd _ h2) h2
  | .slTo o b, nm, kd, ex, h => by
    refine ((vSub_e h)) _ ?_
    intro oe sl p h'
    obtain ⟨l, u, t, q, rfl, h''⟩ := vSlice_of h'
    refine and3e h'' ?_
    intro h1 h2 h3
    obtain rfl := Option.isNone_iff_eq_none.mp h1
    obtain rfl := Option.isNone_iff_eq_none.mp h2
    obtain ⟨be, rfl, h'''⟩ := oS_of h3
    refine and2e h''' ?_
    intro h1 h2
    exact snd_slTo (ev_sound O hF o nm kd _ h1) (ev_sound O hF b nm kd _ h2)
  | .slFrom o a, nm, kd, ex, h => by
    refine ((vSub_e h)) _ ?_
    intro oe sl p h'
    obtain ⟨l, u, t, q, rfl, h''⟩ := vSlice_of h'
    refine and3e h'' ?_
    intro h1 h2 h3
    obtain rfl := Option.isNone_iff_eq_none.mp h1
    obtain rfl := Option.isNone_iff_eq_none.mp h2
    obtain ⟨ae, rfl, h'''⟩ := oS_of h3
    refine and2e h''' ?_
    intro h1 h2
    exact snd_slFrom (ev_sound O hF o nm kd _ h1) (ev_sound O hF a nm kd _ h2)
  | .slBt o a b, nm, kd, ex, h => by
    refine ((vSub_e h)) _ ?_
    intro oe sl p h'
    obtain ⟨l, u, t, q, rfl, h''⟩ := vSlice_of h'
    refine and2e h'' ?_
    intro h1 h'''
    obtain rfl := Option.isNone_iff_eq_none.mp h1
    obtain ⟨ae, rfl, h''''⟩ := oS_of h'''
    obtain ⟨be, rfl, h'''''⟩ := oS_of h''''
    refine and3e h''''' ?_
    intro h1 h2 h3
    exact snd_slBt (ev_sound O hF o nm kd _ h1) (ev_sound O hF a nm kd _ h2) (ev_sound O hF b nm kd _ h3)
  | .rev o, nm, kd, ex, h => by
    refine ((vSub_e h)) _ ?_
    intro oe sl p h'
    obtain ⟨l, u, t, q, rfl, h''⟩ := vSlice_of h'
    refine and4e h'' ?_
    intro h1 h2 h3 h4
    obtain ⟨te, rfl, h5⟩ := oS_of h3
    obtain ⟨n, y, q2, rfl, h6⟩ := vUn_of h5
    refine and2e h6 ?_
    intro h7 h8
    obtain ⟨c, k, q3, rfl, h9⟩ := vConst_of h8
    obtain rfl := Option.isNone_iff_eq_none.mp h1
    obtain rfl := Option.isNone_iff_eq_none.mp h2
    obtain rfl := eq_of_beq h7
    obtain rfl := lit_one h9
    exact snd_rev (ev_sound O hF o nm kd _ h4)
  | .list es, nm, kd, ex, h => by
    refine ((vList_e h)) _ ?_
    intro el p h'
    refine and2e h' ?_
    intro h1 h2
    have h2 := of_decide_eq_true h2
    exact snd_list (evs_sound O hF es nm kd _ h1) h2 fun {l H vs H'} he => by rw [evs_len he, cXs_len h1]; exact h2
  | .tup es, nm, kd, ex, h => by
    refine ((vTup_e h)) _ ?_
    intro el k p h'
    refine and2e h' ?_
    intro h1 h2
    have h2 := of_decide_eq_true h2
    exact snd_tup (evs_sound O hF es nm kd _ h1) fun {l H vs H'} he => by rw [evs_len he, cXs_len h1]; exact h2
  | .comp e it, nm, kd, ex, h => by
    refine ((vLC_e h)) _ ?_
    intro elt gs sc p h'
    obtain ⟨g, rfl, h''⟩ := l1_of h'
    obtain ⟨x, q, iter, fs, rfl, h'''⟩ := vGen_of h''
    refine and4e h''' ?_
    intro h1 h2 h3 h4
    obtain rfl := List.isEmpty_iff.mp h1
    have T := turn_comp (ev_sound O hF e _ _ _ h4)
    refine .plain ⟨fun {A env ρ l H s v' H'} hA lc S hev => ?_⟩ rfl
    obtain ⟨u, H1, e1, hev⟩ := ev_comp_inv hev
    exact comp_eval hA T (compOk_of h3) h2 (ev_sound O hF it nm kd _ h2) lc S e1 hev
  | .compIf e it c, nm, kd, ex, h => by
    refine ((vLC_e h)) _ ?_
    intro elt gs sc p h'
    obtain ⟨g, rfl, h''⟩ := l1_of h'
    obtain ⟨x, q, iter, fs, rfl, h'''⟩ := vGen_of h''
    obtain ⟨t, rfl, h''''⟩ := l1_of h'''
    refine and4e h'''' ?_
    intro h1 h2 h3 h4
    have T := turn_compIf (ev_sound O hF e _ _ _ h4) (ev_sound O hF c _ _ _ h3)
    refine .plain ⟨fun {A env ρ l H s v' H'} hA lc S hev => ?_⟩ rfl
    obtain ⟨u, H1, e1, hev⟩ := ev_compIf_inv hev
    exact comp_eval hA T (compOk_of h2) h1 (ev_sound O hF it nm kd _ h1) lc S e1 hev
theorem evs_sound (O : G.Ok) (hF : FnS G F d) : ∀ (es : Xs) (nm : List Str) (kd : Kd) (exs : List Expr), cXs G es nm kd exs = true → SndXs G F d nm kd es exs
  | .nil, nm, kd, exs, h => by
    cases exs with
    | nil => exact snds_nil
    | cons _ _ => cases h
  | .cons e es, nm, kd, exs, h => by
    cases exs with
    | nil => cases h
    | cons ex exs =>
      refine and2e h ?_
      intro h1 h2
      exact snds_cons h1 (ev_sound O hF e nm kd ex h1) (evs_sound O hF es nm kd exs h2)
end
end
end Mz
end

section
open PySem PySem.W PyProof.Rows
set_option Elab.async false
set_option autoImplicit false

set_option tactic.hygienic false
namespace Mz

open Classical in
noncomputable def ownOf (kd : Kd) (env : Env) : List Addr := env.locals :: (env.cells.filter fun p => decide (kd p.1 = some .cell ∧ env.cells.lookup p.1 = some p.2)).map (·.2)
theorem own_L {kd : Kd} (env : Env) : env.locals ∈ ownOf kd env := List.mem_cons_self
theorem own_c {kd : Kd} {env : Env} {x : Str} {a : Addr} (hk : kd x = some .cell) (h : env.cells.lookup x = some a) : a ∈ ownOf kd env :=
  List.mem_cons_of_mem _ (List.mem_map.mpr ⟨(x, a), List.mem_filter.mpr ⟨mem_of_lookup h, by simp [hk, h]⟩, rfl⟩)
theorem own_inv {kd : Kd} {env : Env} {a : Addr} (h : a ∈ ownOf kd env) : a = env.locals ∨ ∃ x, kd x = some .cell ∧ env.cells.lookup x = some a := by
  rcases List.mem_cons.mp h with e | h
  · exact .inl e
  · obtain ⟨⟨z, c⟩, hz, rfl⟩ := List.mem_map.mp h
    have := (List.mem_filter.mp hz).2
    simp at this
    exact .inr ⟨z, this⟩

noncomputable def FlR (ρ : RMap) : Fl → Flow → Prop
  | .next, f => f = .next
  | .ret v, f => ∃ x, f = .ret x ∧ VR ρ v x

structure After (G : Gd) (nm : List Str) (kd : Kd) (env : Env) (l' : Loc) (H' : Hp) (ρ : RMap) (s : Shared) (ρ' : RMap) (s' : Shared) : Prop where
  sim : Sim G ρ' H' s'
  lc : Lc G nm kd env ρ' l' s'
  stp : Stp (ownOf kd env) ρ ρ' s s'

structure SndS (G : Gd) (F : FnT) (d : Nat) (nm : List Str) (kd : Kd) (st : S) (sx : Stmt) : Prop where
  run : ∀ {A : Around} {env : Env} {ρ : RMap} {l : Loc} {H : Hp} {s : Shared} {fl : Fl} {l' : Loc} {H' : Hp}, Ar A d → Lc G nm kd env ρ l s → Sim G ρ H s → ex G.T F st l H = some (fl, l', H') →
    wpAny (model G.prog G.w) A (exec sx env) (fun f s' => ∃ ρ', FlR ρ' fl f ∧ After G nm kd env l' H' ρ s ρ' s') (fun _ _ => False) s
structure SndB (G : Gd) (F : FnT) (d : Nat) (nm : List Str) (kd : Kd) (b : B) (bx : List Stmt) : Prop where
  run : ∀ {A : Around} {env : Env} {ρ : RMap} {l : Loc} {H : Hp} {s : Shared} {fl : Fl} {l' : Loc} {H' : Hp}, Ar A d → Lc G nm kd env ρ l s → Sim G ρ H s → exs G.T F b l H = some (fl, l', H') →
    wpAny (model G.prog G.w) A (execs bx env) (fun f s' => ∃ ρ', FlR ρ' fl f ∧ After G nm kd env l' H' ρ s ρ' s') (fun _ _ => False) s

section
variable {G : Gd} {F : FnT} {d : Nat} {nm : List Str} {kd : Kd}

theorem After.of {env : Env} {l' : Loc} {H' : Hp} {ρ ρ₁ : RMap} {s s₁ : Shared} (S : Sim G ρ₁ H' s₁) (lc : Lc G nm kd env ρ₁ l' s₁) (st : Stp [env.locals] ρ ρ₁ s s₁) : After G nm kd env l' H' ρ s ρ₁ s₁ :=
  ⟨S, lc, st.own_mono (by intro b hb; rw [List.mem_singleton.mp hb]; exact own_L env)⟩
theorem After.trans {env : Env} {l' : Loc} {H' : Hp} {ρ ρ₁ ρ₂ : RMap} {s s₁ s₂ : Shared} (st : Stp (ownOf kd env) ρ ρ₁ s s₁) (a : After G nm kd env l' H' ρ₁ s₁ ρ₂ s₂) : After G nm kd env l' H' ρ s ρ₂ s₂ := ⟨a.sim, a.lc, st.trans a.stp⟩
theorem ownL {env : Env} {ρ ρ₁ : RMap} {s s₁ : Shared} (st : Stp [env.locals] ρ ρ₁ s s₁) : Stp (ownOf kd env) ρ ρ₁ s s₁ := st.own_mono (by intro b hb; rw [List.mem_singleton.mp hb]; exact own_L env)
theorem ownA {env : Env} {ρ ρ₁ : RMap} {s s₁ : Shared} {x : Str} {a : Addr} (st : Stp [a] ρ ρ₁ s s₁) (ha : a = env.locals ∨ (kd x = some .cell ∧ env.cells.lookup x = some a)) : Stp (ownOf kd env) ρ ρ₁ s s₁ := by
  refine st.own_mono ?_
  intro b hb
  rw [List.mem_singleton.mp hb]
  rcases ha with rfl | ⟨hk, h⟩
  · exact own_L env
  · exact own_c hk h

theorem noSwap {v : Expr} (h : isComp v = false) (t : Option Expr) (ln : Nat) (env : Env) : swapsWith v t ln env = pure false := by
  cases v <;> first | rfl | exact (Bool.false_ne_true h.symm).elim

theorem bopOf_aug {p : Operator} {op : Bop} (h : p = opOf op) (ho : (op == .add || op == .bor || op == .bxor) = true) {a b c : Int} {t u : Tok} {A : Around} {s : Shared} {Q : Value → Shared → Prop} {E : Value → Shared → Prop}
    (he : opI op a b = some c) (hq : Q (.int c s.toks) { s with toks := s.toks + 1 }) : wpAny (model G.prog G.w) A (inplaceOp p (.int a t) (.int b u)) Q E s := by
  subst h
  cases op <;> simp at ho
  · simp only [opI, Option.some.injEq] at he; subst he; exact PyProof.Rows.iadd_int hq
  · simp only [opI, Option.some.injEq] at he; subst he; exact PyProof.Rows.ior_int hq
  · simp only [opI, Option.some.injEq] at he; subst he; exact PyProof.Rows.ixor_int hq

set_option tactic.hygienic true in
theorem sns_asn_plain {i : Nat} {e : X} {x : Str} {px pos : Pos} {v : Expr} (hx : nm[i]? = some x) (hk : kd x = some .local ∨ kd x = some .cell) (he : SndX G F d nm kd e v)
    {A : Around} {env : Env} {ρ : RMap} {l : Loc} {H : Hp} {s : Shared} {fl : Fl} {l' : Loc} {H' : Hp} (hA : Ar A d) (lc : Lc G nm kd env ρ l s) (S : Sim G ρ H s) (hev : ex G.T F (.asn i e) l H = some (fl, l', H'))
    (hs : swapsWith v (some (.Name x px)) pos.line env = pure false) :
    wpAny (model G.prog G.w) A (exec (.Assign [.Name x px] v pos) env) (fun f s' => ∃ ρ', FlR ρ' fl f ∧ After G nm kd env l' H' ρ s ρ' s') (fun _ _ => False) s := by
  simp only [exasn, exasn2, exsetattr, exsetidx, exaug, exaugidx, exaugattr, exite, exloop, exret, exexpr, exfail] at hev
  split at hev
  · rename_i w H1 e1
    cases hev
    refine wpAny_Assign_Name (he.1.use hA lc S e1 fun y s1 ρ1 r1 S1 st1 n1 lc1 => store_sound lc1 S1 hx hk r1 fun s2 a ha S2 lc2 st2 => ?_) hs
    exact ⟨ρ1, rfl, S2, lc2, (ownL st1).trans (ownA st2 ha)⟩
  · cases hev

set_option tactic.hygienic true in
theorem sns_asn_comp {i : Nat} {it : X} {x y : Str} {px py p pos : Pos} {sc : Scope} {elt iter : Expr} {fs : List Expr} {f : Loc → V → Hp → Option (Option V × Hp)} {XX : X} (O : G.Ok) (hF : FnS G F d) (hx : nm[i]? = some x) (hk : kd x = some .local ∨ kd x = some .cell)
    (hev0 : ∀ {l : Loc} {H : Hp} {w : V} {H1 : Hp}, ev G.T F XX l H = some (w, H1) → ∃ u H0, ev G.T F it l H = some (u, H0) ∧ compAll (f l) u H0 = some (w, H1))
    (T : TurnS G d (nm ++ [y]) (kdIn kd sc) f fs elt) (hco : CompOk nm kd sc y) (hi : cX G it nm kd iter = true) (he : SndX G F d nm kd XX (.ListComp elt [⟨.Name y py, iter, fs, 0⟩] sc p)) :
    SndS G F d nm kd (.asn i XX) (.Assign [.Name x px] (.ListComp elt [⟨.Name y py, iter, fs, 0⟩] sc p) pos) := by
  refine ⟨fun {A env ρ l H s fl l' H'} hA lc S hev => ?_⟩
  have hsw : ∃ b, swapsWith (.ListComp elt [⟨.Name y py, iter, fs, 0⟩] sc p) (some (.Name x px)) pos.line env = pure b := ⟨_, rfl⟩
  obtain ⟨b, hb⟩ := hsw
  cases b with
  | false => exact sns_asn_plain hx hk he hA lc S hev hb
  | true =>
    simp only [exasn, exasn2, exsetattr, exsetidx, exaug, exaugidx, exaugattr, exite, exloop, exret, exexpr, exfail] at hev
    split at hev
    · rename_i w H1 e1
      cases hev
      obtain ⟨u, H0, e0, e1⟩ := hev0 e1
      rw [exec_Assign_Name_used _ _ _ _ hb]
      refine wpAny_bind (wpAny_standAt (wpAny_bind ?_))
      show wpAny _ A (do let _ ← comprehension (.ListComp elt [⟨.Name y py, iter, fs, 0⟩] sc p) sc env (firstIterPos [⟨.Name y py, iter, fs, 0⟩] p) (newList []) (firstAsync [⟨.Name y py, iter, fs, 0⟩]) (firstIter [⟨.Name y py, iter, fs, 0⟩] env) (some (assign (.Name x px) env))) _ _ s
      refine wpAny_bind (wpAny_mono (comp_store (Q := fun s' => ∃ ρ', After G nm kd env (l.set i (some w)) H' ρ s ρ' s') hA T hco hi (ev_sound O hF it nm kd _ hi) lc S e0 e1 hx hk fun s' ρ' a ha S' lc' st' => ?_)
        (fun _ s' hq => wpAny_pure (wpAny_pure (by obtain ⟨ρ', h⟩ := hq; exact ⟨ρ', rfl, h⟩))) fun _ _ f => f)
      refine ⟨ρ', S', lc', st'.own_mono ?_⟩
      intro b hb
      rcases List.mem_cons.mp hb with rfl | hb
      · exact own_L env
      · rw [List.mem_singleton.mp hb]
        rcases ha with rfl | ⟨hk, h⟩
        · exact own_L env
        · exact own_c hk h
    · cases hev

theorem not_comp {e : X} {v : Expr} (hc : cX G e nm kd v = true) (h : ∀ a b, e ≠ .comp a b) (h' : ∀ a b c, e ≠ .compIf a b c) : isComp v = false := by
  cases e with
  | comp a b => exact absurd rfl (h a b)
  | compIf a b c => exact absurd rfl (h' a b c)
  | lit v =>
    have hc : (vConst _ _ || vName _ _) = true := hc
    rcases Bool.or_eq_true_iff.mp hc with h | h
    · obtain ⟨_, _, _, rfl, _⟩ := vConst_of h; rfl
    · obtain ⟨_, _, rfl, _⟩ := vName_of h; rfl
  | loc i => obtain ⟨_, _, rfl, _⟩ := vName_of hc; rfl
  | bin op a b => obtain ⟨_, _, _, _, rfl, _⟩ := vBin_of hc; rfl
  | neg a => obtain ⟨_, _, _, rfl, _⟩ := vUn_of hc; rfl
  | inv a => obtain ⟨_, _, _, rfl, _⟩ := vUn_of hc; rfl
  | not a => obtain ⟨_, _, _, rfl, _⟩ := vUn_of hc; rfl
  | and a b => obtain ⟨_, _, _, rfl, _⟩ := vBool_of hc; rfl
  | or a b => obtain ⟨_, _, _, rfl, _⟩ := vBool_of hc; rfl
  | cmp op a b => obtain ⟨_, _, _, _, rfl, _⟩ := vCmp_of hc; rfl
  | cmp2 o1 o2 a b c => obtain ⟨_, _, _, _, rfl, _⟩ := vCmp_of hc; rfl
  | mem p a ks => obtain ⟨_, _, _, _, rfl, _⟩ := vCmp_of hc; rfl
  | ite c a b => obtain ⟨_, _, _, _, rfl, _⟩ := vIfX_of hc; rfl
  | attr o a => obtain ⟨_, _, _, rfl, _⟩ := vAttr_of hc; rfl
  | idx o i => obtain ⟨_, _, _, rfl, _⟩ := vSub_of hc; rfl
  | slTo o b => obtain ⟨_, _, _, rfl, _⟩ := vSub_of hc; rfl
  | slFrom o a => obtain ⟨_, _, _, rfl, _⟩ := vSub_of hc; rfl
  | slBt o a b => obtain ⟨_, _, _, rfl, _⟩ := vSub_of hc; rfl
  | rev o => obtain ⟨_, _, _, rfl, _⟩ := vSub_of hc; rfl
  | list es => obtain ⟨_, _, rfl, _⟩ := vList_of hc; rfl
  | tup es => obtain ⟨_, _, _, rfl, _⟩ := vTup_of hc; rfl
  | _ => obtain ⟨_, _, _, rfl, _⟩ := vCall_of hc; rfl

theorem sns_asn {i : Nat} {e : X} {x : Str} {px pos : Pos} {v : Expr} (O : G.Ok) (hF : FnS G F d) (hx : nm[i]? = some x) (hk : kd x = some .local ∨ kd x = some .cell) (hc : cX G e nm kd v = true) :
    SndS G F d nm kd (.asn i e) (.Assign [.Name x px] v pos) := by
  have he := ev_sound O hF e nm kd v hc
  by_cases h1 : ∃ a b, e = .comp a b
  · obtain ⟨e, it, rfl⟩ := h1
    obtain ⟨elt, gs, sc, p, rfl, h⟩ := vLC_of hc
    obtain ⟨g, rfl, h⟩ := l1_of h
    obtain ⟨y, q, iter, fs, rfl, h⟩ := vGen_of h
    obtain ⟨h, h4⟩ := and_iff.mp h
    obtain ⟨h, h3⟩ := and_iff.mp h
    obtain ⟨h1, h2⟩ := and_iff.mp h
    obtain rfl := List.isEmpty_iff.mp h1
    exact sns_asn_comp O hF hx hk ev_comp_inv (turn_comp (ev_sound O hF e _ _ _ h4)) (compOk_of h3) h2 he
  · by_cases h2 : ∃ a b c, e = .compIf a b c
    · obtain ⟨e, it, c, rfl⟩ := h2
      obtain ⟨elt, gs, sc, p, rfl, hA⟩ := vLC_of hc
      obtain ⟨g, rfl, hB⟩ := l1_of hA
      obtain ⟨y, q, iter, fs, rfl, hC⟩ := vGen_of hB
      obtain ⟨t, rfl, hD⟩ := l1_of hC
      obtain ⟨hE, h4⟩ := and_iff.mp hD
      obtain ⟨hF', h3⟩ := and_iff.mp hE
      obtain ⟨h5, h6⟩ := and_iff.mp hF'
      exact sns_asn_comp O hF hx hk ev_compIf_inv (turn_compIf (ev_sound O hF e _ _ _ h4) (ev_sound O hF c _ _ _ h3)) (compOk_of h6) h5 he
    · exact ⟨fun {A env ρ l H s fl l' H'} hA lc S hev => sns_asn_plain hx hk he hA lc S hev (noSwap (not_comp hc (fun a b q => h1 ⟨a, b, q⟩) fun a b c q => h2 ⟨a, b, c, q⟩) _ _ _)⟩

set_option tactic.hygienic true in
theorem sns_asn2 {i j : Nat} {e : X} {x y : Str} {px py p1 pos : Pos} {kk : Nat} {v : Expr} (hx : nm[i]? = some x) (hy : nm[j]? = some y) (hij : i ≠ j) (hkx : kd x = some .local ∨ kd x = some .cell) (hky : kd y = some .local ∨ kd y = some .cell)
    (hc : isComp v = false) (ht : ∀ elts k p, v ≠ .Tuple elts k p) (he : SndX G F d nm kd e v) : SndS G F d nm kd (.asn2 i j e) (.Assign [.Tuple [.Name x px, .Name y py] kk p1] v pos) := by
  refine ⟨fun {A env ρ l H s fl l' H'} hA lc S hev => ?_⟩
  simp only [exasn, exasn2, exsetattr, exsetidx, exaug, exaugidx, exaugattr, exite, exloop, exret, exexpr, exfail] at hev
  split at hev
  · rename_i k H1 e1
    split at hev
    · rename_i u w eo
      cases hev
      have hsw : swappedStores [.Tuple [.Name x px, .Name y py] kk p1] v env = pure none := by
        cases v <;> first | rfl | (exact absurd rfl (ht _ _ _))
      refine Assign_Tuple (he.1.use hA lc S e1 fun z s1 ρ1 r1 S1 st1 n1 lc1 => ?_) (noSwap hc (some (.Tuple [.Name x px, .Name y py] kk p1)) pos.line env) hsw
      obtain ⟨a, xs, n, p, r, g⟩ := S1.tup eo
      obtain rfl := Sim.ref r1 p
      show wpAny _ _ (do standAt p1; unpack (.ref a) (assignEach [.Name x px, .Name y py] env)) _ _ _
      refine wpAny_bind (wpAny_standAt ?_)
      have hl := r.length
      refine unpack_tuple (items := xs.toArray) hA.handled ⟨_, g, rfl, n, rfl⟩ hl rfl fun h' hext => ?_
      cases r with
      | cons ru rt =>
        cases rt with
        | cons rw' rt =>
          cases rt
          rename_i b b'
          obtain ⟨S2, st2⟩ := grow (h' := h') (tk := s1.toks) S1 (fun c q e => hext c q (Nat.ne_of_lt (Heap.lt_size e)) e)
          have lc2 := lc1.step (st2.own_mono (by simp)) (st2.nsOf lc1.offL)
          show wpAny _ _ (do holding [b'] (assign (.Name x px) env b); assignInOrder [assign (.Name y py) env] [b']) _ _ _
          refine wpAny_bind (wpAny_holding (wpAny_assign_Name (store_sound lc2 S2 hx hkx ru fun s3 a3 ha3 S3 lc3 st3 => ?_)))
          show wpAny _ _ (do holding [] (assign (.Name y py) env b'); pure ()) _ _ _
          refine wpAny_bind (wpAny_holding (wpAny_assign_Name (store_sound lc3 S3 hy hky rw' fun s4 a4 ha4 S4 lc4 st4 => wpAny_pure ?_)))
          exact ⟨ρ1, rfl, S4, lc4, (((ownL st1).trans (st2.own_mono (by simp))).trans (ownA st3 ha3)).trans (ownA st4 ha4)⟩
    · cases hev
  · cases hev

set_option tactic.hygienic true in
theorem sns_setattr (O : G.Ok) {o : X} {a : Nat} {e : X} {oe v : Expr} {y : Str} {p1 pos : Pos} (ha : G.attrs[a]? = some y) (hf : G.isField a = true) (hc : isComp v = false) (he : SndX G F d nm kd e v) (ho : SndX G F d nm kd o oe) :
    SndS G F d nm kd (.setattr o a e) (.Assign [.Attribute oe y p1] v pos) := by
  refine ⟨fun {A env ρ l H s fl l' H'} hA lc S hev => ?_⟩
  simp only [exasn, exasn2, exsetattr, exsetidx, exaug, exaugidx, exaugattr, exite, exloop, exret, exexpr, exfail] at hev
  split at hev
  · rename_i w H1 e1
    split at hev
    · rename_i u H2 e2
      simp only [Option.map_eq_some_iff] at hev
      obtain ⟨H3, e3, h3⟩ := hev
      cases h3
      refine plainObj_wpAny_Assign_Attribute (he.1.use hA lc S e1 fun x s1 ρ1 r1 S1 st1 n1 lc1 => ho.1.use hA lc1 S1 e2 fun z s2 ρ2 r2 S2 st2 n2 lc2 => ?_) (noSwap hc _ _ _)
      refine wpAny_mono (setA_sound O.toClsOk (lc2.fr S2) S2 lc2.offL r2 (r1.mono st2.pre) ha hf e3) (fun _ s3 h3 => ?_) fun _ _ f => f.elim
      obtain ⟨S3, st3, n3⟩ := h3
      exact ⟨ρ2, rfl, After.of S3 (lc2.step st3 n3) ((st1.trans st2).trans st3)⟩
    · cases hev
  · cases hev

set_option tactic.hygienic true in
theorem sns_setidx {o i e : X} {oe ie v : Expr} {p1 pos : Pos} (hc : isComp v = false) (he : SndX G F d nm kd e v) (ho : SndX G F d nm kd o oe) (hi : SndX G F d nm kd i ie) :
    SndS G F d nm kd (.setidx o i e) (.Assign [.Subscript oe ie p1] v pos) := by
  refine ⟨fun {A env ρ l H s fl l' H'} hA lc S hev => ?_⟩
  simp only [exasn, exasn2, exsetattr, exsetidx, exaug, exaugidx, exaugattr, exite, exloop, exret, exexpr, exfail] at hev
  split at hev
  · rename_i w H1 e1
    split at hev
    · rename_i u H2 e2
      split at hev
      · rename_i k H3 e3
        simp only [Option.map_eq_some_iff] at hev
        obtain ⟨H4, e4, h4⟩ := hev
        cases h4
        refine wpAny_Assign_Subscript (he.1.use hA lc S e1 fun x s1 ρ1 r1 S1 st1 n1 lc1 => ho.1.use hA lc1 S1 e2 fun z s2 ρ2 r2 S2 st2 n2 lc2 => hi.1.use hA lc2 S2 e3 fun y s3 ρ3 r3 S3 st3 n3 lc3 => ?_) (noSwap hc _ _ _)
        refine wpAny_mono (setIdx_sound S3 lc3.offL (r2.mono st3.pre) r3 ((r1.mono st2.pre).mono st3.pre) e4) (fun _ s4 h4 => ?_) fun _ _ f => f.elim
        obtain ⟨S4, st4⟩ := h4
        have st4' : Stp [env.locals] ρ3 ρ3 s3 s4 := st4.own_mono (by simp)
        exact ⟨ρ3, rfl, After.of S4 (lc3.step st4' (st4.nsOf lc3.offL)) (((st1.trans st2).trans st3).trans st4')⟩
      · cases hev
    · cases hev
  · cases hev

theorem ld_sound {i : Nat} {x : Str} {v : V} {env : Env} {ρ : RMap} {l : Loc} {s : Shared} {A : Around} {Q : Value → Shared → Prop} {E : Value → Shared → Prop} (lc : Lc G nm kd env ρ l s) (hx : nm[i]? = some x) (hk : kd x = some .local ∨ kd x = some .cell) (hl : l[i]? = some (some v))
    (k : ∀ val, VR ρ v val → Q val s) : wpAny (model G.prog G.w) A (loadName env x) Q E s := by
  rcases hk with hk | hk
  · obtain ⟨m, hn, hv⟩ := lc.ns
    obtain ⟨val, e1, r⟩ := hv i x v hx hl hk
    exact wpAny_loadName_local lc.kind (by rw [lc.kinds]; exact hk) hn e1 (k val r)
  · obtain ⟨c, hc, _⟩ := lc.cells x (.inl hk)
    obtain ⟨val, e1, r⟩ := lc.cval i x v c hx hl (.inl hk) hc
    exact wpAny_loadName_cell lc.kind (by rw [lc.kinds]; exact hk) hc e1 (k val r)

set_option tactic.hygienic true in
theorem sns_aug {i : Nat} {op : Bop} {e : X} {x : Str} {p : Operator} {px pos : Pos} {v : Expr} (hx : nm[i]? = some x) (hk : kd x = some .local ∨ kd x = some .cell) (hp : p = opOf op) (ho : (op == .add || op == .bor || op == .bxor) = true) (he : SndX G F d nm kd e v) :
    SndS G F d nm kd (.aug i op e) (.AugAssign (.Name x px) p v pos) := by
  refine ⟨fun {A env ρ l H s fl l' H'} hA lc S hev => ?_⟩
  simp only [exasn, exasn2, exsetattr, exsetidx, exaug, exaugidx, exaugattr, exite, exloop, exret, exexpr, exfail] at hev
  split at hev
  · rename_i a el
    split at hev
    · rename_i b H1 e1
      simp only [Option.map_eq_some_iff] at hev
      obtain ⟨c, e3, h3⟩ := hev
      cases h3
      refine wpAny_AugAssign_Name (ld_sound lc hx hk el fun val rv => he.1.use hA lc S e1 fun y s1 ρ1 r1 S1 st1 n1 lc1 => ?_)
      obtain ⟨t, rfl⟩ := rv
      obtain ⟨u, rfl⟩ := r1
      refine bopOf_aug hp ho e3 ?_
      obtain ⟨S2, st2⟩ := grow (h' := s1.heap) (tk := s1.toks + 1) S1 (fun _ _ e => e)
      have lc2 := lc1.step (st2.own_mono (by simp)) (st2.nsOf lc1.offL)
      refine store_sound lc2 S2 hx hk vr_int fun s3 a3 ha3 S3 lc3 st3 => ?_
      exact ⟨ρ1, rfl, S3, lc3, ((ownL st1).trans (st2.own_mono (by simp))).trans (ownA st3 ha3)⟩
    · cases hev
  · cases hev

theorem augStore_plain {i : X} {ie : Expr} (h : cX G i nm kd ie = true) (ov iv new : Value) : augStore ie ov iv new = (do holding [new, ov, iv] (setItem ov iv new); release [new, ov, iv] []; pure .next) := by
  have h := cX_ok h
  cases ie <;> first | rfl | exact (Bool.false_ne_true h).elim

set_option tactic.hygienic true in
theorem sns_augidx {o i e : X} {op : Bop} {oe ie v : Expr} {p : Operator} {p1 pos : Pos} (hp : p = opOf op) (hop : (op == .add || op == .bor || op == .bxor) = true) (ho : SndX G F d nm kd o oe) (hci : cX G i nm kd ie = true) (hi : SndX G F d nm kd i ie) (he : SndX G F d nm kd e v) :
    SndS G F d nm kd (.augidx o i op e) (.AugAssign (.Subscript oe ie p1) p v pos) := by
  refine ⟨fun {A env ρ l H s fl l' H'} hA lc S hev => ?_⟩
  simp only [exasn, exasn2, exsetattr, exsetidx, exaug, exaugidx, exaugattr, exite, exloop, exret, exexpr, exfail] at hev
  split at hev
  · rename_i u H1 e1
    split at hev
    · rename_i k H2 e2
      split at hev
      · rename_i a ea
        split at hev
        · rename_i b H3 e3
          split at hev
          · rename_i c ec
            simp only [Option.map_eq_some_iff] at hev
            obtain ⟨H4, e4, h4⟩ := hev
            cases h4
            refine wpAny_AugAssign_SubscriptAny (ho.1.use hA lc S e1 fun x s1 ρ1 r1 S1 st1 n1 lc1 => hi.1.use hA lc1 S1 e2 fun y s2 ρ2 r2 S2 st2 n2 lc2 => ?_) (augStore_plain hci)
            refine getIdx_sound S2 (r1.mono st2.pre) r2 ea fun z hz => he.1.use hA lc2 S2 e3 fun w s3 ρ3 r3 S3 st3 n3 lc3 => ?_
            obtain ⟨t, rfl⟩ := hz
            obtain ⟨t', rfl⟩ := r3
            refine bopOf_aug hp hop ec ?_
            obtain ⟨S4, st4⟩ := grow (h' := s3.heap) (tk := s3.toks + 1) S3 (fun _ _ e => e)
            have st4' : Stp [env.locals] ρ3 ρ3 s3 { s3 with heap := s3.heap, toks := s3.toks + 1 } := st4.own_mono (by simp)
            have lc4 := lc3.step st4' (st4.nsOf lc3.offL)
            refine wpAny_mono (setIdx_sound S4 lc4.offL ((r1.mono st2.pre).mono st3.pre) (r2.mono st3.pre) (vr_int (t := s3.toks)) e4) (fun _ s5 h5 => ?_) fun _ _ f => f.elim
            obtain ⟨S5, st5⟩ := h5
            have st5' : Stp [env.locals] ρ3 ρ3 _ s5 := st5.own_mono (by simp)
            exact ⟨ρ3, rfl, After.of S5 (lc4.step st5' (st5.nsOf lc4.offL)) ((((st1.trans st2).trans st3).trans st4').trans st5')⟩
          · cases hev
        · cases hev
      · cases hev
    · cases hev
  · cases hev

set_option tactic.hygienic true in
theorem sns_augattr (O : G.Ok) {o e : X} {at_ : Nat} {op : Bop} {oe v : Expr} {y : Str} {p : Operator} {p1 pos : Pos} (ha : G.attrs[at_]? = some y) (hf : G.isField at_ = true) (hp : p = opOf op) (hop : (op == .add || op == .bor || op == .bxor) = true) (ho : SndX G F d nm kd o oe) (he : SndX G F d nm kd e v) :
    SndS G F d nm kd (.augattr o at_ op e) (.AugAssign (.Attribute oe y p1) p v pos) := by
  refine ⟨fun {A env ρ l H s fl l' H'} hA lc S hev => ?_⟩
  simp only [exasn, exasn2, exsetattr, exsetidx, exaug, exaugidx, exaugattr, exite, exloop, exret, exexpr, exfail] at hev
  split at hev
  · rename_i u H1 e1
    split at hev
    · rename_i a ea
      split at hev
      · rename_i b H2 e2
        split at hev
        · rename_i c ec
          simp only [Option.map_eq_some_iff] at hev
          obtain ⟨H4, e4, h4⟩ := hev
          cases h4
          refine wpAny_AugAssign_AttributeAny (ho.1.use hA lc S e1 fun x s1 ρ1 r1 S1 st1 n1 lc1 => ?_)
          refine wpAny_mono (getA_sound O.toClsOk (lc1.fr S1) S1 lc1.offL r1 ha hf ea true) (fun z s2 D => ?_) fun _ _ f => f.elim
          obtain ⟨ρ2, r2, S2, st2, n2⟩ := D
          have lc2 := lc1.step st2 n2
          refine he.1.use hA lc2 S2 e2 fun w s3 ρ3 r3 S3 st3 n3 lc3 => ?_
          obtain ⟨t, rfl⟩ := r2
          obtain ⟨t', rfl⟩ := r3
          refine bopOf_aug hp hop ec ?_
          obtain ⟨S4, st4⟩ := grow (h' := s3.heap) (tk := s3.toks + 1) S3 (fun _ _ e => e)
          have st4' : Stp [env.locals] ρ3 ρ3 s3 { s3 with heap := s3.heap, toks := s3.toks + 1 } := st4.own_mono (by simp)
          have lc4 := lc3.step st4' (st4.nsOf lc3.offL)
          refine wpAny_mono (setA_sound O.toClsOk (lc4.fr S4) S4 lc4.offL ((r1.mono st2.pre).mono st3.pre) (vr_int (t := s3.toks)) ha hf e4) (fun _ s5 h5 => ?_) fun _ _ f => f.elim
          obtain ⟨S5, st5, n5⟩ := h5
          exact ⟨ρ3, rfl, After.of S5 (lc4.step st5 n5) ((((st1.trans st2).trans st3).trans st4').trans st5)⟩
        · cases hev
      · cases hev
    · cases hev
  · cases hev

set_option tactic.hygienic true in
theorem sns_ite {c : X} {t f : B} {te : Expr} {bt bf : List Stmt} {pos : Pos} (hc : SndX G F d nm kd c te) (ht : SndB G F d nm kd t bt) (hf : SndB G F d nm kd f bf) : SndS G F d nm kd (.ite c t f) (.If te bt bf pos) := by
  refine ⟨fun {A env ρ l H s fl l' H'} hA lc S hev => ?_⟩
  simp only [exasn, exasn2, exsetattr, exsetidx, exaug, exaugidx, exaugattr, exite, exloop, exret, exexpr, exfail] at hev
  split at hev
  · rename_i u H1 e1
    split at hev
    · rename_i hb
      refine wpAny_If (hc.2.use hA lc S e1 hb fun s1 ρ1 S1 st1 n1 lc1 => ?_)
      simp only [if_true]
      exact wpAny_mono (ht.run hA lc1 S1 hev) (fun f s2 h => let ⟨ρ2, hfl, a⟩ := h; ⟨ρ2, hfl, a.trans (ownL st1)⟩) fun _ _ f => f
    · rename_i hb
      refine wpAny_If (hc.2.use hA lc S e1 hb fun s1 ρ1 S1 st1 n1 lc1 => ?_)
      simp only [Bool.false_eq_true, if_false]
      exact wpAny_mono (hf.run hA lc1 S1 hev) (fun f s2 h => let ⟨ρ2, hfl, a⟩ := h; ⟨ρ2, hfl, a.trans (ownL st1)⟩) fun _ _ f => f
    · cases hev
  · cases hev

set_option tactic.hygienic true in
theorem sns_ret {e : X} {v : Expr} {pos : Pos} (he : SndX G F d nm kd e v) : SndS G F d nm kd (.ret e) (.Return (some v) pos) := by
  refine ⟨fun {A env ρ l H s fl l' H'} hA lc S hev => ?_⟩
  simp only [exasn, exasn2, exsetattr, exsetidx, exaug, exaugidx, exaugattr, exite, exloop, exret, exexpr, exfail] at hev
  split at hev
  · rename_i u H1 e1
    cases hev
    exact wpAny_Return_some (he.1.use hA lc S e1 fun x s1 ρ1 r1 S1 st1 n1 lc1 => ⟨ρ1, ⟨x, rfl, r1⟩, After.of S1 lc1 st1⟩)
  · cases hev

set_option tactic.hygienic true in
theorem sns_expr {e : X} {v : Expr} {pos : Pos} (hc : isComp v = false) (he : SndX G F d nm kd e v) : SndS G F d nm kd (.expr e) (.Expr v pos) := by
  refine ⟨fun {A env ρ l H s fl l' H'} hA lc S hev => ?_⟩
  simp only [exasn, exasn2, exsetattr, exsetidx, exaug, exaugidx, exaugattr, exite, exloop, exret, exexpr, exfail] at hev
  split at hev
  · rename_i u H1 e1
    cases hev
    exact wpAny_Expr_any (he.1.use hA lc S e1 fun x s1 ρ1 r1 S1 st1 n1 lc1 => ⟨ρ1, rfl, After.of S1 lc1 st1⟩) (by unfold interactive; rw [lc.kind]; rfl) (noSwap hc _ _ _)
  · cases hev

set_option tactic.hygienic true in
theorem sns_loop {x : Nat} {it : X} {b : B} {y : Str} {ie : Expr} {body : List Stmt} {py pos : Pos} (hy : nm[x]? = some y) (hk : kd y = some .local ∨ kd y = some .cell) (hci : cX G it nm kd ie = true) (hi : SndX G F d nm kd it ie) (hb : SndB G F d nm kd b body) :
    SndS G F d nm kd (.loop x it b) (.For (.Name y py) ie body [] pos) := by
  refine ⟨fun {A env ρ l H s fl l' H'} hA lc S hev => ?_⟩
  simp only [exasn, exasn2, exsetattr, exsetidx, exaug, exaugidx, exaugattr, exite, exloop, exret, exexpr, exfail] at hev
  split at hev
  · rename_i u H1 e1
    unfold loopAll at hev
    split at hev
    · rename_i I hI
      split at hev
      · rename_i n hn
        split at hev
        · rename_i hn1
          refine wpAny_For (hi.1.use hA lc S e1 fun xv s1 ρ1 r1 S1 st1 n1 lc1 => ?_) (noSet hci env)
          refine iter_start S1 r1 hI fun o hit0 => ?_
          have fI := heap_fresh s1.heap
          have hIL : s1.heap.objs.size ≠ env.locals := by
            obtain ⟨m, hns, _⟩ := lc1.ns
            exact Nat.ne_of_gt hns.lt
          have hIc : ∀ z c, (kd z = some .cell ∨ kd z = some .free) → env.cells.lookup z = some c → c ≠ s1.heap.objs.size := by
            intro z c hz hc
            obtain ⟨c', g1, ⟨_, oc, hoc, _⟩, _⟩ := lc1.cells z hz
            rw [hc] at g1; cases g1
            exact Nat.ne_of_lt (Heap.lt_size hoc)
          have offI : Off ρ1 s1.heap.objs.size := by
            intro p hp
            obtain ⟨⟨o1, g1⟩, ⟨o2, g2⟩⟩ := S1.rep.live hp
            exact ⟨Nat.ne_of_lt (Heap.lt_size g1), Nat.ne_of_lt (Heap.lt_size g2)⟩
          have bI := off_base S1 fI
          obtain ⟨S2, st2⟩ := grow (h' := s1.heap.push o) (tk := s1.toks) S1 (fun _ _ e => Heap.get?_push_of_some _ e)
          have lc2 := lc1.step (st2.own_mono (by simp)) (st2.nsOf lc1.offL)
          -- the turns
          let Inv : Nat → Shared → Prop := fun k s' => ∃ n i l₁ ρ₁ H₁, k = n + 1 ∧ Sim G ρ₁ H₁ s' ∧ Lc G nm kd env ρ₁ l₁ s' ∧ IterAt ρ₁ s'.heap s1.heap.objs.size I i ∧ Off ρ₁ s1.heap.objs.size ∧
            Stp (s1.heap.objs.size :: ownOf kd env) ρ1 ρ₁ s1 s' ∧ loopGo (fun l h => exs G.T F b l h) x I n i l₁ H₁ = some (fl, l', H')
          refine codeAny_forLoop Inv ?_ (n + 1) ⟨n, 0, l, ρ1, H1, rfl, S2, lc2, hit0, offI, st2.own_mono (by simp), hev⟩
          rintro k s' ⟨n, i, l₁, ρ₁, H₁, rfl, S', lc', hit, off', stp', hgo⟩
          have fin : ∀ {ρ₂ : RMap} {s₂ : Shared}, Stp (s1.heap.objs.size :: ownOf kd env) ρ1 ρ₂ s1 s₂ → Stp (ownOf kd env) ρ ρ₂ s s₂ := fun st =>
            (ownL st1).trans (st.drop_own _ fun a ha => by
              rcases List.mem_cons.mp ha with rfl | ha
              · exact .inr fI
              · exact .inl ha)
          cases n with
          | zero =>
            simp only [loopGo] at hgo
            split at hgo
            · rename_i hl
              cases hgo
              refine iter_end hA.handled S' hit hl fun h' tk hk' => ?_
              refine wpAny_execs_nil ?_
              exact ⟨ρ₁, rfl, S'.but off' bI hk', lc'.but hk' hIL hIc, fin (stp'.tail fI hk')⟩
            · cases hgo
          | succ n =>
            simp only [loopGo] at hgo
            split at hgo
            · rename_i v hv
              refine iter_item S' hit hv fun val h' tk hval hit' hk' hlive => ?_
              have S3 := S'.but (tk := tk) off' bI hk'
              have lc3 := lc'.but (tk := tk) hk' hIL hIc
              have stp3 : Stp (s1.heap.objs.size :: ownOf kd env) ρ1 ρ₁ s1 { s' with heap := h', toks := tk } := stp'.tail fI hk'
              refine wpAny_assign_Name (store_sound lc3 S3 hy hk hval fun s4 a ha S4 lc4 st4 => ?_)
              have haI : a ≠ s1.heap.objs.size := by
                rcases ha with rfl | ⟨hkc, hc⟩
                · exact Ne.symm hIL
                · exact hIc y a (.inl hkc) hc
              have hit4 : IterAt ρ₁ s4.heap s1.heap.objs.size I (i + 1) := hit'.mono (List.prefix_refl _) fun q e => st4.keep _ q (by simpa using Ne.symm haI) off' e
              have live4 : ∃ o, s4.heap.get? s1.heap.objs.size = some o := let ⟨o, ho⟩ := hlive; st4.live _ o ho
              have ownI : s1.heap.objs.size ∉ ownOf kd env := by
                intro hm
                rcases own_inv hm with e | ⟨z, hz, hc⟩
                · exact hIL e
                · exact hIc z _ (.inl hz) hc rfl
              have stp4 : Stp (s1.heap.objs.size :: ownOf kd env) ρ1 ρ₁ s1 s4 := stp3.trans ((ownA st4 ha).own_mono fun b hb => List.mem_cons_of_mem _ hb)
              split at hgo
              · rename_i l₂ H₂ eb
                refine wpAny_mono (hb.run hA lc4 S4 eb) (fun f s5 h5 => ?_) fun _ _ f => f.elim
                obtain ⟨ρ5, hfl, a5⟩ := h5
                obtain rfl : f = .next := hfl
                refine ⟨n + 1, Nat.lt_succ_self _, n, i + 1, l₂, ρ5, H₂, rfl, a5.sim, a5.lc, hit4.mono a5.stp.pre fun q e => a5.stp.keep _ q ownI off' e, ?_, stp4.trans (a5.stp.own_mono fun b hb => List.mem_cons_of_mem _ hb), hgo⟩
                obtain ⟨o, ho⟩ := live4
                exact a5.stp.off off' ho
              · rename_i rv l₂ H₂ eb
                cases hgo
                refine wpAny_mono (hb.run hA lc4 S4 eb) (fun f s5 h5 => ?_) fun _ _ f => f.elim
                obtain ⟨ρ5, ⟨z, rfl, hz⟩, a5⟩ := h5
                exact ⟨ρ5, ⟨z, rfl, hz⟩, a5.sim, a5.lc, fin (stp4.trans (a5.stp.own_mono fun b hb => List.mem_cons_of_mem _ hb))⟩
              · cases hgo
            · cases hgo
        · cases hev
      · cases hev
    · cases hev
  · cases hev

theorem snb_nil : SndB G F d nm kd .nil [] := by
  refine ⟨fun {A env ρ l H s fl l' H'} hA lc S hev => ?_⟩
  simp only [exs, Option.some.injEq, Prod.mk.injEq] at hev
  obtain ⟨rfl, rfl, rfl⟩ := hev
  exact wpAny_execs_nil ⟨ρ, rfl, S, lc, .refl _ _ _⟩
set_option tactic.hygienic true in
theorem snb_cons {st : S} {b : B} {sx : Stmt} {bx : List Stmt} (hs : SndS G F d nm kd st sx) (hb : SndB G F d nm kd b bx) : SndB G F d nm kd (.cons st b) (sx :: bx) := by
  refine ⟨fun {A env ρ l H s fl l' H'} hA lc S hev => ?_⟩
  simp only [exs] at hev
  split at hev
  · rename_i l1 H1 e1
    refine wpAny_execs_cons (wpAny_mono (hs.run hA lc S e1) (fun f s1 h1 => ?_) fun _ _ f => f)
    obtain ⟨ρ1, hfl, a1⟩ := h1
    obtain rfl : f = .next := hfl
    exact wpAny_mono (hb.run hA a1.lc a1.sim hev) (fun f s2 h2 => let ⟨ρ2, hfl, a2⟩ := h2; ⟨ρ2, hfl, a2.trans a1.stp⟩) fun _ _ f => f
  · rename_i v l1 H1 e1
    cases hev
    refine wpAny_execs_cons (wpAny_mono (hs.run hA lc S e1) (fun f s1 h1 => ?_) fun _ _ f => f)
    obtain ⟨ρ1, ⟨x, rfl, hx⟩, a1⟩ := h1
    exact ⟨ρ1, ⟨x, rfl, hx⟩, a1⟩
  · cases hev
theorem two_kinds {k : Option NameKind} (h : (k == some .local || k == some .cell) = true) : k = some .local ∨ k = some .cell :=
  (Bool.or_eq_true_iff.mp h).imp eq_of_beq eq_of_beq

mutual
theorem ex_sound (O : G.Ok) (hF : FnS G F d) : ∀ (st : S) (nm : List Str) (kd : Kd) (sx : Stmt), cS G st nm kd sx = true → SndS G F d nm kd st sx
  | .asn i e, nm, kd, sx, h => by
    obtain ⟨ts, v, p, rfl, h'⟩ := wAsn_of h
    obtain ⟨t, rfl, h''⟩ := l1_of h'
    obtain ⟨x, q, rfl, h'''⟩ := vName_of h''
    refine and3e h''' ?_
    intro h1 h2 h3
    exact sns_asn O hF (eq_of_beq h1) (two_kinds h2) h3
  | .asn2 i j e, nm, kd, sx, h => by
    obtain ⟨ts, v, p, rfl, h'⟩ := wAsn_of h
    obtain ⟨t, rfl, h''⟩ := l1_of h'
    obtain ⟨es, k, q, rfl, h'''⟩ := vTup_of h''
    obtain ⟨a, b, rfl, h''''⟩ := l2_of h'''
    obtain ⟨x, q1, rfl, h'''''⟩ := vName_of h''''
    obtain ⟨y, q2, rfl, h''''''⟩ := vName_of h'''''
    refine and8e h'''''' ?_
    intro h1 h2 h3 h4 h5 h6 h7 h8
    refine sns_asn2 (eq_of_beq h1) (eq_of_beq h2) (bne_iff_ne.mp h3) (two_kinds h4) (two_kinds h5) (not_true h6) ?_ (ev_sound O hF e nm kd _ h8)
    rintro elts k p rfl
    cases h7
  | .setattr o a e, nm, kd, sx, h => by
    obtain ⟨ts, v, p, rfl, h'⟩ := wAsn_of h
    obtain ⟨t, rfl, h''⟩ := l1_of h'
    obtain ⟨oe, y, q, rfl, h'''⟩ := vAttr_of h''
    refine and5e h''' ?_
    intro h1 h2 h3 h4 h5
    exact sns_setattr O (eq_of_beq h1) h2 (not_true h3) (ev_sound O hF e nm kd _ h4) (ev_sound O hF o nm kd _ h5)
  | .setidx o i e, nm, kd, sx, h => by
    obtain ⟨ts, v, p, rfl, h'⟩ := wAsn_of h
    obtain ⟨t, rfl, h''⟩ := l1_of h'
    obtain ⟨oe, ie, q, rfl, h'''⟩ := vSub_of h''
    refine and4e h''' ?_
    intro h1 h2 h3 h4
    exact sns_setidx (not_true h1) (ev_sound O hF e nm kd _ h2) (ev_sound O hF o nm kd _ h3) (ev_sound O hF i nm kd _ h4)
  | .aug i op e, nm, kd, sx, h => by
    obtain ⟨t, o, v, p, rfl, h'⟩ := wAug_of h
    obtain ⟨x, q, rfl, h''⟩ := vName_of h'
    refine and5e h'' ?_
    intro h1 h2 h3 h4 h5
    exact sns_aug (eq_of_beq h1) (two_kinds h2) (eq_of_beq h3) h4 (ev_sound O hF e nm kd _ h5)
  | .augidx o i op e, nm, kd, sx, h => by
    obtain ⟨t, p, v, q, rfl, h'⟩ := wAug_of h
    obtain ⟨oe, ie, q2, rfl, h''⟩ := vSub_of h'
    refine and5e h'' ?_
    intro h1 h2 h3 h4 h5
    exact sns_augidx (eq_of_beq h1) h2 (ev_sound O hF o nm kd _ h3) h4 (ev_sound O hF i nm kd _ h4) (ev_sound O hF e nm kd _ h5)
  | .augattr o a op e, nm, kd, sx, h => by
    obtain ⟨t, p, v, q, rfl, h'⟩ := wAug_of h
    obtain ⟨oe, y, q2, rfl, h''⟩ := vAttr_of h'
    refine and6e h'' ?_
    intro h1 h2 h3 h4 h5 h6
    exact sns_augattr O (eq_of_beq h1) h2 (eq_of_beq h3) h4 (ev_sound O hF o nm kd _ h5) (ev_sound O hF e nm kd _ h6)
  | .ite c t f, nm, kd, sx, h => by
    obtain ⟨te, b, o, p, rfl, h'⟩ := wIf_of h
    refine and3e h' ?_
    intro h1 h2 h3
    exact sns_ite (ev_sound O hF c nm kd _ h1) (exs_sound O hF t nm kd _ h2) (exs_sound O hF f nm kd _ h3)
  | .loop x it b, nm, kd, sx, h => by
    obtain ⟨t, ie, body, p, rfl, h'⟩ := wFor_of h
    obtain ⟨y, q, rfl, h''⟩ := vName_of h'
    refine and4e h'' ?_
    intro h1 h2 h3 h4
    exact sns_loop (eq_of_beq h1) (two_kinds h2) h3 (ev_sound O hF it nm kd _ h3) (exs_sound O hF b nm kd _ h4)
  | .ret e, nm, kd, sx, h => by
    obtain ⟨o, p, rfl, h'⟩ := wRet_of h
    obtain ⟨v, rfl, h''⟩ := oS_of h'
    exact sns_ret (ev_sound O hF e nm kd _ h'')
  | .expr e, nm, kd, sx, h => by
    obtain ⟨v, p, rfl, h'⟩ := wExp_of h
    refine and2e h' ?_
    intro h1 h2
    exact sns_expr (not_true h1) (ev_sound O hF e nm kd _ h2)
  | .fail, nm, kd, sx, h => ⟨fun _ _ _ hev => by simp [exasn, exasn2, exsetattr, exsetidx, exaug, exaugidx, exaugattr, exite, exloop, exret, exexpr, exfail] at hev⟩
theorem exs_sound (O : G.Ok) (hF : FnS G F d) : ∀ (b : B) (nm : List Str) (kd : Kd) (bx : List Stmt), cB G b nm kd bx = true → SndB G F d nm kd b bx
  | .nil, nm, kd, bx, h => by
    cases bx with
    | nil => exact snb_nil
    | cons _ _ => cases h
  | .cons s r, nm, kd, bx, h => by
    cases bx with
    | nil => cases h
    | cons st t =>
      refine and2e h ?_
      intro h1 h2
      exact snb_cons (ex_sound O hF s nm kd st h1) (exs_sound O hF r nm kd t h2)
end
end
end Mz
end

section
open PySem PySem.W PyProof.Rows
set_option Elab.async false
set_option autoImplicit false

set_option tactic.hygienic false

namespace Mz

/-! ### a call -/

theorem fm_congr {α β : Type} {f g : α → Option β} : ∀ {l : List α}, (∀ x ∈ l, f x = g x) → l.filterMap f = l.filterMap g
  | [], _ => rfl
  | a :: r, h => by
    rw [List.filterMap_cons, List.filterMap_cons, h a List.mem_cons_self, fm_congr fun x hx => h x (List.mem_cons_of_mem _ hx)]

theorem zip_lookup : ∀ {ns : List Str} {vals : List Value}, ns.Nodup → vals.length = ns.length → (ns.filterMap fun n => ((ns.zip vals).lookup n).map (n, ·)) = ns.zip vals
  | [], [], _, _ => rfl
  | n :: r, v :: t, nd, hl => by
    have h1 := (List.nodup_cons.mp nd).1
    rw [List.zip_cons_cons, List.filterMap_cons]
    simp only [List.lookup_cons, beq_self_eq_true, Option.map_some]
    congr 1
    rw [← zip_lookup (List.nodup_cons.mp nd).2 (by simpa using hl)]
    rw [zip_lookup (List.nodup_cons.mp nd).2 (by simpa using hl)]
    have : ∀ x ∈ r, (x == n) = false := fun x hx => by
      cases hb : x == n with
      | false => rfl
      | true => exact absurd (beq_iff_eq.mp hb ▸ hx) h1
    have key : (r.filterMap fun x => (match x == n with | true => some v | false => (r.zip t).lookup x).map (x, ·)) = r.filterMap fun x => ((r.zip t).lookup x).map (x, ·) :=
      fm_congr fun x hx => by rw [this x hx]
    exact key.trans (zip_lookup (List.nodup_cons.mp nd).2 (by simpa using hl))

theorem zip_missing : ∀ {ns : List Str} {vals : List Value}, vals.length = ns.length → (ns.filter fun n => ((ns.zip vals).lookup n).isNone) = [] := by
  intro ns vals hl
  rw [List.filter_eq_nil_iff]
  intro x hx
  have : ∀ {ns : List Str} {vals : List Value}, vals.length = ns.length → x ∈ ns → ∃ c, (ns.zip vals).lookup x = some c := by
    intro ns
    induction ns with
    | nil => intro vals _ h; cases h
    | cons n r ih =>
      intro vals hl h
      cases vals with
      | nil => simp at hl
      | cons v t =>
        rw [List.zip_cons_cons, List.lookup_cons]
        cases hb : x == n with
        | true => exact ⟨v, rfl⟩
        | false =>
          rcases List.mem_cons.mp h with e | h
          · rw [e] at hb; simp at hb
          · exact ih (by simpa using hl) h
  obtain ⟨c, hc⟩ := this hl hx
  simp [hc]

noncomputable def plainParams (p : Arguments) : Bool := p.posonlyargs.isEmpty && p.kwonlyargs.isEmpty && p.vararg.isNone && p.kwarg.isNone

theorem bind_plain {fd : FuncData} {vals : List Value} {ns : List Str} (hp : fd.params.posonlyargs = []) (hk : fd.params.kwonlyargs = []) (hv : fd.params.vararg = none) (hkw : fd.params.kwarg = none) (hd : fd.defaults = .none)
    (hn : fd.params.args.map (·.arg) = ns) (nd : ns.Nodup) (hl : vals.length = ns.length) : bindArgs fd ⟨vals, []⟩ = pure (ns.zip vals) := by
  unfold bindArgs
  simp [hp, hk, hv, hkw, hd, hn, hl, seqItems?, zip_missing hl, zip_lookup nd hl]
  rfl


theorem zip_get {α β : Type} : ∀ {as : List α} {bs : List β} {i : Nat} {a : α} {b : β}, as[i]? = some a → bs[i]? = some b → (as.zip bs)[i]? = some (a, b)
  | a :: as, b :: bs, 0, _, _, h, h' => by simp at h h'; subst h; subst h'; rfl
  | a :: as, b :: bs, i + 1, _, _, h, h' => by simp at h h'; simpa using zip_get h h'

theorem bindL_other {kf : Kd} : ∀ {binds : List (Str × Value)} {m : Str → Option Value} {x : Str}, x ∉ binds.map (·.1) → bindL kf binds m x = m x
  | [], m, x, _ => rfl
  | (n, v) :: r, m, x, h => by
    simp only [List.map_cons, List.mem_cons, not_or] at h
    unfold bindL
    rw [bindL_other h.2]
    split
    · simp [h.1]
    · rfl
theorem bindC_other {kf : Kd} : ∀ {binds : List (Str × Value)} {m : Str → Option Value} {x : Str}, x ∉ binds.map (·.1) → bindC kf binds m x = m x
  | [], m, x, _ => rfl
  | (n, v) :: r, m, x, h => by
    simp only [List.map_cons, List.mem_cons, not_or] at h
    unfold bindC
    rw [bindC_other h.2]
    split
    · rfl
    · simp [h.1]
theorem bindL_get {kf : Kd} : ∀ {binds : List (Str × Value)} {m : Str → Option Value} {i : Nat} {x : Str} {v : Value}, (binds.map (·.1)).Nodup → binds[i]? = some (x, v) → kf x = some .local → bindL kf binds m x = some v
  | (n, w) :: r, m, 0, x, v, nd, h, hk => by
    simp at h
    obtain ⟨rfl, rfl⟩ := h
    unfold bindL
    rw [bindL_other (List.nodup_cons.mp nd).1, if_pos hk]
    simp
  | (n, w) :: r, m, i + 1, x, v, nd, h, hk => by
    unfold bindL
    exact bindL_get (List.nodup_cons.mp nd).2 (by simpa using h) hk
theorem bindC_get {kf : Kd} : ∀ {binds : List (Str × Value)} {m : Str → Option Value} {i : Nat} {x : Str} {v : Value}, (binds.map (·.1)).Nodup → binds[i]? = some (x, v) → kf x = some .cell → bindC kf binds m x = some v
  | (n, w) :: r, m, 0, x, v, nd, h, hk => by
    simp at h
    obtain ⟨rfl, rfl⟩ := h
    unfold bindC
    rw [bindC_other (List.nodup_cons.mp nd).1, if_neg (by rw [hk]; decide)]
    simp
  | (n, w) :: r, m, i + 1, x, v, nd, h, hk => by
    unfold bindC
    exact bindC_get (List.nodup_cons.mp nd).2 (by simpa using h) hk

structure FnOk (G : Gd) (a : Addr) (fn : Fn) : Prop where
  ok : ∃ o fd body nm, G.K.lookup a = some o ∧ o.data = .func fd ∧ fd.body = .stmts body ∧ fd.closure = [] ∧ fd.globals = mainGlobals ∧ fd.builtins = builtinsNs ∧ fd.scope.isCoroutine = false ∧ fd.scope.isGenerator = false ∧
    fd.scope.kind = .function ∧ codeIn G.K fd.code fd.qualname = true ∧ plainParams fd.params = true ∧ fd.defaults = .none ∧ fd.params.args.map (·.arg) = nm.take fn.nargs ∧ nm.length = fn.nslots ∧ fn.nargs ≤ fn.nslots ∧ nm.Nodup ∧
    (∀ x ∈ nm, fd.scope.names.lookup x = some .local ∨ fd.scope.names.lookup x = some .cell) ∧ (∀ p ∈ fd.scope.names, p.2 ≠ .free) ∧ nodupKeys fd.scope.names = true ∧ cB G fn.body nm (fun x => fd.scope.names.lookup x) body = true

structure Gd.Fns (G : Gd) : Prop where
  last : ∃ b o, G.base.get? b = some o ∧ G.base.objs.size ≤ b + 1
  fns : ∀ f a fn, G.fnA f = some a → G.T.fn f = some fn → FnOk G a fn

theorem pre_drop_size {G : Gd} {ρ : RMap} {H : Hp} {s : Shared} (W : G.Fns) (S : Sim G ρ H s) : G.base.objs.size ≤ s.heap.objs.size := by
  obtain ⟨b, o, h1, h2⟩ := W.last
  exact Nat.le_trans h2 (Nat.succ_le_of_lt (Heap.lt_size (S.keep b o h1)))

theorem get_out {h : Heap} {a : Addr} (ha : h.objs.size ≤ a) : h.get? a = none := by
  cases e : h.get? a with
  | none => rfl
  | some o => exact absurd (Heap.lt_size e) (Nat.not_lt.mpr ha)

theorem off_new {G : Gd} {ρ : RMap} {H : Hp} {s : Shared} (S : Sim G ρ H s) {a : Addr} (ha : s.heap.objs.size ≤ a) : Off ρ a := by
  intro p hp
  obtain ⟨⟨o1, g1⟩, ⟨o2, g2⟩⟩ := S.rep.live hp
  exact ⟨fun e => absurd (e ▸ Heap.lt_size g1) (Nat.not_lt.mpr ha), fun e => absurd (e ▸ Heap.lt_size g2) (Nat.not_lt.mpr ha)⟩

set_option tactic.hygienic true in
theorem fn_sound {G : Gd} (O : G.Ok) (W : G.Fns) {F : FnT} {d : Nat} (hF : FnS G F d) {fn : Fn} {a : Addr} (hfn : FnOk G a fn) {args : List V} {H : Hp} {v : V} {H' : Hp} {A : Around} {ρ : RMap} {s : Shared} {xs : List Value}
    (hev : runFn G.T F fn args H = some (v, H')) (hA : ArF A (d + 1)) (S : Sim G ρ H s) (hx : All2 (VR ρ) args xs) :
    codeAny (model G.prog G.w) A (.call (.ref a) ⟨xs, []⟩) (fun r s' => ∃ x, r = .ok (.ret x) ∧ ∃ ρ', VR ρ' v x ∧ Sim G ρ' H' s' ∧ Stp [] ρ ρ' s s') s := by
  obtain ⟨o, fd, body, nm, k1, k2, k3, k4, k5, k6, k7, k8, k9, k10, k11, k12, k13, k14, k15, k16, k17, k18, k19, k20⟩ := hfn.ok
  unfold runFn at hev
  split at hev
  · rename_i hlen
    have hbo : G.base.get? a = some o := O.kin _ _ k1
    have hso := S.keep _ _ hbo
    simp only [plainParams, Bool.and_eq_true, List.isEmpty_iff, Option.isNone_iff_eq_none] at k11
    have hns : (nm.take fn.nargs).Nodup := k16.sublist (List.take_sublist _ _)
    have hxl : xs.length = (nm.take fn.nargs).length := by rw [← hx.length, hlen, List.length_take, k14]; omega
    have hKin : G.K.In s.heap := O.kin.keeps S.keep
    have hfst : ((nm.take fn.nargs).zip xs).map (·.1) = nm.take fn.nargs := by
      rw [List.map_fst_zip]; omega
    have hkd : ∀ x ∈ (nm.take fn.nargs).zip xs, fd.scope.names.lookup x.1 = some .local ∨ (fd.scope.names.lookup x.1 = some .cell ∧ ((cellsFrom (s.heap.objs.size + 1) fd.scope.names []).lookup x.1).isSome = true) := by
      intro x hm
      have hx1 : x.1 ∈ nm := List.mem_of_mem_take ((List.of_mem_zip (a := x.1) (b := x.2) hm).1)
      rcases k17 x.1 hx1 with h | h
      · exact .inl h
      · obtain ⟨c, hc⟩ := cellsFrom_has (n := s.heap.objs.size + 1) (mem_of_lookup h)
        obtain ⟨c', hc', _⟩ := lookup_isSome_of_mem hc
        exact .inr ⟨h, by rw [hc']; rfl⟩
    refine codeAny_call_cells (fd := fd) (body := body) (binds := (nm.take fn.nargs).zip xs) (by have := hA.depth; omega) hso k2 (O.nolimit.keeps S.keep) (codeRec_of hKin k10) k3
      (bind_plain k11.1.1.1 k11.1.1.2 k11.1.2 k11.2 k12 k13 hns hxl) k4 hkd (fun s₁ x => ?_) k7 k8 k9
    obtain ⟨h', tk, e, hk⟩ := x.done
    subst e
    obtain ⟨S1, st1⟩ := grow (h' := h') (tk := tk) S hk
    have hL : (callEnvC fd s.heap.objs.size a).locals = s.heap.objs.size := rfl
    have nofree : ∀ y, fd.scope.names.lookup y ≠ some .free := fun y h => k18 (y, .free) (mem_of_lookup h) rfl
    -- an argument's value
    have argAt : ∀ (i : Nat) y v, nm[i]? = some y → (args.map some ++ List.replicate (fn.nslots - fn.nargs) none : Loc)[i]? = some (some v) → ∃ val, ((nm.take fn.nargs).zip xs)[i]? = some (y, val) ∧ VR ρ v val := by
      intro i y v hi hv
      have hlt : i < args.length := by
        rcases Nat.lt_or_ge i args.length with h | h
        · exact h
        · rw [List.getElem?_append_right (by simpa using h)] at hv
          rw [List.getElem?_replicate] at hv
          split at hv <;> simp at hv
      rw [List.getElem?_append_left (by simpa using hlt), List.getElem?_map] at hv
      cases ha : args[i]? with
      | none => rw [ha] at hv; simp at hv
      | some u =>
        rw [ha] at hv
        simp at hv
        subst hv
        obtain ⟨val, hval, r⟩ := hx.get ha
        refine ⟨val, zip_get ?_ hval, r⟩
        rw [List.getElem?_take, if_pos (by first | assumption | exact Nat.le_of_lt ‹_› | exact Nat.lt_succ_of_lt ‹_› | exact Nat.ne_of_lt ‹_› | exact Nat.ne_of_gt ‹_› | exact Nat.le_trans ‹_› (by decide) | exact Nat.lt_of_lt_of_le ‹_› (by decide) | decide | omega)]
        exact hi
    have lc : Lc G nm (fun x => fd.scope.names.lookup x) (callEnvC fd s.heap.objs.size a) ρ (args.map some ++ List.replicate (fn.nslots - fn.nargs) none) { s with heap := h', toks := tk } := by
      refine { kind := k9, kinds := fun _ => rfl, gl := k5, bl := k6, above := pre_drop_size W S, ns := ⟨_, x.toInCall.ns, ?_⟩, offL := off_new S (Nat.le_refl _), cells := ?_, cval := ?_, cinj := ?_, nodup := k16, len := ?_ }
      · intro i y v hi hv hk
        obtain ⟨val, hz, r⟩ := argAt i y v hi hv
        exact ⟨val, bindL_get (by rw [hfst]; exact hns) hz hk, r⟩
      · intro y hy
        have hy : fd.scope.names.lookup y = some .cell := hy.resolve_right (nofree y)
        obtain ⟨c0, hc0⟩ := cellsFrom_has (n := s.heap.objs.size + 1) (mem_of_lookup hy)
        obtain ⟨c, hc, hcm⟩ := lookup_isSome_of_mem hc0
        have hab : s.heap.objs.size < c := x.above y c hcm
        refine ⟨c, hc, ⟨_, x.cell y c hc⟩, Nat.ne_of_gt hab, off_new S (Nat.le_of_lt hab), get_out ?_⟩
        have := pre_drop_size W S
        omega
      · intro i y v c hi hv hk hc
        have hk : fd.scope.names.lookup y = some .cell := hk.resolve_right (nofree y)
        obtain ⟨val, hz, r⟩ := argAt i y v hi hv
        refine ⟨val, ?_, r⟩
        have := x.cell y c hc
        rw [bindC_get (by rw [hfst]; exact hns) hz hk] at this
        exact this
      · intro y z c _ _ hc hc'
        exact name_of_addr x.apart (mem_of_lookup hc) (mem_of_lookup hc')
      · rw [List.length_append, List.length_map, List.length_replicate, k14, hlen]; omega
    have done : ∀ {ρ' : RMap} {s' : Shared}, Stp (ownOf (fun x => fd.scope.names.lookup x) (callEnvC fd s.heap.objs.size a)) ρ ρ' { s with heap := h', toks := tk } s' → Stp [] ρ ρ' s s' := by
      intro ρ' s' st
      refine ((st1.own_mono (by simp)).trans st).drop_own [] fun b hb => .inr ?_
      rcases own_inv hb with e | ⟨y, hy, hc⟩
      · rw [e]; exact heap_fresh _
      · exact get_out (Nat.le_of_lt (x.above y b (mem_of_lookup hc)))
    split at hev
    · rename_i rv l' H1 e1
      cases hev
      refine wpAny_mono ((exs_sound O hF fn.body nm _ body k20).run (hA.deeper _) lc S1 e1) (fun f s' h => ?_) fun _ _ f => f.elim
      obtain ⟨ρ', ⟨z, rfl, hz⟩, a'⟩ := h
      exact ⟨z, rfl, ρ', hz, a'.sim, done a'.stp⟩
    · rename_i l' H1 e1
      cases hev
      refine wpAny_mono ((exs_sound O hF fn.body nm _ body k20).run (hA.deeper _) lc S1 e1) (fun f s' h => ?_) fun _ _ f => f.elim
      obtain ⟨ρ', hf, a'⟩ := h
      obtain rfl : f = .next := hf
      exact ⟨.none, rfl, ρ', rfl, a'.sim, done a'.stp⟩
    · cases hev
  · cases hev

set_option tactic.hygienic true in
theorem fd_sound {G : Gd} (O : G.Ok) (W : G.Fns) : ∀ d, FnS G (Fd G.T d) d
  | 0 => fun f a args H v H' A ρ s xs ha hev hA S hx => by simp [Fd] at hev
  | d + 1 => fun f a args H v H' A ρ s xs ha hev hA S hx => by
    simp only [Fd] at hev
    split at hev
    · rename_i fn hfn
      exact fn_sound O W (fd_sound O W d) (W.fns f a fn ha hfn) hev hA S hx
    · cases hev

end Mz
end

section
open PySem PySem.W PyProof.Rows
set_option Elab.async false
set_option autoImplicit false
set_option maxRecDepth 100000
set_option maxHeartbeats 4000000

set_option tactic.hygienic false

namespace Mz

noncomputable def fnAs : List Addr := [28,35,49,56,91,105,112,119,126,133,140,147,154,190,204,211,218,225,232,239,246,253,267,281,288,295,303,310,315,320,327,332,337,342]
noncomputable def fnAOf (f : Nat) : Option Addr := fnAs[f]?
noncomputable def clsAOf : Nat → Option Addr
  | 0 => some 73
  | 1 => some 94
  | 3 => some 193
  | 4 => some 270
  | _ => none
noncomputable def nms : List (List Str) := [nm_side_of, nm_kind_of, nm_Random_init, nm_Random_next, nm_Zobrist_init, nm_draw_row, nm_rights_row, nm_make_zobrist, nm_state_key, nm_full_key, nm_pawn_key, nm_non_pawn_key, nm_material_key, nm_Geometry_init, nm_is_growing, nm_add_masks, nm_inner_squares, nm_add_rays, nm_add_pawns, nm_add_knights, nm_add_castles, nm_make_geometry, nm_Position_init, nm_put_piece, nm_settle_key, nm_law_shapes, nm_law_at, nm_law_xor, nm_law_drawn, nm_law_place, nm_law_position, nm_law_told, nm_law_alike, nm_law]
noncomputable def globL : List (Str × V) := [("WHITE", .int 0), ("BLACK", .int 1), ("PAWN", .int 1), ("KING", .int 6), ("EMPTY", .int 0), ("WORD", .int 18446744073709551615), ("STAR", .int 2685821657736338717), ("_law_kinds", .ref 0), ("STEP_FILES", .ref 1), ("STEP_RANKS", .ref 2)]
noncomputable def fnL : List (Str × Nat) := [("side_of", 0), ("kind_of", 1), ("draw_row", 5), ("rights_row", 6), ("make_zobrist", 7), ("state_key", 8), ("full_key", 9), ("pawn_key", 10), ("non_pawn_key", 11), ("material_key", 12), ("is_growing", 14), ("add_masks", 15), ("inner_squares", 16), ("add_rays", 17), ("add_pawns", 18), ("add_knights", 19), ("add_castles", 20), ("make_geometry", 21), ("put_piece", 23), ("settle_key", 24), ("_law_shapes", 25), ("_law_at", 26), ("_law_xor", 27), ("_law_drawn", 28), ("_law_place", 29), ("_law_position", 30), ("_law_told", 31), ("_law_alike", 32), ("law", 33)]
noncomputable def clsL : List (Str × Nat) := [("Random", 0), ("Zobrist", 1), ("Geometry", 3), ("Position", 4)]

noncomputable def Gof (w : World) (base : Heap) (mg mb : Str → Option Value) : Gd where
  prog := PySem.Challenge.rw_nt0433_01.row.prog
  w := w
  base := base
  K := KK w.params
  mg := mg
  mb := mb
  T := tab
  glob := fun x => globL.lookup x
  fn := fun x => fnL.lookup x
  cls := fun x => clsL.lookup x
  attrs := attrs
  fnA := fnAOf
  clsA := clsAOf
  isField := fun a => a != 5
  ρ₀ := [(296, 296), (175, 175), (176, 176)]

theorem opt_any {α : Type} {o : Option α} {p : α → Bool} (h : o.any p = true) : ∃ a, o = some a ∧ p a = true := by
  cases o with
  | none => cases h
  | some a => exact ⟨a, rfl, h⟩
theorem lookup_all {α : Type} {P : Str → α → Prop} : ∀ {l : List (Str × α)}, (∀ p ∈ l, P p.1 p.2) → ∀ x v, l.lookup x = some v → P x v :=
  fun h x v e => h (x, v) (mem_of_lookup e)

section
variable {w : World} {base : Heap} {mg mb : Str → Option Value}

noncomputable def fnChk (G : Gd) (a : Addr) (fn : Fn) (nm : List Str) : Bool := match G.K.lookup a with
  | some ⟨_, _, .func fd, _⟩ => (match fd.body with
    | .stmts body => fd.closure.isEmpty && fd.globals == mainGlobals && fd.builtins == builtinsNs && !fd.scope.isCoroutine && !fd.scope.isGenerator && fd.scope.kind == .function && codeIn G.K fd.code fd.qualname && plainParams fd.params &&
      (match fd.defaults with | .none => true | _ => false) && fd.params.args.map (·.arg) == nm.take fn.nargs && nm.length == fn.nslots && decide (fn.nargs ≤ fn.nslots) && decide nm.Nodup &&
      (nm.all fun x => fd.scope.names.lookup x == some .local || fd.scope.names.lookup x == some .cell) && (fd.scope.names.all fun p => p.2 != .free) && nodupKeys fd.scope.names && cB G fn.body nm (fun x => fd.scope.names.lookup x) body
    | _ => false)
  | _ => false

set_option tactic.hygienic true in
theorem fnOk_of {G : Gd} {a : Addr} {fn : Fn} {nm : List Str} (h : fnChk G a fn nm = true) : FnOk G a fn := by
  unfold fnChk at h
  split at h
  · rename_i oc od fd osl ho
    split at h
    · rename_i body hb
      simp only [Bool.and_eq_true, List.isEmpty_iff, beq_iff_eq, Bool.not_eq_true', decide_eq_true_eq, List.all_eq_true, Bool.or_eq_true, bne_iff_ne, ne_eq] at h
      obtain ⟨⟨⟨⟨⟨⟨⟨⟨⟨⟨⟨⟨⟨⟨⟨⟨h1, h2⟩, h3⟩, h4⟩, h5⟩, h6⟩, h7⟩, h8⟩, h9⟩, h10⟩, h11⟩, h12⟩, h13⟩, h14⟩, h15⟩, h16⟩, h17⟩ := h
      refine ⟨_, fd, body, nm, ho, rfl, hb, h1, h2, h3, h4, h5, h6, h7, h8, ?_, h10, h11, h12, h13, h14, h15, h16, h17⟩
      split at h9
      · assumption
      · cases h9
    · cases h
  · cases h

noncomputable def fnsChk (G : Gd) : Nat → List Addr → List (List Str) → Bool
  | _, [], _ => true
  | f, a :: as, nm :: ns => (match fnOf f with | some fn => fnChk G a fn nm | none => false) && fnsChk G (f + 1) as ns
  | _, _ :: _, [] => false
theorem fnsChk_of {G : Gd} : ∀ {as : List Addr} {ns : List (List Str)} {k : Nat}, fnsChk G k as ns = true → ∀ (i : Nat) a fn, as[i]? = some a → fnOf (k + i) = some fn → FnOk G a fn
  | a :: as, nm :: ns, k, h, i, b, fn, hb, hf => by
    simp only [fnsChk, Bool.and_eq_true] at h
    cases i with
    | zero =>
      simp at hb hf
      subst hb
      rw [hf] at h
      exact fnOk_of h.1
    | succ i =>
      exact fnsChk_of h.2 i b fn (by simpa using hb) (by rw [show k + 1 + i = k + (i + 1) by first | assumption | exact Nat.le_of_lt ‹_› | exact Nat.lt_succ_of_lt ‹_› | exact Nat.ne_of_lt ‹_› | exact Nat.ne_of_gt ‹_› | exact Nat.le_trans ‹_› (by decide) | exact Nat.lt_of_lt_of_le ‹_› (by decide) | decide | omega]; exact hf)

theorem gi_fns (hl : ∃ b o, base.get? b = some o ∧ base.objs.size ≤ b + 1) : (Gof w base mg mb).Fns where
  last := hl
  fns := fun f a fn ha hf => fnsChk_of (G := Gof w base mg mb) (as := fnAs) (ns := nms) (k := 0) (by kernel_rfl) f a fn ha (by rw [Nat.zero_add]; exact hf)

noncomputable def isTok (G : Gd) (x : Str) (v : V) : Bool := match nsIn G.K mainGlobals x, v with
  | some (some (.int i _)), .int j => i == j
  | some (some (.ref a)), .ref k => G.ρ₀[k]? == some (a, a)
  | _, _ => false

theorem cls_cases {c : Nat} {C : Addr} (h : clsAOf c = some C) : (c = 0 ∧ C = 73) ∨ (c = 1 ∧ C = 94) ∨ (c = 3 ∧ C = 193) ∨ (c = 4 ∧ C = 270) := by
  unfold clsAOf at h
  split at h <;> simp at h <;> subst h <;> simp

noncomputable def fldChk (K : Frag) (C : Addr) : Bool := (attrs.zipIdx.all fun p => p.2 == 5 || (plainGet K C p.1 && (match findIn K (.ref C) p.1 with | some at_ => noGet K at_ | none => false) && takerIn K C p.1 == some none)) && hasDictIn K C &&
  findIn K (.ref C) "__setattr__" == some (some (.builtin "object.__setattr__")) && plainOver K C && keepIn K (.ref C)

theorem fldChk_all (K : Frag) : fldChk (KK w.params) 73 = true ∧ fldChk (KK w.params) 94 = true ∧ fldChk (KK w.params) 193 = true ∧ fldChk (KK w.params) 270 = true := by
  refine ⟨?_, ?_, ?_, ?_⟩ <;> kernel_rfl

theorem fldChk_of {c : Nat} {C : Addr} (h : clsAOf c = some C) : fldChk (KK w.params) C = true := by
  obtain ⟨h1, h2, h3, h4⟩ := fldChk_all (w := w) (KK w.params)
  rcases cls_cases h with ⟨_, rfl⟩ | ⟨_, rfl⟩ | ⟨_, rfl⟩ | ⟨_, rfl⟩
  · exact h1
  · exact h2
  · exact h3
  · exact h4

set_option tactic.hygienic true in
theorem gi_cls (X : (KK w.params).In base) : ClsOk (Gof w base mg mb) where
  kin := X
  nodup := by show attrs.Nodup; exact of_decide_eq_true (by kernel_rfl)
  cget := fun c C hc a x hx hf => by
    have h := fldChk_of (w := w) hc
    simp only [fldChk, Bool.and_eq_true, List.all_eq_true, Bool.or_eq_true, beq_iff_eq] at h
    obtain ⟨⟨⟨⟨h1, h2⟩, h3⟩, h4⟩, h5⟩ := h
    have hf : (a != 5) = true := hf
    have hm : (x, a) ∈ attrs.zipIdx := by
      rw [List.mem_zipIdx_iff_getElem?]
      exact hx
    rcases h1 _ hm with h | ⟨⟨g1, g2⟩, g3⟩
    · have h : a = 5 := h
      subst h
      cases hf
    · refine ⟨g1, h2, ?_, g3⟩
      split at g2
      · rename_i at_ e
        exact ⟨at_, e, g2⟩
      · cases g2
  cset := fun c C hc => by
    have h := fldChk_of (w := w) hc
    simp only [fldChk, Bool.and_eq_true, beq_iff_eq] at h
    obtain ⟨⟨⟨⟨h1, h2⟩, h3⟩, h4⟩, h5⟩ := h
    exact ⟨h3, h4⟩

set_option tactic.hygienic true in
theorem vr_of_tok {G : Gd} {x : Str} {v : V} (h : isTok G x v = true) : ∃ val, nsIn G.K mainGlobals x = some (some val) ∧ VR G.ρ₀ v val := by
  unfold isTok at h
  split at h
  · rename_i i t j e
    simp at h; subst h
    exact ⟨_, e, _, rfl⟩
  · rename_i a k e
    simp at h
    exact ⟨_, e, (a, a), h, rfl⟩
  · cases h

noncomputable def newChk (K : Frag) (C fI : Addr) : Bool := findIn K (.ref C) "__init__" == some (some (.ref fI)) && isFn K (.ref fI) && makesIn K C
theorem newChk_all : newChk (KK w.params) 73 49 = true ∧ newChk (KK w.params) 94 91 = true ∧ newChk (KK w.params) 193 190 = true ∧ newChk (KK w.params) 270 267 = true := by
  refine ⟨?_, ?_, ?_, ?_⟩ <;> kernel_rfl
theorem newChk_of {K : Frag} {C fI : Addr} (h : newChk K C fI = true) : findIn K (.ref C) "__init__" = some (some (.ref fI)) ∧ isFn K (.ref fI) = true ∧ makesIn K C = true := by
  simp only [newChk, Bool.and_eq_true, beq_iff_eq] at h
  exact ⟨h.1.1, h.1.2, h.2⟩

theorem gi_ok {loose : List Str} {mean : ExcName → Option Value} (X : (KK w.params).In base) (T : Top vw loose mean mg mb base) : (Gof w base mg mb).Ok where
  toClsOk := gi_cls X
  g := T.g
  b := T.b
  nolimit := T.nolimit
  blen := ⟨mg_none_of X T.g (by kernel_rfl), (T.builtins _ (of_decide_eq_true (by kernel_rfl))).trans (by kernel_rfl)⟩
  bsorted := ⟨mg_none_of X T.g (by kernel_rfl), (T.builtins _ (of_decide_eq_true (by kernel_rfl))).trans (by kernel_rfl)⟩
  blist := ⟨mg_none_of X T.g (by kernel_rfl), (T.builtins _ (of_decide_eq_true (by kernel_rfl))).trans (by kernel_rfl)⟩
  brange := ⟨mg_none_of X T.g (by kernel_rfl), (T.builtins _ (of_decide_eq_true (by kernel_rfl))).trans (by kernel_rfl)⟩
  globOk := fun x v h => by
    have := lookup_all (P := fun x v => isTok (Gof w base mg mb) x v = true) (l := globL) (by
      have : globL.all (fun p => isTok (Gof w base mg mb) p.1 p.2) = true := by kernel_rfl
      exact fun p hp => List.all_eq_true.mp this p hp) x v h
    obtain ⟨val, e, r⟩ := vr_of_tok this
    exact ⟨val, mg_of X T.g e, r⟩
  fnOk := fun x f h => by
    have := lookup_all (P := fun x f => (fnAOf f).any (fun a => nsIn (KK w.params) mainGlobals x == some (some (.ref a))) = true) (l := fnL) (by
      have : fnL.all (fun p => (fnAOf p.2).any (fun a => nsIn (KK w.params) mainGlobals p.1 == some (some (.ref a)))) = true := by kernel_rfl
      exact fun p hp => List.all_eq_true.mp this p hp) x f h
    obtain ⟨a, ha, e⟩ := opt_any this
    exact ⟨a, ha, mg_of X T.g (by simpa using e)⟩
  fnKeep := fun f a h => by
    have : fnAs.all (fun a => keepIn (KK w.params) (.ref a)) = true := by kernel_rfl
    exact List.all_eq_true.mp this a (List.mem_of_getElem? h)
  clsName := fun x c h => by
    have := lookup_all (P := fun x f => (clsAOf f).any (fun a => nsIn (KK w.params) mainGlobals x == some (some (.ref a))) = true) (l := clsL) (by
      have : clsL.all (fun p => (clsAOf p.2).any (fun a => nsIn (KK w.params) mainGlobals p.1 == some (some (.ref a)))) = true := by kernel_rfl
      exact fun p hp => List.all_eq_true.mp this p hp) x c h
    obtain ⟨a, ha, e⟩ := opt_any this
    exact ⟨a, ha, mg_of X T.g (by simpa using e)⟩
  clsKeep := fun c C hc => by
    have h := fldChk_of (w := w) hc
    simp only [fldChk, Bool.and_eq_true, beq_iff_eq] at h
    exact h.2
  new := fun c C f hc hf => by
    obtain ⟨h1, h2, h3, h4⟩ := newChk_all (w := w)
    have hf : initOf c = some f := hf
    rcases cls_cases hc with ⟨rfl, rfl⟩ | ⟨rfl, rfl⟩ | ⟨rfl, rfl⟩ | ⟨rfl, rfl⟩
    · obtain rfl : 2 = f := by simpa [initOf] using hf
      exact ⟨49, rfl, newChk_of h1⟩
    · obtain rfl : 4 = f := by simpa [initOf] using hf
      exact ⟨91, rfl, newChk_of h2⟩
    · obtain rfl : 13 = f := by simpa [initOf] using hf
      exact ⟨190, rfl, newChk_of h3⟩
    · obtain rfl : 22 = f := by simpa [initOf] using hf
      exact ⟨267, rfl, newChk_of h4⟩
  meth := fun c C m f y hc hf hy => by
    have hf : methOf c m = some f := hf
    unfold methOf at hf
    split at hf
    · cases hf
      obtain rfl : 73 = C := by simpa [Gof, clsAOf] using hc
      obtain rfl : ("next" : Str) = y := Option.some.inj ((show attrs[5]? = some ("next" : Str) by kernel_rfl).symm.trans hy)
      refine ⟨56, rfl, ?_⟩
      have : (findIn (KK w.params) (.ref 73) "next" == some (some (.ref 56)) && isFn (KK w.params) (.ref 56) && plainGet (KK w.params) 73 "next") = true := by kernel_rfl
      simp only [Bool.and_eq_true, beq_iff_eq] at this
      exact ⟨this.1.1, this.1.2, this.2⟩
    · cases hf
end
end Mz
end

section
open PySem PySem.W PyProof.Rows
set_option Elab.async false
set_option autoImplicit false

set_option tactic.hygienic false

namespace Mz

/-! ## the law, in plain Lean -/

noncomputable abbrev N (n : Nat) : V := .int n

theorem nat_band (a b : Nat) : Builtin.bitAnd (a : Int) (b : Int) = ((a &&& b : Nat) : Int) := by
  simp [Builtin.bitAnd]
theorem bits_step (a b : Nat) (ih : (a / 2 ^^^ b / 2) + (a / 2 &&& b / 2) = (a / 2 ||| b / 2) ∧ (a / 2 ||| b / 2) + (a / 2 &&& b / 2) = a / 2 + b / 2) :
    (a ^^^ b) + (a &&& b) = (a ||| b) ∧ (a ||| b) + (a &&& b) = a + b := by
  have o2 : (a ||| b) / 2 = (a / 2 ||| b / 2) := Nat.or_div_two
  have a2 : (a &&& b) / 2 = (a / 2 &&& b / 2) := Nat.and_div_two
  have x2 : (a ^^^ b) / 2 = (a / 2 ^^^ b / 2) := Nat.xor_div_two
  have om : (a ||| b) % 2 = (a % 2 ||| b % 2) := by simpa using (Nat.or_mod_two_pow (a := a) (b := b) (n := 1))
  have am : (a &&& b) % 2 = (a % 2 &&& b % 2) := by simpa using (Nat.and_mod_two_pow (a := a) (b := b) (n := 1))
  have xm : (a ^^^ b) % 2 = (a % 2 ^^^ b % 2) := by simpa using (Nat.xor_mod_two_pow (a := a) (b := b) (n := 1))
  have key : (a % 2 ^^^ b % 2) + (a % 2 &&& b % 2) = (a % 2 ||| b % 2) ∧ (a % 2 ||| b % 2) + (a % 2 &&& b % 2) = a % 2 + b % 2 := by
    rcases Nat.mod_two_eq_zero_or_one a with h1 | h1 <;> rcases Nat.mod_two_eq_zero_or_one b with h2 | h2 <;> rw [h1, h2] <;> decide
  rw [← o2, ← a2, ← x2] at ih
  rw [← om, ← am, ← xm] at key
  omega
theorem bits_sum : ∀ (n a b : Nat), a ≤ n → (a ^^^ b) + (a &&& b) = (a ||| b) ∧ (a ||| b) + (a &&& b) = a + b
  | 0, a, b, h => by
    obtain rfl : a = 0 := by first | assumption | exact Nat.le_of_lt ‹_› | exact Nat.lt_succ_of_lt ‹_› | exact Nat.ne_of_lt ‹_› | exact Nat.ne_of_gt ‹_› | exact Nat.le_trans ‹_› (by decide) | exact Nat.lt_of_lt_of_le ‹_› (by decide) | decide | omega
    simp
  | n + 1, a, b, h => bits_step a b (bits_sum n (a / 2) (b / 2) (by first | assumption | exact Nat.le_of_lt ‹_› | exact Nat.lt_succ_of_lt ‹_› | exact Nat.ne_of_lt ‹_› | exact Nat.ne_of_gt ‹_› | exact Nat.le_trans ‹_› (by decide) | exact Nat.lt_of_lt_of_le ‹_› (by decide) | decide | omega))
theorem kadd (a b : Nat) : (a ||| b) + (a &&& b) = a + b := (bits_sum a a b (Nat.le_refl _)).2
theorem xadd (a b : Nat) : (a ^^^ b) + (a &&& b) = (a ||| b) := (bits_sum a a b (Nat.le_refl _)).1
theorem nat_bor (a b : Nat) : Builtin.bitOr (a : Int) (b : Int) = ((a ||| b : Nat) : Int) := by
  have h := kadd a b
  have n1 : ¬ (0 ≤ -(a : Int) - 1) := by first | assumption | exact Nat.le_of_lt ‹_› | exact Nat.lt_succ_of_lt ‹_› | exact Nat.ne_of_lt ‹_› | exact Nat.ne_of_gt ‹_› | exact Nat.le_trans ‹_› (by decide) | exact Nat.lt_of_lt_of_le ‹_› (by decide) | decide | omega
  have n2 : ¬ (0 ≤ -(b : Int) - 1) := by first | assumption | exact Nat.le_of_lt ‹_› | exact Nat.lt_succ_of_lt ‹_› | exact Nat.ne_of_lt ‹_› | exact Nat.ne_of_gt ‹_› | exact Nat.le_trans ‹_› (by decide) | exact Nat.lt_of_lt_of_le ‹_› (by decide) | decide | omega
  simp only [Builtin.bitOr, Builtin.bitAnd, Builtin.bitNot, n1, n2, decide_false]
  have e1 : (-(-(a : Int) - 1) - 1).toNat = a := by first | assumption | exact Nat.le_of_lt ‹_› | exact Nat.lt_succ_of_lt ‹_› | exact Nat.ne_of_lt ‹_› | exact Nat.ne_of_gt ‹_› | exact Nat.le_trans ‹_› (by decide) | exact Nat.lt_of_lt_of_le ‹_› (by decide) | decide | omega
  have e2 : (-(-(b : Int) - 1) - 1).toNat = b := by first | assumption | exact Nat.le_of_lt ‹_› | exact Nat.lt_succ_of_lt ‹_› | exact Nat.ne_of_lt ‹_› | exact Nat.ne_of_gt ‹_› | exact Nat.le_trans ‹_› (by decide) | exact Nat.lt_of_lt_of_le ‹_› (by decide) | decide | omega
  rw [e1, e2]; omega
theorem nat_bxor (a b : Nat) : Builtin.bitXor (a : Int) (b : Int) = ((a ^^^ b : Nat) : Int) := by
  unfold Builtin.bitXor
  rw [nat_bor, nat_band]
  have := xadd a b
  omega

theorem nat_fdiv (a b : Nat) : Int.fdiv (a : Int) (b : Int) = ((a / b : Nat) : Int) := by
  rw [Int.fdiv_eq_ediv_of_nonneg _ (by first | assumption | exact Nat.le_of_lt ‹_› | exact Nat.lt_succ_of_lt ‹_› | exact Nat.ne_of_lt ‹_› | exact Nat.ne_of_gt ‹_› | exact Nat.le_trans ‹_› (by decide) | exact Nat.lt_of_lt_of_le ‹_› (by decide) | decide | omega)]; rfl
theorem nat_fmod (a b : Nat) : Int.fmod (a : Int) (b : Int) = ((a % b : Nat) : Int) := by
  rw [Int.fmod_eq_emod_of_nonneg _ (by first | assumption | exact Nat.le_of_lt ‹_› | exact Nat.lt_succ_of_lt ‹_› | exact Nat.ne_of_lt ‹_› | exact Nat.ne_of_gt ‹_› | exact Nat.le_trans ‹_› (by decide) | exact Nat.lt_of_lt_of_le ‹_› (by decide) | decide | omega)]; rfl

noncomputable abbrev LV (n : Nat) (g : Nat → V) : O := .list ((List.range n).map g)
noncomputable abbrev LN (n : Nat) (g : Nat → Nat) : O := LV n fun s => N (g s)

theorem LV_len (n : Nat) (g : Nat → V) : ((List.range n).map g).length = n := by simp

theorem getIdx_LV {h : Hp} {k n i : Nat} {g : Nat → V} (hk : h[k]? = some (LV n g)) (hi : i < n) (hn : n ≤ 1000) : getIdx h (.ref k) (.int (i : Int)) = some (g i) := by
  have : (0 : Int) ≤ (i : Int) := by first | assumption | exact Nat.le_of_lt ‹_› | exact Nat.lt_succ_of_lt ‹_› | exact Nat.ne_of_lt ‹_› | exact Nat.ne_of_gt ‹_› | exact Nat.le_trans ‹_› (by decide) | exact Nat.lt_of_lt_of_le ‹_› (by decide) | decide | omega
  simp [getIdx, hk, this, hn, hi]

theorem loop_inv (f : Loc → Hp → Option (Fl × Loc × Hp)) (x : Nat) (it : It) (n : Nat) (I : Nat → Loc → Hp → Prop)
    (hlen : ∀ l h, I n l h → lenIt h it = some n)
    (step : ∀ i l h, i < n → I i l h → ∃ v l' h', itemAt h it i = some v ∧ f (l.set x (some v)) h = some (.next, l', h') ∧ I (i + 1) l' h') :
    ∀ m i l h, i + m = n → I i l h → ∃ l' h', loopGo f x it m i l h = some (.next, l', h') ∧ I n l' h'
  | 0, i, l, h, e, hi => by
    obtain rfl : i = n := by first | assumption | exact Nat.le_of_lt ‹_› | exact Nat.lt_succ_of_lt ‹_› | exact Nat.ne_of_lt ‹_› | exact Nat.ne_of_gt ‹_› | exact Nat.le_trans ‹_› (by decide) | exact Nat.lt_of_lt_of_le ‹_› (by decide) | decide | omega
    exact ⟨l, h, by simp [loopGo, hlen l h hi], hi⟩
  | m + 1, i, l, h, e, hi => by
    obtain ⟨v, l1, h1, e1, e2, e3⟩ := step i l h (by first | assumption | exact Nat.le_of_lt ‹_› | exact Nat.lt_succ_of_lt ‹_› | exact Nat.ne_of_lt ‹_› | exact Nat.ne_of_gt ‹_› | exact Nat.le_trans ‹_› (by decide) | exact Nat.lt_of_lt_of_le ‹_› (by decide) | decide | omega) hi
    obtain ⟨l2, h2, e4, e5⟩ := loop_inv f x it n I hlen step m (i + 1) l1 h1 (by first | assumption | exact Nat.le_of_lt ‹_› | exact Nat.lt_succ_of_lt ‹_› | exact Nat.ne_of_lt ‹_› | exact Nat.ne_of_gt ‹_› | exact Nat.le_trans ‹_› (by decide) | exact Nat.lt_of_lt_of_le ‹_› (by decide) | decide | omega) e3
    exact ⟨l2, h2, by simp only [loopGo, e1, e2, e4], e5⟩

noncomputable def kx (f : Nat → Nat) : Nat → Nat
  | 0 => 0
  | n + 1 => kx f n ^^^ f n

theorem vlit (n : Nat) : V.int (no_index (@OfNat.ofNat Int n instOfNat)) = V.int (((@OfNat.ofNat Nat n (instOfNatNat n)) : Nat) : Int) := rfl
theorem op_add (a b : Nat) : opI .add (a : Int) (b : Int) = some (((a + b : Nat)) : Int) := rfl
theorem op_band (a b : Nat) : opI .band (a : Int) (b : Int) = some (((a &&& b : Nat)) : Int) := by simp only [opI, nat_band]
theorem op_bor (a b : Nat) : opI .bor (a : Int) (b : Int) = some (((a ||| b : Nat)) : Int) := by simp only [opI, nat_bor]
theorem op_bxor (a b : Nat) : opI .bxor (a : Int) (b : Int) = some (((a ^^^ b : Nat)) : Int) := by simp only [opI, nat_bxor]
theorem op_shr (a b : Nat) : opI .shr (a : Int) (b : Int) = some (((a / 2 ^ b : Nat)) : Int) := by
  have h : (2 : Int) ^ b = ((2 ^ b : Nat) : Int) := by simp
  simp only [opI, Int.toNat_natCast, Int.natCast_nonneg, if_true, h, nat_fdiv]
theorem op_shl {a b : Nat} (ha : a < 2 ^ 64) (hb : b ≤ 1000000) : opI .shl (a : Int) (b : Int) = some (((a * 2 ^ b : Nat)) : Int) := by
  have h : (2 : Int) ^ b = ((2 ^ b : Nat) : Int) := by simp
  have h1 : (0 : Int) ≤ b ∧ (b : Int) ≤ 1000000 ∧ (a : Int).natAbs < 2 ^ 64 := by
    refine ⟨by first | assumption | exact Nat.le_of_lt ‹_› | exact Nat.lt_succ_of_lt ‹_› | exact Nat.ne_of_lt ‹_› | exact Nat.ne_of_gt ‹_› | exact Nat.le_trans ‹_› (by decide) | exact Nat.lt_of_lt_of_le ‹_› (by decide) | decide | omega, by first | assumption | exact Nat.le_of_lt ‹_› | exact Nat.lt_succ_of_lt ‹_› | exact Nat.ne_of_lt ‹_› | exact Nat.ne_of_gt ‹_› | exact Nat.le_trans ‹_› (by decide) | exact Nat.lt_of_lt_of_le ‹_› (by decide) | decide | omega, ?_⟩
    rw [Int.natAbs_natCast]; exact ha
  simp only [opI, Int.toNat_natCast]
  rw [if_pos h1, h]; simp
theorem op_mul {a b : Nat} (ha : a < 2 ^ 64) : opI .mul (a : Int) (b : Int) = some (((a * b : Nat)) : Int) := by
  simp only [opI]
  rw [if_pos (by rw [Int.natAbs_natCast]; exact ha)]; simp
theorem op_sub {a b : Nat} (h : b ≤ a) : opI .sub (a : Int) (b : Int) = some (((a - b : Nat)) : Int) := by
  simp only [opI]
  rw [Int.ofNat_sub h]
theorem op_mod {a b : Nat} (hb : b ≠ 0) : opI .mod (a : Int) (b : Int) = some (((a % b : Nat)) : Int) := by
  simp only [opI]
  rw [if_neg (by first | assumption | exact Nat.le_of_lt ‹_› | exact Nat.lt_succ_of_lt ‹_› | exact Nat.ne_of_lt ‹_› | exact Nat.ne_of_gt ‹_› | exact Nat.le_trans ‹_› (by decide) | exact Nat.lt_of_lt_of_le ‹_› (by decide) | decide | omega), nat_fmod]
theorem op_imod {a : Int} {b : Nat} (hb : b ≠ 0) : opI .mod a (b : Int) = some ((((a.fmod b).toNat : Nat)) : Int) := by
  simp only [opI]
  rw [if_neg (by first | assumption | exact Nat.le_of_lt ‹_› | exact Nat.lt_succ_of_lt ‹_› | exact Nat.ne_of_lt ‹_› | exact Nat.ne_of_gt ‹_› | exact Nat.le_trans ‹_› (by decide) | exact Nat.lt_of_lt_of_le ‹_› (by decide) | decide | omega), Int.toNat_of_nonneg (Int.fmod_nonneg_of_pos _ (by first | assumption | exact Nat.le_of_lt ‹_› | exact Nat.lt_succ_of_lt ‹_› | exact Nat.ne_of_lt ‹_› | exact Nat.ne_of_gt ‹_› | exact Nat.le_trans ‹_› (by decide) | exact Nat.lt_of_lt_of_le ‹_› (by decide) | decide | omega))]
theorem op_div {a b : Nat} (hb : b ≠ 0) (h : b < 1073741824) : opI .fdiv (a : Int) (b : Int) = some (((a / b : Nat)) : Int) := by
  simp only [opI]
  rw [if_pos (by first | assumption | exact Nat.le_of_lt ‹_› | exact Nat.lt_succ_of_lt ‹_› | exact Nat.ne_of_lt ‹_› | exact Nat.ne_of_gt ‹_› | exact Nat.le_trans ‹_› (by decide) | exact Nat.lt_of_lt_of_le ‹_› (by decide) | decide | omega), nat_fdiv]
theorem op_idiv {a : Int} {b : Nat} (hb : b ≠ 0) (h : b < 1073741824) : opI .fdiv a (b : Int) = some (a.fdiv b) := by
  simp only [opI]
  rw [if_pos (by first | assumption | exact Nat.le_of_lt ‹_› | exact Nat.lt_succ_of_lt ‹_› | exact Nat.ne_of_lt ‹_› | exact Nat.ne_of_gt ‹_› | exact Nat.le_trans ‹_› (by decide) | exact Nat.lt_of_lt_of_le ‹_› (by decide) | decide | omega)]
theorem imod_lt (a : Int) {b : Nat} (hb : b ≠ 0) : (a.fmod b).toNat < b := by
  have := Int.fmod_lt_of_pos a (b := b) (by first | assumption | exact Nat.le_of_lt ‹_› | exact Nat.lt_succ_of_lt ‹_› | exact Nat.ne_of_lt ‹_› | exact Nat.ne_of_gt ‹_› | exact Nat.le_trans ‹_› (by decide) | exact Nat.lt_of_lt_of_le ‹_› (by decide) | decide | omega)
  have := Int.fmod_nonneg_of_pos a (b := b) (by first | assumption | exact Nat.le_of_lt ‹_› | exact Nat.lt_succ_of_lt ‹_› | exact Nat.ne_of_lt ‹_› | exact Nat.ne_of_gt ‹_› | exact Nat.le_trans ‹_› (by decide) | exact Nat.lt_of_lt_of_le ‹_› (by decide) | decide | omega)
  omega
theorem c_eq (a b : Nat) : cmpI .eq (a : Int) (b : Int) = decide (a = b) := by simp only [cmpI, Int.ofNat_inj]
theorem c_ne (a b : Nat) : cmpI .ne (a : Int) (b : Int) = !decide (a = b) := by simp only [cmpI, Int.ofNat_inj]
theorem c_lt (a b : Nat) : cmpI .lt (a : Int) (b : Int) = decide (a < b) := by simp only [cmpI, Int.ofNat_lt]
theorem c_le (a b : Nat) : cmpI .le (a : Int) (b : Int) = decide (a ≤ b) := by simp only [cmpI, Int.ofNat_le]
theorem c_gt (a b : Nat) : cmpI .gt (a : Int) (b : Int) = decide (b < a) := by simp only [cmpI, gt_iff_lt, Int.ofNat_lt]
theorem c_ge (a b : Nat) : cmpI .ge (a : Int) (b : Int) = decide (b ≤ a) := by simp only [cmpI, ge_iff_le, Int.ofNat_le]
theorem truthy_int (a : Nat) : truthy (N a) = some (decide (a ≠ 0)) := by
  simp only [truthy, ne_eq, Int.natCast_eq_zero]

theorem Fd_succ (d f : Nat) (as : List V) (h : Hp) : Fd tab (d + 1) f as h = match fnOf f with
    | some fn => runFn tab (Fd tab d) fn as h
    | none => none := rfl
theorem Fd_of {d f : Nat} {as : List V} {h : Hp} {fn : Fn} (e : fnOf f = some fn) : Fd tab (d + 1) f as h = runFn tab (Fd tab d) fn as h := by rw [Fd_succ, e]
theorem opV_int (op : Bop) (a b : Int) (h : Hp) : opV op (.int a) (.int b) h = (opI op a b).map fun c => (.int c, h) := rfl
theorem cmpV_int (op : Cop) (a b : Int) (h : Hp) : cmpV op (.int a) (.int b) h = some (cmpI op a b) := rfl
theorem cmpV_bool_eq (a b : Bool) (h : Hp) : cmpV .eq (.bool a) (.bool b) h = some (a == b) := rfl
theorem cmpV_bool_ne (a b : Bool) (h : Hp) : cmpV .ne (.bool a) (.bool b) h = some (!(a == b)) := rfl
theorem t_bool (b : Bool) : truthy (.bool b) = some b := rfl

end Mz
end

section
open PySem PySem.W PyProof.Rows
set_option Elab.async false
set_option autoImplicit false
set_option tactic.hygienic false

namespace Mz

/-! ### running by terms: each clause once, the results as they come -/

noncomputable def mapF (T : Tab) (F : FnT) (e : X) (l : Loc) (v : V) (h : Hp) : Option (Option V × Hp) := match ev T F e (l ++ [some v]) h with
  | some (r, h') => some (some r, h')
  | none => none
noncomputable def pickF (T : Tab) (F : FnT) (c e : X) (l : Loc) (v : V) (h : Hp) : Option (Option V × Hp) := match ev T F c (l ++ [some v]) h with
  | some (t, h') => match truthy t with
    | some true => match ev T F e (l ++ [some v]) h' with
      | some (r, h'') => some (some r, h'')
      | none => none
    | some false => some (none, h')
    | none => none
  | none => none

section
variable {T : Tab} {F : FnT} {l : Loc} {h h1 h2 h3 h4 : Hp} {a b c o i e it : X} {as es : Xs} {u v w r : V} {vs : List V}

theorem elit : ev T F (.lit v) l h = some (v, h) := rfl
theorem eloc {i : Nat} (x : l[i]? = some (some v)) : ev T F (.loc i) l h = some (v, h) := by rw [evloc, x]
theorem ebin {op : Bop} (x : ev T F a l h = some (u, h1)) (y : ev T F b l h1 = some (v, h2)) {q : Option (V × Hp)} (z : opV op u v h2 = q) : ev T F (.bin op a b) l h = q := by
  rw [evbin, x]; dsimp only; rw [y]; exact z
theorem enot {t : Bool} (x : ev T F a l h = some (u, h1)) (y : truthy u = some t) : ev T F (.not a) l h = some (.bool !t, h1) := by
  rw [evnot, x]; dsimp only; rw [y]; rfl
theorem eandT (x : ev T F a l h = some (u, h1)) (y : truthy u = some true) {q : Option (V × Hp)} (z : ev T F b l h1 = q) : ev T F (.and a b) l h = q := by
  rw [evand, x]; dsimp only; rw [y]; exact z
theorem eandF (x : ev T F a l h = some (u, h1)) (y : truthy u = some false) : ev T F (.and a b) l h = some (u, h1) := by
  rw [evand, x]; dsimp only; rw [y]
theorem eorF (x : ev T F a l h = some (u, h1)) (y : truthy u = some false) {q : Option (V × Hp)} (z : ev T F b l h1 = q) : ev T F (.or a b) l h = q := by
  rw [evor, x]; dsimp only; rw [y]; exact z
theorem ecmp {op : Cop} {t : Bool} (x : ev T F a l h = some (u, h1)) (y : ev T F b l h1 = some (v, h2)) (z : cmpV op u v h2 = some t) : ev T F (.cmp op a b) l h = some (.bool t, h2) := by
  rw [evcmp, x]; dsimp only; rw [y]; dsimp only; rw [z]; rfl
theorem ecall {f : Nat} (x : evs T F as l h = some (vs, h1)) {q : Option (V × Hp)} (z : F f vs h1 = q) : ev T F (.call f as) l h = q := by
  rw [evcall, x]; exact z
theorem elen (x : ev T F a l h = some (u, h1)) (z : doLen h1 u = some v) : ev T F (.len a) l h = some (v, h1) := by
  rw [evlen, x]; dsimp only; rw [z]; rfl
theorem elistOf (x : ev T F a l h = some (u, h1)) {q : Option (V × Hp)} (z : mkList h1 u = q) : ev T F (.listOf a) l h = q := by
  rw [evlistOf, x]; exact z
theorem erng1 {n : Int} (x : ev T F a l h = some (.int n, h1)) {q : Option (V × Hp)} (z : mkRng h1 0 n 1 = q) : ev T F (.rng1 a) l h = q := by
  rw [evrng1, x]; exact z
theorem eappend {xs : List V} (x : ev T F a l h = some (u, h1)) (g : getL h1 u = some xs) (y : ev T F b l h1 = some (v, h2)) {q : Option (V × Hp)} (z : doAppend h2 u v = q) : ev T F (.append a b) l h = q := by
  rw [evappend, x]; dsimp only; rw [g, y]; exact z
theorem ecount {xs : List V} (x : ev T F a l h = some (u, h1)) (g : getL h1 u = some xs) (y : ev T F b l h1 = some (v, h2)) (z : doCount h2 u v = some w) : ev T F (.count a b) l h = some (w, h2) := by
  rw [evcount, x]; dsimp only; rw [g, y]; dsimp only; rw [z]; rfl
theorem eattr {n : Nat} (x : ev T F o l h = some (u, h1)) (z : getA h1 u n = some v) : ev T F (.attr o n) l h = some (v, h1) := by
  rw [evattr, x]; dsimp only; rw [z]; rfl
theorem eidx (x : ev T F o l h = some (u, h1)) (y : ev T F i l h1 = some (v, h2)) (z : getIdx h2 u v = some w) : ev T F (.idx o i) l h = some (w, h2) := by
  rw [evidx, x]; dsimp only; rw [y]; dsimp only; rw [z]; rfl
theorem elist (x : evs T F es l h = some (vs, h1)) : ev T F (.list es) l h = some (.ref h1.length, h1 ++ [.list vs]) := by
  rw [evlist, x]
theorem etup (x : evs T F es l h = some (vs, h1)) : ev T F (.tup es) l h = some (.ref h1.length, h1 ++ [.tup vs]) := by
  rw [evtup, x]
theorem enil : evs T F .nil l h = some ([], h) := rfl
theorem econs (x : ev T F e l h = some (v, h1)) (y : evs T F es l h1 = some (vs, h2)) : evs T F (.cons e es) l h = some (v :: vs, h2) := by
  rw [evs, x]; dsimp only; rw [y]
theorem xasn {i : Nat} (x : ev T F e l h = some (v, h1)) : ex T F (.asn i e) l h = some (.next, l.set i (some v), h1) := by
  rw [exasn, x]
theorem xexpr (x : ev T F e l h = some (v, h1)) : ex T F (.expr e) l h = some (.next, l, h1) := by
  rw [exexpr, x]
theorem getA_of {k c n : Nat} {fs : List (Nat × V)} (x : h[k]? = some (.inst c fs)) (y : lookupA n fs = some v) : getA h (.ref k) n = some v := by
  simp only [getA, x, y]
theorem getIdx_LN {k n i : Nat} {g : Nat → Nat} (hk : h[k]? = some (LN n g)) (hi : i < n) (hn : n ≤ 1000) : getIdx h (.ref k) (N i) = some (N (g i)) := getIdx_LV hk hi hn
theorem ecomp (x : ev T F it l h = some (u, h1)) {q : Option (V × Hp)} (z : compAll (mapF T F e l) u h1 = q) : ev T F (.comp e it) l h = q := by
  rw [evcomp, x]; exact z
theorem cstep (x : ev T F e (l ++ [some v]) h = some (r, h1)) : mapF T F e l v h = some (some r, h1) := by delta mapF; rw [x]
theorem ecompIf (x : ev T F it l h = some (u, h1)) {q : Option (V × Hp)} (z : compAll (pickF T F c e l) u h1 = q) : ev T F (.compIf e it c) l h = q := by
  rw [evcompIf, x]; exact z
theorem cstepT (x : ev T F c (l ++ [some v]) h = some (u, h1)) (y : truthy u = some true) (z : ev T F e (l ++ [some v]) h1 = some (r, h2)) : pickF T F c e l v h = some (some r, h2) := by delta pickF; rw [x]; dsimp only; rw [y]; dsimp only; rw [z]
theorem cstepF (x : ev T F c (l ++ [some v]) h = some (u, h1)) (y : truthy u = some false) : pickF T F c e l v h = some (none, h1) := by delta pickF; rw [x]; dsimp only; rw [y]
theorem eslTo {n : Int} (x : ev T F o l h = some (u, h1)) (y : ev T F b l h1 = some (.int n, h2)) {q : Option (V × Hp)} (z : cut h2 u none (some n) = q) : ev T F (.slTo o b) l h = q := by
  rw [evslTo, x]; dsimp only; rw [y]; exact z
theorem xiteT {t f : B} (x : ev T F c l h = some (u, h1)) (y : truthy u = some true) {q : Option (Fl × Loc × Hp)} (z : exs T F t l h1 = q) : ex T F (.ite c t f) l h = q := by
  rw [exite, x]; dsimp only; rw [y]; exact z
theorem xiteF {t f : B} (x : ev T F c l h = some (u, h1)) (y : truthy u = some false) {q : Option (Fl × Loc × Hp)} (z : exs T F f l h1 = q) : ex T F (.ite c t f) l h = q := by
  rw [exite, x]; dsimp only; rw [y]; exact z
theorem exs_nil : exs T F .nil l h = some (.next, l, h) := rfl
theorem exs_cons {s : S} {b : B} {l1 : Loc} (x : ex T F s l h = some (.next, l1, h1)) {q : Option (Fl × Loc × Hp)} (y : exs T F b l1 h1 = q) : exs T F (.cons s b) l h = q := by
  rw [exs, x]; exact y
theorem exs_one {s : S} {l1 : Loc} (x : ex T F s l h = some (.next, l1, h1)) : exs T F (.cons s .nil) l h = some (.next, l1, h1) := exs_cons x rfl
theorem xaug {i : Nat} {op : Bop} {n m k : Int} (z : l[i]? = some (some (.int n))) (x : ev T F e l h = some (.int m, h1)) (y : opI op n m = some k) : ex T F (.aug i op e) l h = some (.next, l.set i (some (.int k)), h1) := by
  rw [exaug, z]; dsimp only; rw [x]; dsimp only; rw [y]; rfl
theorem xloop {x : Nat} {bd : B} (y : ev T F it l h = some (u, h1)) {q : Option (Fl × Loc × Hp)} (z : loopAll (fun l h => exs T F bd l h) x u l h1 = q) : ex T F (.loop x it bd) l h = q := by
  rw [exloop, y]; exact z
theorem vop {op : Bop} {n m k : Int} (x : opI op n m = some k) : opV op (.int n) (.int m) h = some (.int k, h) := by rw [opV_int, x]; rfl
theorem vxor {n m : Nat} : opV .bxor (N n) (N m) h = some (N (n ^^^ m), h) := vop (op_bxor n m)
theorem veq (n m : Nat) : cmpV .eq (N n) (N m) h = some (decide (n = m)) := by rw [cmpV_int, c_eq]
theorem vne (n m : Nat) : cmpV .ne (N n) (N m) h = some (!decide (n = m)) := by rw [cmpV_int, c_ne]
theorem vgt (n m : Nat) : cmpV .gt (N n) (N m) h = some (decide (m < n)) := by rw [cmpV_int, c_gt]
theorem tru {p : Prop} [Decidable p] (x : p) : truthy (.bool (decide p)) = some true := by rw [decide_eq_true x]; rfl
theorem fls {p : Prop} [Decidable p] (x : ¬ p) : truthy (.bool (decide p)) = some false := by rw [decide_eq_false x]; rfl
theorem fnt {p : Prop} [Decidable p] (x : p) : truthy (.bool !decide p) = some false := by rw [decide_eq_true x]; rfl
theorem xasn2 {i j k : Nat} (x : ev T F e l h = some (.ref k, h1)) (y : h1[k]? = some (.tup [u, v])) : ex T F (.asn2 i j e) l h = some (.next, (l.set i (some u)).set j (some v), h1) := by
  rw [exasn2, x]; dsimp only; rw [y]
theorem eslBt {n m : Int} (x : ev T F o l h = some (u, h1)) (y : ev T F a l h1 = some (.int n, h2)) (y' : ev T F b l h2 = some (.int m, h3)) {q : Option (V × Hp)} (z : cut h3 u (some n) (some m) = q) : ev T F (.slBt o a b) l h = q := by
  rw [evslBt, x]; dsimp only; rw [y]; dsimp only; rw [y']; exact z
theorem erev (x : ev T F o l h = some (u, h1)) (y : getL h1 u = some vs) (z : vs.length ≤ 1000) : ev T F (.rev o) l h = some (.ref h1.length, h1 ++ [.list vs.reverse]) := by
  rw [evrev, x]; dsimp only; rw [y]; exact if_pos z
theorem emem {p : Bool} {ks : List Int} {n : Int} (x : ev T F a l h = some (.int n, h1)) : ev T F (.mem p a ks) l h = some (.bool (if p then ks.contains n else !ks.contains n), h1) := by
  rw [evmem, x]
theorem xsetidx (x : ev T F e l h = some (v, h1)) (y : ev T F o l h1 = some (u, h2)) (y' : ev T F i l h2 = some (w, h3)) (z : setIdx h3 u w v = some h4) : ex T F (.setidx o i e) l h = some (.next, l, h4) := by
  rw [exsetidx, x]; dsimp only; rw [y]; dsimp only; rw [y']; dsimp only; rw [z]; rfl
theorem enew {c f : Nat} (x : evs T F as l h = some (vs, h1)) (y : T.init c = some f) (z : F f (.ref h1.length :: vs) (h1 ++ [.inst c []]) = some (.none, h2)) : ev T F (.new c as) l h = some (.ref h1.length, h2) := by
  rw [evnew, x]; dsimp only; rw [y]; dsimp only; rw [z]
theorem xsetattr {n : Nat} (x : ev T F e l h = some (v, h1)) (y : ev T F o l h1 = some (u, h2)) (z : setA h2 u n v = some h3) : ex T F (.setattr o n e) l h = some (.next, l, h3) := by
  rw [exsetattr, x]; dsimp only; rw [y]; dsimp only; rw [z]; rfl
theorem tnf {p : Prop} [Decidable p] (x : ¬ p) : truthy (.bool !decide p) = some true := by rw [decide_eq_false x]; rfl
end

end Mz
end

section
open PySem PySem.W PyProof.Rows
set_option Elab.async false
set_option autoImplicit false

set_option tactic.hygienic false

namespace Mz

theorem f_side_of (d c : Nat) (h : Hp) : Fd tab (d + 1) 0 [N c] h = some (N (c / 8), h) := by
  rw [Fd_of (f := 0) rfl]
  simp only [exs, exasn, exasn2, exsetattr, exsetidx, exaug, exaugidx, exaugattr, exite, exloop, exret, exexpr, exfail, evlit, evloc, evbin, evneg, evinv, evnot, evand, evor, evcmp, evcmp2, evmem, evite, evcall, evnew, evmeth, evlen, evlistOf, evsorted, evrng1, evrng2, evrng3, evappend, evcount, evattr, evidx, evslTo, evslFrom, evslBt, evrev, evlist, evtup, evcomp, evcompIf, evs, opV_int, t_bool, truthy_int, cmpV_int, cmpV_bool_eq, cmpV_bool_ne, runFn, getA, lookupA, storeA, Option.map_some, List.getElem?_cons_zero, List.getElem?_cons_succ, List.set_cons_zero, List.set_cons_succ, List.cons_append, List.nil_append, vlit, op_add, op_band, op_bor, op_bxor, op_shr, c_eq, c_ne, c_lt, c_le, c_gt, c_ge, List.length_cons, List.length_nil, List.map_cons, List.map_nil, Nat.zero_add, Nat.add_zero, reduceIte, List.replicate_succ, List.replicate_zero, Nat.reduceAdd, Nat.reduceSub, Nat.reduceEqDiff, Nat.sub_self, decide_true, decide_false, eq_self, Bool.not_true, Bool.not_false, beq_self_eq_true, b_side_of]
theorem f_kind_of (d c : Nat) (h : Hp) : Fd tab (d + 1) 1 [N c] h = some (N (c % 8), h) := by
  have h7 : c &&& 7 = c % 8 := Nat.and_two_pow_sub_one_eq_mod (n := 3) c
  rw [Fd_of (f := 1) rfl]
  simp only [exs, exasn, exasn2, exsetattr, exsetidx, exaug, exaugidx, exaugattr, exite, exloop, exret, exexpr, exfail, evlit, evloc, evbin, evneg, evinv, evnot, evand, evor, evcmp, evcmp2, evmem, evite, evcall, evnew, evmeth, evlen, evlistOf, evsorted, evrng1, evrng2, evrng3, evappend, evcount, evattr, evidx, evslTo, evslFrom, evslBt, evrev, evlist, evtup, evcomp, evcompIf, evs, opV_int, t_bool, truthy_int, cmpV_int, cmpV_bool_eq, cmpV_bool_ne, runFn, getA, lookupA, storeA, Option.map_some, List.getElem?_cons_zero, List.getElem?_cons_succ, List.set_cons_zero, List.set_cons_succ, List.cons_append, List.nil_append, vlit, op_add, op_band, op_bor, op_bxor, op_shr, c_eq, c_ne, c_lt, c_le, c_gt, c_ge, List.length_cons, List.length_nil, List.map_cons, List.map_nil, Nat.zero_add, Nat.add_zero, reduceIte, List.replicate_succ, List.replicate_zero, Nat.reduceAdd, Nat.reduceSub, Nat.reduceEqDiff, Nat.sub_self, decide_true, decide_false, eq_self, Bool.not_true, Bool.not_false, beq_self_eq_true, b_kind_of, h7]

/-! ### what lies where -/

structure Tb where
  P : Nat → Nat → Nat
  E : Nat → Nat
  R : Nat → Nat
  S : Nat
noncomputable def rl (size c : Nat) : Nat := if c % 8 = 0 ∨ c % 8 = 7 then 0 else size

noncomputable def ZobAt (h : Hp) (z size files : Nat) (T : Tb) : Prop :=
  ∃ (a e r : Nat) (rs : Nat → Nat), h[z]? = some (.inst 1 [(1, .ref a), (2, .ref e), (3, .ref r), (4, N T.S)]) ∧ h[a]? = some (LV 15 fun c => .ref (rs c)) ∧ h[e]? = some (LN files T.E) ∧ h[r]? = some (LN 16 T.R) ∧
    ∀ c, c < 15 → h[rs c]? = some (LN (rl size c) (T.P c))
noncomputable def GeoAt (h : Hp) (g size files : Nat) : Prop := ∃ fs, h[g]? = some (.inst 3 fs) ∧ lookupA 7 fs = some (N files) ∧ lookupA 6 fs = some (N size)

noncomputable def posO (g z b ks ss hi side rights : Nat) (ep : Int) (key : Nat) : O :=
  .inst 4 [(9, .ref g), (8, .ref z), (10, .ref b), (23, .ref ks), (24, .ref ss), (4, N side), (3, N rights), (2, .int ep), (25, N 0), (12, N 1), (26, N key), (27, .ref hi)]
noncomputable def PosAt (h : Hp) (p g z size : Nat) (cells : Nat → Nat) (side rights : Nat) (ep : Int) (key : Nat) : Prop :=
  ∃ b ks ss hi, h[p]? = some (posO g z b ks ss hi side rights ep key) ∧ h[b]? = some (LN size cells)

noncomputable def Cell (c : Nat) : Prop := c < 15 ∧ c % 8 ≠ 7 ∧ c ≠ 8
theorem Cell.rl {c size : Nat} (h : Cell c) (h0 : c % 8 ≠ 0) : rl size c = size := by
  unfold Mz.rl
  rw [if_neg]
  rintro (e | e)
  · exact h0 e
  · exact h.2.1 e
theorem Cell.ne {c : Nat} (h : Cell c) (h0 : c ≠ 0) : c % 8 ≠ 0 := by
  exact (by decide : ∀ c, c < 15 → c ≠ 8 → c ≠ 0 → c % 8 ≠ 0) c h.1 h.2.2 h0

theorem ep_lt {ep : Int} {files : Nat} (hf : files ≠ 0) : (ep.fmod files).toNat < files := imod_lt ep hf

noncomputable def sk (T : Tb) (files side rights : Nat) (ep : Int) : Nat :=
  (T.R rights ^^^ (if 0 ≤ ep then T.E (ep.fmod files).toNat else 0)) ^^^ (if side = 1 then T.S else 0)

theorem f_state_key (d : Nat) {h : Hp} {p g z size files : Nat} {T : Tb} {cells : Nat → Nat} {side rights key : Nat} {ep : Int} (hz : ZobAt h z size files T) (hg : GeoAt h g size files) (hp : PosAt h p g z size cells side rights ep key)
    (hf : files ≠ 0) (hf2 : files ≤ 1000) (hr : rights < 16) : Fd tab (d + 1) 8 [.ref p] h = some (N (sk T files side rights ep), h) := by
  obtain ⟨a, e, r, rs, z1, z2, z3, z4, z5⟩ := hz
  obtain ⟨fs, g1, g2, g3⟩ := hg
  obtain ⟨b, ks, ss, hi, p1, p2⟩ := hp
  unfold posO at p1
  have i1 := getIdx_LV z4 hr (by decide)
  have i2 := getIdx_LV z3 (ep_lt (ep := ep) hf) hf2
  have m1 := op_imod (a := ep) hf
  have hge : cmpI .ge ep (((0 : Nat)) : Int) = decide (0 ≤ ep) := by simp [cmpI]
  rw [Fd_of (f := 8) rfl]
  simp only [exs, exasn, exasn2, exsetattr, exsetidx, exaug, exaugidx, exaugattr, exite, exloop, exret, exexpr, exfail, evlit, evloc, evbin, evneg, evinv, evnot, evand, evor, evcmp, evcmp2, evmem, evite, evcall, evnew, evmeth, evlen, evlistOf, evsorted, evrng1, evrng2, evrng3, evappend, evcount, evattr, evidx, evslTo, evslFrom, evslBt, evrev, evlist, evtup, evcomp, evcompIf, evs, opV_int, t_bool, truthy_int, cmpV_int, cmpV_bool_eq, cmpV_bool_ne, runFn, getA, lookupA, storeA, Option.map_some, List.getElem?_cons_zero, List.getElem?_cons_succ, List.set_cons_zero, List.set_cons_succ, List.cons_append, List.nil_append, vlit, op_add, op_band, op_bor, op_bxor, op_shr, c_eq, c_ne, c_lt, c_le, c_gt, c_ge, List.length_cons, List.length_nil, List.map_cons, List.map_nil, Nat.zero_add, Nat.add_zero, reduceIte, List.replicate_succ, List.replicate_zero, Nat.reduceAdd, Nat.reduceSub, Nat.reduceEqDiff, Nat.sub_self, decide_true, decide_false, eq_self, Bool.not_true, Bool.not_false, beq_self_eq_true, b_state_key, p1, z1, g1, g2, i1, hge]
  unfold sk
  by_cases h0 : 0 ≤ ep <;> by_cases h1 : side = 1 <;> simp only [exs, exasn, exasn2, exsetattr, exsetidx, exaug, exaugidx, exaugattr, exite, exloop, exret, exexpr, exfail, evlit, evloc, evbin, evneg, evinv, evnot, evand, evor, evcmp, evcmp2, evmem, evite, evcall, evnew, evmeth, evlen, evlistOf, evsorted, evrng1, evrng2, evrng3, evappend, evcount, evattr, evidx, evslTo, evslFrom, evslBt, evrev, evlist, evtup, evcomp, evcompIf, evs, opV_int, t_bool, truthy_int, cmpV_int, cmpV_bool_eq, cmpV_bool_ne, runFn, getA, lookupA, storeA, Option.map_some, List.getElem?_cons_zero, List.getElem?_cons_succ, List.set_cons_zero, List.set_cons_succ, List.cons_append, List.nil_append, vlit, op_add, op_band, op_bor, op_bxor, op_shr, c_eq, c_ne, c_lt, c_le, c_gt, c_ge, List.length_cons, List.length_nil, List.map_cons, List.map_nil, Nat.zero_add, Nat.add_zero, reduceIte, List.replicate_succ, List.replicate_zero, Nat.reduceAdd, Nat.reduceSub, Nat.reduceEqDiff, Nat.sub_self, decide_true, decide_false, eq_self, Bool.not_true, Bool.not_false, beq_self_eq_true, h0, h1, m1, i2, p1, z1, g1, g2, i1, Nat.xor_zero]

theorem kx_congr {f g : Nat → Nat} : ∀ {n : Nat}, (∀ s, s < n → f s = g s) → kx f n = kx g n
  | 0, _ => rfl
  | n + 1, h => by
    unfold kx
    rw [kx_congr fun s hs => h s (by first | assumption | exact Nat.le_of_lt ‹_› | exact Nat.lt_succ_of_lt ‹_› | exact Nat.ne_of_lt ‹_› | exact Nat.ne_of_gt ‹_› | exact Nat.le_trans ‹_› (by decide) | exact Nat.lt_of_lt_of_le ‹_› (by decide) | decide | omega), h n (by first | assumption | exact Nat.le_of_lt ‹_› | exact Nat.lt_succ_of_lt ‹_› | exact Nat.ne_of_lt ‹_› | exact Nat.ne_of_gt ‹_› | exact Nat.le_trans ‹_› (by decide) | exact Nat.lt_of_lt_of_le ‹_› (by decide) | decide | omega)]

theorem item_LV {h : Hp} {b n i : Nat} {g : Nat → V} (hb : h[b]? = some (LV n g)) (hi : i < n) : itemAt h (.lst b) i = some (g i) := by
  simp [itemAt, hb, hi]
theorem lenIt_LV {h : Hp} {b n : Nat} {g : Nat → V} (hb : h[b]? = some (LV n g)) : lenIt h (.lst b) = some n := by
  simp [lenIt, hb]
theorem itOf_LV {h : Hp} {b n : Nat} {g : Nat → V} (hb : h[b]? = some (LV n g)) : itOf h (.ref b) = some (.lst b) := by
  simp [itOf, hb]

theorem loop_LV {f : Loc → Hp → Option (Fl × Loc × Hp)} {x b n : Nat} {g : Nat → V} {l : Loc} {h : Hp} {L : Option (Fl × Loc × Hp)} (hL : loopAll f x (.ref b) l h = L) (I : Nat → Loc → Hp → Prop) (h0 : I 0 l h) (hn : n ≤ 1000)
    (hI : ∀ i l h, I i l h → h[b]? = some (LV n g))
    (step : ∀ i l h, i < n → I i l h → ∃ l' h', f (l.set x (some (g i))) h = some (.next, l', h') ∧ I (i + 1) l' h') :
    ∃ l' h', L = some (.next, l', h') ∧ I n l' h' := by
  subst hL
  have hb := hI 0 l h h0
  obtain ⟨l', h', e, hi⟩ := loop_inv f x (.lst b) n I (fun l h hi => lenIt_LV (hI _ _ _ hi)) (fun i l h hlt hi => by
    obtain ⟨l', h', e1, e2⟩ := step i l h hlt hi
    exact ⟨g i, l', h', item_LV (hI _ _ _ hi) hlt, e1, e2⟩) n 0 l h (by first | assumption | exact Nat.le_of_lt ‹_› | exact Nat.lt_succ_of_lt ‹_› | exact Nat.ne_of_lt ‹_› | exact Nat.ne_of_gt ‹_› | exact Nat.le_trans ‹_› (by decide) | exact Nat.lt_of_lt_of_le ‹_› (by decide) | decide | omega) h0
  exact ⟨l', h', by simp only [loopAll, itOf_LV hb, lenIt_LV hb, hn, if_true, e], hi⟩

theorem loop_rng {f : Loc → Hp → Option (Fl × Loc × Hp)} {x b n : Nat} {a c : Int} {l : Loc} {h : Hp} {L : Option (Fl × Loc × Hp)} (hL : loopAll f x (.ref b) l h = L) (I : Nat → Loc → Hp → Prop) (h0 : I 0 l h) (hn : n ≤ 1000) (hb : h[b]? = some (.rng a c n))
    (step : ∀ i l h, i < n → I i l h → ∃ l' h', f (l.set x (some (.int (a + i * c)))) h = some (.next, l', h') ∧ I (i + 1) l' h') :
    ∃ l' h', L = some (.next, l', h') ∧ I n l' h' := by
  subst hL
  obtain ⟨l', h', e, hi⟩ := loop_inv f x (.rng a c n) n I (fun l h hi => rfl) (fun i l h hlt hi => by
    obtain ⟨l', h', e1, e2⟩ := step i l h hlt hi
    exact ⟨_, l', h', by simp only [itemAt, hlt, if_true], e1, e2⟩) n 0 l h (by first | assumption | exact Nat.le_of_lt ‹_› | exact Nat.lt_succ_of_lt ‹_› | exact Nat.ne_of_lt ‹_› | exact Nat.ne_of_gt ‹_› | exact Nat.le_trans ‹_› (by decide) | exact Nat.lt_of_lt_of_le ‹_› (by decide) | decide | omega) h0
  exact ⟨l', h', by simp only [loopAll, itOf, hb, lenIt, hn, if_true, e], hi⟩

theorem f_full_key (d : Nat) {h : Hp} {p g z size files : Nat} {T : Tb} {cells : Nat → Nat} {side rights key : Nat} {ep : Int} (hz : ZobAt h z size files T) (hg : GeoAt h g size files) (hp : PosAt h p g z size cells side rights ep key)
    (hf : files ≠ 0) (hf2 : files ≤ 1000) (hs : size ≤ 1000) (hr : rights < 16) (hc : ∀ s, s < size → Cell (cells s)) :
    Fd tab (d + 2) 9 [.ref p] h = some (N (sk T files side rights ep ^^^ kx (fun s => if cells s ≠ 0 then T.P (cells s) s else 0) size), h) := by
  have hst := f_state_key d hz hg hp hf hf2 hr
  generalize hS : sk T files side rights ep = S at hst ⊢
  obtain ⟨a, e, r, rs, z1, z2, z3, z4, z5⟩ := hz
  obtain ⟨b, ks, ss, hi, p1, p2⟩ := hp
  unfold posO at p1
  rw [Fd_of (f := 9) rfl]
  simp only [exs, exasn, exasn2, exsetattr, exsetidx, exaug, exaugidx, exaugattr, exite, exloop, exret, exexpr, exfail, evlit, evloc, evbin, evneg, evinv, evnot, evand, evor, evcmp, evcmp2, evmem, evite, evcall, evnew, evmeth, evlen, evlistOf, evsorted, evrng1, evrng2, evrng3, evappend, evcount, evattr, evidx, evslTo, evslFrom, evslBt, evrev, evlist, evtup, evcomp, evcompIf, evs, opV_int, t_bool, truthy_int, cmpV_int, cmpV_bool_eq, cmpV_bool_ne, runFn, getA, lookupA, storeA, Option.map_some, List.getElem?_cons_zero, List.getElem?_cons_succ, List.set_cons_zero, List.set_cons_succ, List.cons_append, List.nil_append, vlit, op_add, op_band, op_bor, op_bxor, op_shr, c_eq, c_ne, c_lt, c_le, c_gt, c_ge, List.length_cons, List.length_nil, List.map_cons, List.map_nil, Nat.zero_add, Nat.add_zero, reduceIte, List.replicate_succ, List.replicate_zero, Nat.reduceAdd, Nat.reduceSub, Nat.reduceEqDiff, Nat.sub_self, decide_true, decide_false, eq_self, Bool.not_true, Bool.not_false, beq_self_eq_true, b_full_key, p1, z1, hst]
  generalize hL : loopAll _ _ _ _ _ = L
  obtain ⟨l', h', rfl, rfl, ⟨x, rfl⟩⟩ := loop_LV (g := fun s => N (cells s)) (n := size) hL
    (fun i l h' => h' = h ∧ ∃ x, l = [some (.ref p), some (.ref a), some (N (S ^^^ kx (fun s => if cells s ≠ 0 then T.P (cells s) s else 0) i)), some (N i), x])
    ⟨rfl, none, by simp only [kx, Nat.xor_zero]⟩ hs (fun i l h' hh => hh.1 ▸ p2) (fun i l h' hi hh => by
      obtain ⟨rfl, x, rfl⟩ := hh
      have hce := hc i hi
      by_cases h0 : cells i = 0
      · simp only [exs, exasn, exasn2, exsetattr, exsetidx, exaug, exaugidx, exaugattr, exite, exloop, exret, exexpr, exfail, evlit, evloc, evbin, evneg, evinv, evnot, evand, evor, evcmp, evcmp2, evmem, evite, evcall, evnew, evmeth, evlen, evlistOf, evsorted, evrng1, evrng2, evrng3, evappend, evcount, evattr, evidx, evslTo, evslFrom, evslBt, evrev, evlist, evtup, evcomp, evcompIf, evs, opV_int, t_bool, truthy_int, cmpV_int, cmpV_bool_eq, cmpV_bool_ne, runFn, getA, lookupA, storeA, Option.map_some, List.getElem?_cons_zero, List.getElem?_cons_succ, List.set_cons_zero, List.set_cons_succ, List.cons_append, List.nil_append, vlit, op_add, op_band, op_bor, op_bxor, op_shr, c_eq, c_ne, c_lt, c_le, c_gt, c_ge, List.length_cons, List.length_nil, List.map_cons, List.map_nil, Nat.zero_add, Nat.add_zero, reduceIte, List.replicate_succ, List.replicate_zero, Nat.reduceAdd, Nat.reduceSub, Nat.reduceEqDiff, Nat.sub_self, decide_true, decide_false, eq_self, Bool.not_true, Bool.not_false, beq_self_eq_true, h0, Bool.not_true, Bool.not_false]
        exact ⟨_, _, rfl, rfl, some (N (cells i)), by simp only [kx, h0, ne_eq, not_true_eq_false, if_false, Nat.xor_zero]⟩
      · have i1 := getIdx_LV z2 hce.1 (by decide)
        have i2 := getIdx_LV (z5 _ hce.1) (i := i) (by rw [hce.rl (hce.ne h0)]; exact hi) (by rw [hce.rl (hce.ne h0)]; exact hs)
        simp only [exs, exasn, exasn2, exsetattr, exsetidx, exaug, exaugidx, exaugattr, exite, exloop, exret, exexpr, exfail, evlit, evloc, evbin, evneg, evinv, evnot, evand, evor, evcmp, evcmp2, evmem, evite, evcall, evnew, evmeth, evlen, evlistOf, evsorted, evrng1, evrng2, evrng3, evappend, evcount, evattr, evidx, evslTo, evslFrom, evslBt, evrev, evlist, evtup, evcomp, evcompIf, evs, opV_int, t_bool, truthy_int, cmpV_int, cmpV_bool_eq, cmpV_bool_ne, runFn, getA, lookupA, storeA, Option.map_some, List.getElem?_cons_zero, List.getElem?_cons_succ, List.set_cons_zero, List.set_cons_succ, List.cons_append, List.nil_append, vlit, op_add, op_band, op_bor, op_bxor, op_shr, c_eq, c_ne, c_lt, c_le, c_gt, c_ge, List.length_cons, List.length_nil, List.map_cons, List.map_nil, Nat.zero_add, Nat.add_zero, reduceIte, List.replicate_succ, List.replicate_zero, Nat.reduceAdd, Nat.reduceSub, Nat.reduceEqDiff, Nat.sub_self, decide_true, decide_false, eq_self, Bool.not_true, Bool.not_false, beq_self_eq_true, h0, i1, i2, Bool.not_true, Bool.not_false]
        exact ⟨_, _, rfl, rfl, some (N (cells i)), by simp only [kx, h0, ne_eq, not_false_eq_true, if_true, Nat.xor_assoc]⟩)
  simp only [exs, exasn, exasn2, exsetattr, exsetidx, exaug, exaugidx, exaugattr, exite, exloop, exret, exexpr, exfail, evlit, evloc, evbin, evneg, evinv, evnot, evand, evor, evcmp, evcmp2, evmem, evite, evcall, evnew, evmeth, evlen, evlistOf, evsorted, evrng1, evrng2, evrng3, evappend, evcount, evattr, evidx, evslTo, evslFrom, evslBt, evrev, evlist, evtup, evcomp, evcompIf, evs, opV_int, t_bool, truthy_int, cmpV_int, cmpV_bool_eq, cmpV_bool_ne, runFn, getA, lookupA, storeA, Option.map_some, List.getElem?_cons_zero, List.getElem?_cons_succ, List.set_cons_zero, List.set_cons_succ, List.cons_append, List.nil_append, vlit, op_add, op_band, op_bor, op_bxor, op_shr, c_eq, c_ne, c_lt, c_le, c_gt, c_ge, List.length_cons, List.length_nil, List.map_cons, List.map_nil, Nat.zero_add, Nat.add_zero, reduceIte, List.replicate_succ, List.replicate_zero, Nat.reduceAdd, Nat.reduceSub, Nat.reduceEqDiff, Nat.sub_self, decide_true, decide_false, eq_self, Bool.not_true, Bool.not_false, beq_self_eq_true]

theorem f_pawn_key (d : Nat) {h : Hp} {p g z size files : Nat} {T : Tb} {cells : Nat → Nat} {side rights key : Nat} {ep : Int} (hz : ZobAt h z size files T) (hp : PosAt h p g z size cells side rights ep key)
    (hs : size ≤ 1000) (hc : ∀ s, s < size → Cell (cells s)) :
    Fd tab (d + 2) 10 [.ref p] h = some (N (kx (fun s => if cells s % 8 = 1 then T.P (cells s) s else 0) size), h) := by
  obtain ⟨a, e, r, rs, z1, z2, z3, z4, z5⟩ := hz
  obtain ⟨b, ks, ss, hi, p1, p2⟩ := hp
  unfold posO at p1
  rw [Fd_of (f := 10) rfl]
  simp only [exs, exasn, exasn2, exsetattr, exsetidx, exaug, exaugidx, exaugattr, exite, exloop, exret, exexpr, exfail, evlit, evloc, evbin, evneg, evinv, evnot, evand, evor, evcmp, evcmp2, evmem, evite, evcall, evnew, evmeth, evlen, evlistOf, evsorted, evrng1, evrng2, evrng3, evappend, evcount, evattr, evidx, evslTo, evslFrom, evslBt, evrev, evlist, evtup, evcomp, evcompIf, evs, opV_int, t_bool, truthy_int, cmpV_int, cmpV_bool_eq, cmpV_bool_ne, runFn, getA, lookupA, storeA, Option.map_some, List.getElem?_cons_zero, List.getElem?_cons_succ, List.set_cons_zero, List.set_cons_succ, List.cons_append, List.nil_append, vlit, op_add, op_band, op_bor, op_bxor, op_shr, c_eq, c_ne, c_lt, c_le, c_gt, c_ge, List.length_cons, List.length_nil, List.map_cons, List.map_nil, Nat.zero_add, Nat.add_zero, reduceIte, List.replicate_succ, List.replicate_zero, Nat.reduceAdd, Nat.reduceSub, Nat.reduceEqDiff, Nat.sub_self, decide_true, decide_false, eq_self, Bool.not_true, Bool.not_false, beq_self_eq_true, b_pawn_key, p1, z1]
  generalize hL : loopAll _ _ _ _ _ = L
  obtain ⟨l', h', rfl, rfl, ⟨x, rfl⟩⟩ := loop_LV (g := fun s => N (cells s)) (n := size) hL
    (fun i l h' => h' = h ∧ ∃ x, l = [some (.ref p), some (.ref a), some (N (kx (fun s => if cells s % 8 = 1 then T.P (cells s) s else 0) i)), some (N i), x])
    ⟨rfl, none, by simp only [kx, Nat.xor_zero]⟩ hs (fun i l h' hh => hh.1 ▸ p2) (fun i l h' hi hh => by
      obtain ⟨rfl, x, rfl⟩ := hh
      have hce := hc i hi
      by_cases h0 : cells i % 8 = 1
      · have i1 := getIdx_LV z2 hce.1 (by decide)
        have i2 := getIdx_LV (z5 _ hce.1) (i := i) (by rw [hce.rl (by first | assumption | exact Nat.le_of_lt ‹_› | exact Nat.lt_succ_of_lt ‹_› | exact Nat.ne_of_lt ‹_› | exact Nat.ne_of_gt ‹_› | exact Nat.le_trans ‹_› (by decide) | exact Nat.lt_of_lt_of_le ‹_› (by decide) | decide | omega)]; exact hi) (by rw [hce.rl (by first | assumption | exact Nat.le_of_lt ‹_› | exact Nat.lt_succ_of_lt ‹_› | exact Nat.ne_of_lt ‹_› | exact Nat.ne_of_gt ‹_› | exact Nat.le_trans ‹_› (by decide) | exact Nat.lt_of_lt_of_le ‹_› (by decide) | decide | omega)]; exact hs)
        simp only [exs, exasn, exasn2, exsetattr, exsetidx, exaug, exaugidx, exaugattr, exite, exloop, exret, exexpr, exfail, evlit, evloc, evbin, evneg, evinv, evnot, evand, evor, evcmp, evcmp2, evmem, evite, evcall, evnew, evmeth, evlen, evlistOf, evsorted, evrng1, evrng2, evrng3, evappend, evcount, evattr, evidx, evslTo, evslFrom, evslBt, evrev, evlist, evtup, evcomp, evcompIf, evs, opV_int, t_bool, truthy_int, cmpV_int, cmpV_bool_eq, cmpV_bool_ne, runFn, getA, lookupA, storeA, Option.map_some, List.getElem?_cons_zero, List.getElem?_cons_succ, List.set_cons_zero, List.set_cons_succ, List.cons_append, List.nil_append, vlit, op_add, op_band, op_bor, op_bxor, op_shr, c_eq, c_ne, c_lt, c_le, c_gt, c_ge, List.length_cons, List.length_nil, List.map_cons, List.map_nil, Nat.zero_add, Nat.add_zero, reduceIte, List.replicate_succ, List.replicate_zero, Nat.reduceAdd, Nat.reduceSub, Nat.reduceEqDiff, Nat.sub_self, decide_true, decide_false, eq_self, Bool.not_true, Bool.not_false, beq_self_eq_true, f_kind_of, h0, i1, i2]
        exact ⟨_, _, rfl, rfl, some (N (cells i)), by simp only [kx, h0, if_true]⟩
      · simp only [exs, exasn, exasn2, exsetattr, exsetidx, exaug, exaugidx, exaugattr, exite, exloop, exret, exexpr, exfail, evlit, evloc, evbin, evneg, evinv, evnot, evand, evor, evcmp, evcmp2, evmem, evite, evcall, evnew, evmeth, evlen, evlistOf, evsorted, evrng1, evrng2, evrng3, evappend, evcount, evattr, evidx, evslTo, evslFrom, evslBt, evrev, evlist, evtup, evcomp, evcompIf, evs, opV_int, t_bool, truthy_int, cmpV_int, cmpV_bool_eq, cmpV_bool_ne, runFn, getA, lookupA, storeA, Option.map_some, List.getElem?_cons_zero, List.getElem?_cons_succ, List.set_cons_zero, List.set_cons_succ, List.cons_append, List.nil_append, vlit, op_add, op_band, op_bor, op_bxor, op_shr, c_eq, c_ne, c_lt, c_le, c_gt, c_ge, List.length_cons, List.length_nil, List.map_cons, List.map_nil, Nat.zero_add, Nat.add_zero, reduceIte, List.replicate_succ, List.replicate_zero, Nat.reduceAdd, Nat.reduceSub, Nat.reduceEqDiff, Nat.sub_self, decide_true, decide_false, eq_self, Bool.not_true, Bool.not_false, beq_self_eq_true, f_kind_of, h0]
        exact ⟨_, _, rfl, rfl, some (N (cells i)), by simp only [kx, h0, if_false, Nat.xor_zero]⟩)
  simp only [exs, exasn, exasn2, exsetattr, exsetidx, exaug, exaugidx, exaugattr, exite, exloop, exret, exexpr, exfail, evlit, evloc, evbin, evneg, evinv, evnot, evand, evor, evcmp, evcmp2, evmem, evite, evcall, evnew, evmeth, evlen, evlistOf, evsorted, evrng1, evrng2, evrng3, evappend, evcount, evattr, evidx, evslTo, evslFrom, evslBt, evrev, evlist, evtup, evcomp, evcompIf, evs, opV_int, t_bool, truthy_int, cmpV_int, cmpV_bool_eq, cmpV_bool_ne, runFn, getA, lookupA, storeA, Option.map_some, List.getElem?_cons_zero, List.getElem?_cons_succ, List.set_cons_zero, List.set_cons_succ, List.cons_append, List.nil_append, vlit, op_add, op_band, op_bor, op_bxor, op_shr, c_eq, c_ne, c_lt, c_le, c_gt, c_ge, List.length_cons, List.length_nil, List.map_cons, List.map_nil, Nat.zero_add, Nat.add_zero, reduceIte, List.replicate_succ, List.replicate_zero, Nat.reduceAdd, Nat.reduceSub, Nat.reduceEqDiff, Nat.sub_self, decide_true, decide_false, eq_self, Bool.not_true, Bool.not_false, beq_self_eq_true]

theorem f_non_pawn_key (d : Nat) {h : Hp} {p g z size files who : Nat} {T : Tb} {cells : Nat → Nat} {side rights key : Nat} {ep : Int} (hz : ZobAt h z size files T) (hp : PosAt h p g z size cells side rights ep key)
    (hs : size ≤ 1000) (hc : ∀ s, s < size → Cell (cells s)) :
    Fd tab (d + 2) 11 [.ref p, N who] h = some (N (kx (fun s => if 1 < cells s % 8 ∧ cells s / 8 = who then T.P (cells s) s else 0) size), h) := by
  obtain ⟨a, e, r, rs, z1, z2, z3, z4, z5⟩ := hz
  obtain ⟨b, ks, ss, hi, p1, p2⟩ := hp
  unfold posO at p1
  rw [Fd_of (f := 11) rfl]
  simp only [exs, exasn, exasn2, exsetattr, exsetidx, exaug, exaugidx, exaugattr, exite, exloop, exret, exexpr, exfail, evlit, evloc, evbin, evneg, evinv, evnot, evand, evor, evcmp, evcmp2, evmem, evite, evcall, evnew, evmeth, evlen, evlistOf, evsorted, evrng1, evrng2, evrng3, evappend, evcount, evattr, evidx, evslTo, evslFrom, evslBt, evrev, evlist, evtup, evcomp, evcompIf, evs, opV_int, t_bool, truthy_int, cmpV_int, cmpV_bool_eq, cmpV_bool_ne, runFn, getA, lookupA, storeA, Option.map_some, List.getElem?_cons_zero, List.getElem?_cons_succ, List.set_cons_zero, List.set_cons_succ, List.cons_append, List.nil_append, vlit, op_add, op_band, op_bor, op_bxor, op_shr, c_eq, c_ne, c_lt, c_le, c_gt, c_ge, List.length_cons, List.length_nil, List.map_cons, List.map_nil, Nat.zero_add, Nat.add_zero, reduceIte, List.replicate_succ, List.replicate_zero, Nat.reduceAdd, Nat.reduceSub, Nat.reduceEqDiff, Nat.sub_self, decide_true, decide_false, eq_self, Bool.not_true, Bool.not_false, beq_self_eq_true, b_non_pawn_key, p1, z1]
  generalize hL : loopAll _ _ _ _ _ = L
  obtain ⟨l', h', rfl, rfl, ⟨x, rfl⟩⟩ := loop_LV (g := fun s => N (cells s)) (n := size) hL
    (fun i l h' => h' = h ∧ ∃ x, l = [some (.ref p), some (N who), some (.ref a), some (N (kx (fun s => if 1 < cells s % 8 ∧ cells s / 8 = who then T.P (cells s) s else 0) i)), some (N i), x])
    ⟨rfl, none, by simp only [kx, Nat.xor_zero]⟩ hs (fun i l h' hh => hh.1 ▸ p2) (fun i l h' hi hh => by
      obtain ⟨rfl, x, rfl⟩ := hh
      have hce := hc i hi
      by_cases h0 : 1 < cells i % 8
      · by_cases h1 : cells i / 8 = who
        · have i1 := getIdx_LV z2 hce.1 (by decide)
          have i2 := getIdx_LV (z5 _ hce.1) (i := i) (by rw [hce.rl (by first | assumption | exact Nat.le_of_lt ‹_› | exact Nat.lt_succ_of_lt ‹_› | exact Nat.ne_of_lt ‹_› | exact Nat.ne_of_gt ‹_› | exact Nat.le_trans ‹_› (by decide) | exact Nat.lt_of_lt_of_le ‹_› (by decide) | decide | omega)]; exact hi) (by rw [hce.rl (by first | assumption | exact Nat.le_of_lt ‹_› | exact Nat.lt_succ_of_lt ‹_› | exact Nat.ne_of_lt ‹_› | exact Nat.ne_of_gt ‹_› | exact Nat.le_trans ‹_› (by decide) | exact Nat.lt_of_lt_of_le ‹_› (by decide) | decide | omega)]; exact hs)
          simp only [exs, exasn, exasn2, exsetattr, exsetidx, exaug, exaugidx, exaugattr, exite, exloop, exret, exexpr, exfail, evlit, evloc, evbin, evneg, evinv, evnot, evand, evor, evcmp, evcmp2, evmem, evite, evcall, evnew, evmeth, evlen, evlistOf, evsorted, evrng1, evrng2, evrng3, evappend, evcount, evattr, evidx, evslTo, evslFrom, evslBt, evrev, evlist, evtup, evcomp, evcompIf, evs, opV_int, t_bool, truthy_int, cmpV_int, cmpV_bool_eq, cmpV_bool_ne, runFn, getA, lookupA, storeA, Option.map_some, List.getElem?_cons_zero, List.getElem?_cons_succ, List.set_cons_zero, List.set_cons_succ, List.cons_append, List.nil_append, vlit, op_add, op_band, op_bor, op_bxor, op_shr, c_eq, c_ne, c_lt, c_le, c_gt, c_ge, List.length_cons, List.length_nil, List.map_cons, List.map_nil, Nat.zero_add, Nat.add_zero, reduceIte, List.replicate_succ, List.replicate_zero, Nat.reduceAdd, Nat.reduceSub, Nat.reduceEqDiff, Nat.sub_self, decide_true, decide_false, eq_self, Bool.not_true, Bool.not_false, beq_self_eq_true, f_kind_of, f_side_of, h0, h1, i1, i2]
          exact ⟨_, _, rfl, rfl, some (N (cells i)), by simp only [kx, h0, h1, and_self, if_true]⟩
        · simp only [exs, exasn, exasn2, exsetattr, exsetidx, exaug, exaugidx, exaugattr, exite, exloop, exret, exexpr, exfail, evlit, evloc, evbin, evneg, evinv, evnot, evand, evor, evcmp, evcmp2, evmem, evite, evcall, evnew, evmeth, evlen, evlistOf, evsorted, evrng1, evrng2, evrng3, evappend, evcount, evattr, evidx, evslTo, evslFrom, evslBt, evrev, evlist, evtup, evcomp, evcompIf, evs, opV_int, t_bool, truthy_int, cmpV_int, cmpV_bool_eq, cmpV_bool_ne, runFn, getA, lookupA, storeA, Option.map_some, List.getElem?_cons_zero, List.getElem?_cons_succ, List.set_cons_zero, List.set_cons_succ, List.cons_append, List.nil_append, vlit, op_add, op_band, op_bor, op_bxor, op_shr, c_eq, c_ne, c_lt, c_le, c_gt, c_ge, List.length_cons, List.length_nil, List.map_cons, List.map_nil, Nat.zero_add, Nat.add_zero, reduceIte, List.replicate_succ, List.replicate_zero, Nat.reduceAdd, Nat.reduceSub, Nat.reduceEqDiff, Nat.sub_self, decide_true, decide_false, eq_self, Bool.not_true, Bool.not_false, beq_self_eq_true, f_kind_of, f_side_of, h0, h1]
          exact ⟨_, _, rfl, rfl, some (N (cells i)), by simp only [kx, h0, h1, and_false, if_false, Nat.xor_zero]⟩
      · simp only [exs, exasn, exasn2, exsetattr, exsetidx, exaug, exaugidx, exaugattr, exite, exloop, exret, exexpr, exfail, evlit, evloc, evbin, evneg, evinv, evnot, evand, evor, evcmp, evcmp2, evmem, evite, evcall, evnew, evmeth, evlen, evlistOf, evsorted, evrng1, evrng2, evrng3, evappend, evcount, evattr, evidx, evslTo, evslFrom, evslBt, evrev, evlist, evtup, evcomp, evcompIf, evs, opV_int, t_bool, truthy_int, cmpV_int, cmpV_bool_eq, cmpV_bool_ne, runFn, getA, lookupA, storeA, Option.map_some, List.getElem?_cons_zero, List.getElem?_cons_succ, List.set_cons_zero, List.set_cons_succ, List.cons_append, List.nil_append, vlit, op_add, op_band, op_bor, op_bxor, op_shr, c_eq, c_ne, c_lt, c_le, c_gt, c_ge, List.length_cons, List.length_nil, List.map_cons, List.map_nil, Nat.zero_add, Nat.add_zero, reduceIte, List.replicate_succ, List.replicate_zero, Nat.reduceAdd, Nat.reduceSub, Nat.reduceEqDiff, Nat.sub_self, decide_true, decide_false, eq_self, Bool.not_true, Bool.not_false, beq_self_eq_true, f_kind_of, f_side_of, h0]
        exact ⟨_, _, rfl, rfl, some (N (cells i)), by simp only [kx, h0, false_and, if_false, Nat.xor_zero]⟩)
  simp only [exs, exasn, exasn2, exsetattr, exsetidx, exaug, exaugidx, exaugattr, exite, exloop, exret, exexpr, exfail, evlit, evloc, evbin, evneg, evinv, evnot, evand, evor, evcmp, evcmp2, evmem, evite, evcall, evnew, evmeth, evlen, evlistOf, evsorted, evrng1, evrng2, evrng3, evappend, evcount, evattr, evidx, evslTo, evslFrom, evslBt, evrev, evlist, evtup, evcomp, evcompIf, evs, opV_int, t_bool, truthy_int, cmpV_int, cmpV_bool_eq, cmpV_bool_ne, runFn, getA, lookupA, storeA, Option.map_some, List.getElem?_cons_zero, List.getElem?_cons_succ, List.set_cons_zero, List.set_cons_succ, List.cons_append, List.nil_append, vlit, op_add, op_band, op_bor, op_bxor, op_shr, c_eq, c_ne, c_lt, c_le, c_gt, c_ge, List.length_cons, List.length_nil, List.map_cons, List.map_nil, Nat.zero_add, Nat.add_zero, reduceIte, List.replicate_succ, List.replicate_zero, Nat.reduceAdd, Nat.reduceSub, Nat.reduceEqDiff, Nat.sub_self, decide_true, decide_false, eq_self, Bool.not_true, Bool.not_false, beq_self_eq_true]

end Mz
end

section
open PySem PySem.W PyProof.Rows
set_option Elab.async false
set_option autoImplicit false

set_option tactic.hygienic false

namespace Mz

noncomputable def Kp (h h' : Hp) : Prop := ∀ (k : Nat) (o : O), h[k]? = some o → h'[k]? = some o
noncomputable def Kx (p : Nat) (h h' : Hp) : Prop := ∀ (k : Nat) (o : O), k ≠ p → h[k]? = some o → h'[k]? = some o
theorem Kp.refl (h : Hp) : Kp h h := fun _ _ e => e
theorem Kp.trans {a b c : Hp} (x : Kp a b) (y : Kp b c) : Kp a c := fun k o e => y k o (x k o e)
theorem Kp.app (h t : Hp) : Kp h (h ++ t) := fun k o e => by
  rw [List.getElem?_append_left (List.getElem?_eq_some_iff.mp e).1]; exact e
theorem Kp.len {h h' : Hp} (x : Kp h h') : h.length ≤ h'.length := by
  rcases Nat.lt_or_ge h'.length h.length with hl | hl
  · have := x h'.length h[h'.length] (List.getElem?_eq_getElem hl)
    have := (List.getElem?_eq_some_iff.mp this).1
    omega
  · exact hl
theorem Kp.x {h h' : Hp} (x : Kp h h') (p : Nat) : Kx p h h' := fun k o _ e => x k o e
theorem Kx.trans {p : Nat} {a b c : Hp} (x : Kx p a b) (y : Kx p b c) : Kx p a c := fun k o n e => y k o n (x k o n e)
theorem lt_of {h : Hp} {k : Nat} {o : O} (e : h[k]? = some o) : k < h.length := (List.getElem?_eq_some_iff.mp e).1
theorem get_app {h : Hp} {k : Nat} {o : O} (e : h[k]? = some o) (t : Hp) : (h ++ t)[k]? = some o := Kp.app h t k o e
theorem get_new (h : Hp) (o : O) : (h ++ [o])[h.length]? = some o := by simp
theorem get_set {h : Hp} {k : Nat} {o o' : O} (e : h[k]? = some o') : (h.set k o)[k]? = some o := by
  rw [List.getElem?_set_self (lt_of e)]
theorem get_set_ne {h : Hp} {j k : Nat} {o o' : O} (e : h[k]? = some o') (n : k ≠ j) : (h.set j o)[k]? = some o' := by
  rw [List.getElem?_set_ne (Ne.symm n)]; exact e
theorem Kx.set (h : Hp) (p : Nat) (o : O) : Kx p h (h.set p o) := fun k o' n e => get_set_ne e n
theorem ne_of {h : Hp} {j k : Nat} {o o' : O} (e : h[j]? = some o) (e' : h[k]? = some o') (n : o ≠ o') : j ≠ k := fun q => n (by subst q; rw [e] at e'; exact Option.some.inj e')

theorem map_upd (n i : Nat) (g : Nat → V) (v : V) : ((List.range n).map g).set i v = (List.range n).map fun j => if j = i then v else g j := by
  apply List.ext_getElem
  · simp
  · intro k h1 h2
    simp only [List.getElem_set, List.getElem_map, List.getElem_range]
    by_cases e : i = k
    · simp [e]
    · simp [e, Ne.symm e]
theorem setIdx_LV {h : Hp} {k n i : Nat} {g : Nat → V} {v : V} (hk : h[k]? = some (LV n g)) (hi : i < n) (hn : n ≤ 1000) :
    setIdx h (.ref k) (.int (i : Int)) v = some (h.set k (LV n fun j => if j = i then v else g j)) := by
  have : (0 : Int) ≤ (i : Int) := by first | assumption | exact Nat.le_of_lt ‹_› | exact Nat.lt_succ_of_lt ‹_› | exact Nat.ne_of_lt ‹_› | exact Nat.ne_of_gt ‹_› | exact Nat.le_trans ‹_› (by decide) | exact Nat.lt_of_lt_of_le ‹_› (by decide) | decide | omega
  simp [setIdx, hk, this, hn, hi, map_upd]
theorem setIdx_LN {h : Hp} {k n i x : Nat} {g : Nat → Nat} (hk : h[k]? = some (LN n g)) (hi : i < n) (hn : n ≤ 1000) :
    setIdx h (.ref k) (.int (i : Int)) (.int (x : Int)) = some (h.set k (LN n fun j => if j = i then x else g j)) := by
  rw [setIdx_LV hk hi hn]
  have : (fun j => if j = i then V.int (x : Int) else N (g j)) = fun j => N (if j = i then x else g j) := by
    funext j; split <;> rfl
  rw [this]
theorem append_LV {h : Hp} {k n : Nat} {g g' : Nat → V} {v : V} (hk : h[k]? = some (LV n g)) (hn : n ≤ 1000) (hg : ∀ i, i < n → g' i = g i) (hv : g' n = v) :
    doAppend h (.ref k) v = some (.none, h.set k (LV (n + 1) g')) := by
  simp only [doAppend, hk, List.length_map, List.length_range, hn, if_true]
  have e : (List.range (n + 1)).map g' = (List.range n).map g ++ [v] := by
    rw [List.range_succ, List.map_append, List.map_congr_left (g := g) (fun i hi => hg i (List.mem_range.mp hi))]
    simp [hv]
  simp only [LV, e]
theorem mul_list {h : Hp} {k n : Nat} (hk : h[k]? = some (.list [N 0])) (hn : n ≤ 1000) : opV .mul (.ref k) (.int (n : Int)) h = some (.ref h.length, h ++ [LN n fun _ => 0]) := by
  have h0 : (0 : Int) ≤ (n : Int) ∧ (n : Int) ≤ 1000 := by first | assumption | exact Nat.le_of_lt ‹_› | exact Nat.lt_succ_of_lt ‹_› | exact Nat.ne_of_lt ‹_› | exact Nat.ne_of_gt ‹_› | exact Nat.le_trans ‹_› (by decide) | exact Nat.lt_of_lt_of_le ‹_› (by decide) | decide | omega
  simp only [opV, hk]
  rw [if_pos h0]
  simp [List.map_const']
theorem len_list {h : Hp} {k : Nat} {vs : List V} (hk : h[k]? = some (.list vs)) (hn : vs.length ≤ 1000) : doLen h (.ref k) = some (.int (vs.length : Int)) := by
  simp [doLen, getL, hk, hn]
theorem getL_of {h : Hp} {k : Nat} {vs : List V} (hk : h[k]? = some (.list vs)) : getL h (.ref k) = some vs := by simp [getL, hk]

noncomputable def cnt (f : Nat → Nat) (m : Nat) : Nat → Nat
  | 0 => 0
  | n + 1 => cnt f m n + if f n = m then 1 else 0
theorem cnt_succ (f : Nat → Nat) (m n : Nat) : cnt f m (n + 1) = cnt f m n + if f n = m then 1 else 0 := rfl
theorem kx_succ (f : Nat → Nat) (n : Nat) : kx f (n + 1) = kx f n ^^^ f n := rfl
theorem cnt_le (f : Nat → Nat) (m : Nat) : ∀ n, cnt f m n ≤ n
  | 0 => Nat.le_refl _
  | n + 1 => by
    have := cnt_le f m n
    unfold cnt
    split <;> omega

noncomputable def mkey (T : Tb) (cells : Nat → Nat) : Nat → Nat := kx fun s => if cells s ≠ 0 then T.P (cells s) (cnt cells (cells s) s) else 0

theorem f_material_key (d : Nat) {h : Hp} {p g z size files : Nat} {T : Tb} {cells : Nat → Nat} {side rights key : Nat} {ep : Int} (hz : ZobAt h z size files T) (hp : PosAt h p g z size cells side rights ep key)
    (hs : size ≤ 1000) (hc : ∀ s, s < size → Cell (cells s)) :
    ∃ h', Fd tab (d + 2) 12 [.ref p] h = some (N (mkey T cells size), h') ∧ Kp h h' := by
  obtain ⟨a, e, r, rs, z1, z2, z3, z4, z5⟩ := hz
  obtain ⟨b, ks, ss, hi, p1, p2⟩ := hp
  unfold posO at p1
  rw [Fd_of (f := 12) rfl]
  have m1 := mul_list (get_new h (.list [N 0])) (n := 15) (by decide)
  simp only [exs, exasn, exasn2, exsetattr, exsetidx, exaug, exaugidx, exaugattr, exite, exloop, exret, exexpr, exfail, evlit, evloc, evbin, evneg, evinv, evnot, evand, evor, evcmp, evcmp2, evmem, evite, evcall, evnew, evmeth, evlen, evlistOf, evsorted, evrng1, evrng2, evrng3, evappend, evcount, evattr, evidx, evslTo, evslFrom, evslBt, evrev, evlist, evtup, evcomp, evcompIf, evs, opV_int, t_bool, truthy_int, cmpV_int, cmpV_bool_eq, cmpV_bool_ne, runFn, getA, lookupA, storeA, Option.map_some, List.getElem?_cons_zero, List.getElem?_cons_succ, List.set_cons_zero, List.set_cons_succ, List.cons_append, List.nil_append, vlit, op_add, op_band, op_bor, op_bxor, op_shr, c_eq, c_ne, c_lt, c_le, c_gt, c_ge, List.length_cons, List.length_nil, List.map_cons, List.map_nil, Nat.zero_add, Nat.add_zero, reduceIte, List.replicate_succ, List.replicate_zero, Nat.reduceAdd, Nat.reduceSub, Nat.reduceEqDiff, Nat.sub_self, decide_true, decide_false, eq_self, Bool.not_true, Bool.not_false, beq_self_eq_true, b_material_key, p1, z1, m1, get_app (get_app p1 _) _]
  generalize hL : loopAll _ _ _ _ _ = L
  have hlt : ∀ {k o}, h[k]? = some o → k ≠ (h ++ [O.list [N 0]]).length := fun {k o} e => by
    have := lt_of e
    rw [List.length_append]; omega
  have hK := Kp.trans (Kp.app h [O.list [N 0]]) (Kp.app (h ++ [O.list [N 0]]) [LN 15 fun _ => 0])
  generalize hh2 : h ++ [O.list [N 0]] ++ [LN 15 fun x => 0] = h2 at hL hK
  have c0 : h2[(h ++ [O.list [N 0]]).length]? = some (LN 15 fun _ => 0) := by rw [← hh2]; exact get_new _ _
  generalize (h ++ [O.list [N 0]]).length = c at hL c0 hlt
  obtain ⟨l', h', rfl, ⟨x, cn, rfl, k1, k2, k3⟩⟩ := loop_LV (g := fun s => N (cells s)) (n := size) hL
    (fun i l h' => ∃ x cn, l = [some (.ref p), some (.ref a), some (.ref c), some (N (mkey T cells i)), x] ∧ Kp h h' ∧ h'[c]? = some (LN 15 cn) ∧ ∀ m, m ≠ 0 → m < 15 → cn m = cnt cells m i)
    ⟨none, fun _ => 0, rfl, hK, c0, fun _ _ _ => rfl⟩ hs (fun i l h' hh => by obtain ⟨x, cn, _, k1, _, _⟩ := hh; exact k1 _ _ p2) (fun i l h' hi hh => by
      obtain ⟨x, cn, rfl, k1, k2, k3⟩ := hh
      have hce := hc i hi
      by_cases h0 : cells i = 0
      · simp only [exs, exasn, exasn2, exsetattr, exsetidx, exaug, exaugidx, exaugattr, exite, exloop, exret, exexpr, exfail, evlit, evloc, evbin, evneg, evinv, evnot, evand, evor, evcmp, evcmp2, evmem, evite, evcall, evnew, evmeth, evlen, evlistOf, evsorted, evrng1, evrng2, evrng3, evappend, evcount, evattr, evidx, evslTo, evslFrom, evslBt, evrev, evlist, evtup, evcomp, evcompIf, evs, opV_int, t_bool, truthy_int, cmpV_int, cmpV_bool_eq, cmpV_bool_ne, runFn, getA, lookupA, storeA, Option.map_some, List.getElem?_cons_zero, List.getElem?_cons_succ, List.set_cons_zero, List.set_cons_succ, List.cons_append, List.nil_append, vlit, op_add, op_band, op_bor, op_bxor, op_shr, c_eq, c_ne, c_lt, c_le, c_gt, c_ge, List.length_cons, List.length_nil, List.map_cons, List.map_nil, Nat.zero_add, Nat.add_zero, reduceIte, List.replicate_succ, List.replicate_zero, Nat.reduceAdd, Nat.reduceSub, Nat.reduceEqDiff, Nat.sub_self, decide_true, decide_false, eq_self, Bool.not_true, Bool.not_false, beq_self_eq_true, h0, Bool.not_true, Bool.not_false]
        refine ⟨_, _, rfl, some (N 0), cn, ?_, k1, k2, fun m hm hm2 => ?_⟩
        · simp only [mkey, kx, h0, ne_eq, not_true_eq_false, if_false, Nat.xor_zero]
        · rw [k3 m hm hm2, cnt_succ, if_neg (by first | assumption | exact Nat.le_of_lt ‹_› | exact Nat.lt_succ_of_lt ‹_› | exact Nat.ne_of_lt ‹_› | exact Nat.ne_of_gt ‹_› | exact Nat.le_trans ‹_› (by decide) | exact Nat.lt_of_lt_of_le ‹_› (by decide) | decide | omega)]; rfl
      · have i1 := getIdx_LV (k1 _ _ z2) hce.1 (by decide)
        have i3 := getIdx_LV k2 hce.1 (by decide)
        have hle := cnt_le cells (cells i) i
        rw [k3 _ h0 hce.1] at i3
        have i2 := getIdx_LV (k1 _ _ (z5 _ hce.1)) (i := cnt cells (cells i) i) (by rw [hce.rl (hce.ne h0)]; omega) (by rw [hce.rl (hce.ne h0)]; exact hs)
        have s1 := setIdx_LN (x := cnt cells (cells i) i + 1) k2 hce.1 (by decide)
        simp only [exs, exasn, exasn2, exsetattr, exsetidx, exaug, exaugidx, exaugattr, exite, exloop, exret, exexpr, exfail, evlit, evloc, evbin, evneg, evinv, evnot, evand, evor, evcmp, evcmp2, evmem, evite, evcall, evnew, evmeth, evlen, evlistOf, evsorted, evrng1, evrng2, evrng3, evappend, evcount, evattr, evidx, evslTo, evslFrom, evslBt, evrev, evlist, evtup, evcomp, evcompIf, evs, opV_int, t_bool, truthy_int, cmpV_int, cmpV_bool_eq, cmpV_bool_ne, runFn, getA, lookupA, storeA, Option.map_some, List.getElem?_cons_zero, List.getElem?_cons_succ, List.set_cons_zero, List.set_cons_succ, List.cons_append, List.nil_append, vlit, op_add, op_band, op_bor, op_bxor, op_shr, c_eq, c_ne, c_lt, c_le, c_gt, c_ge, List.length_cons, List.length_nil, List.map_cons, List.map_nil, Nat.zero_add, Nat.add_zero, reduceIte, List.replicate_succ, List.replicate_zero, Nat.reduceAdd, Nat.reduceSub, Nat.reduceEqDiff, Nat.sub_self, decide_true, decide_false, eq_self, Bool.not_true, Bool.not_false, beq_self_eq_true, h0, i1, i2, i3, s1, Bool.not_true, Bool.not_false]
        refine ⟨_, _, rfl, some (N (cells i)), _, ?_, fun k o e => get_set_ne (k1 k o e) (hlt e), get_set k2, fun m hm hm2 => ?_⟩
        · simp only [mkey, kx, h0, ne_eq, not_false_eq_true, if_true, Nat.xor_assoc]
        · show (if m = cells i then _ else cn m) = _
          rw [cnt_succ]
          by_cases hmi : m = cells i
          · rw [if_pos hmi, if_pos hmi.symm, hmi]
          · rw [if_neg hmi, if_neg (Ne.symm hmi), k3 m hm hm2]; rfl)
  simp only [exs, exasn, exasn2, exsetattr, exsetidx, exaug, exaugidx, exaugattr, exite, exloop, exret, exexpr, exfail, evlit, evloc, evbin, evneg, evinv, evnot, evand, evor, evcmp, evcmp2, evmem, evite, evcall, evnew, evmeth, evlen, evlistOf, evsorted, evrng1, evrng2, evrng3, evappend, evcount, evattr, evidx, evslTo, evslFrom, evslBt, evrev, evlist, evtup, evcomp, evcompIf, evs, opV_int, t_bool, truthy_int, cmpV_int, cmpV_bool_eq, cmpV_bool_ne, runFn, getA, lookupA, storeA, Option.map_some, List.getElem?_cons_zero, List.getElem?_cons_succ, List.set_cons_zero, List.set_cons_succ, List.cons_append, List.nil_append, vlit, op_add, op_band, op_bor, op_bxor, op_shr, c_eq, c_ne, c_lt, c_le, c_gt, c_ge, List.length_cons, List.length_nil, List.map_cons, List.map_nil, Nat.zero_add, Nat.add_zero, reduceIte, List.replicate_succ, List.replicate_zero, Nat.reduceAdd, Nat.reduceSub, Nat.reduceEqDiff, Nat.sub_self, decide_true, decide_false, eq_self, Bool.not_true, Bool.not_false, beq_self_eq_true]
  exact ⟨_, rfl, k1⟩

/-! ### the law's small functions -/

theorem loop_list {f : Loc → Hp → Option (Fl × Loc × Hp)} {x b : Nat} {vs : List V} {l : Loc} {h : Hp} {L : Option (Fl × Loc × Hp)} (hL : loopAll f x (.ref b) l h = L) (I : Nat → Loc → Hp → Prop) (h0 : I 0 l h) (hn : vs.length ≤ 1000)
    (hI : ∀ i l h, I i l h → h[b]? = some (.list vs))
    (step : ∀ i v l h, vs[i]? = some v → I i l h → ∃ l' h', f (l.set x (some v)) h = some (.next, l', h') ∧ I (i + 1) l' h') :
    ∃ l' h', L = some (.next, l', h') ∧ I vs.length l' h' := by
  subst hL
  have hb := hI 0 l h h0
  obtain ⟨l', h', e, hi⟩ := loop_inv f x (.lst b) vs.length I (fun l h hi => by simp [lenIt, hI _ _ _ hi]) (fun i l h hlt hi => by
    have hv : vs[i]? = some vs[i] := List.getElem?_eq_getElem hlt
    obtain ⟨l', h', e1, e2⟩ := step i _ l h hv hi
    exact ⟨vs[i], l', h', by simp only [itemAt, hI _ _ _ hi, hv], e1, e2⟩) vs.length 0 l h (by first | assumption | exact Nat.le_of_lt ‹_› | exact Nat.lt_succ_of_lt ‹_› | exact Nat.ne_of_lt ‹_› | exact Nat.ne_of_gt ‹_› | exact Nat.le_trans ‹_› (by decide) | exact Nat.lt_of_lt_of_le ‹_› (by decide) | decide | omega) h0
  exact ⟨l', h', by simp only [loopAll, itOf, hb, lenIt, hn, if_true, e], hi⟩

noncomputable def xl (xs : List Nat) : Nat := xs.foldl (· ^^^ ·) 0

theorem f_law_xor (d : Nat) {h : Hp} {a : Nat} {xs : List Nat} (ha : h[a]? = some (.list (xs.map N))) (hn : xs.length ≤ 1000) : Fd tab (d + 1) 27 [.ref a] h = some (N (xl xs), h) := by
  rw [Fd_of (f := 27) rfl]
  simp only [exs, exasn, exasn2, exsetattr, exsetidx, exaug, exaugidx, exaugattr, exite, exloop, exret, exexpr, exfail, evlit, evloc, evbin, evneg, evinv, evnot, evand, evor, evcmp, evcmp2, evmem, evite, evcall, evnew, evmeth, evlen, evlistOf, evsorted, evrng1, evrng2, evrng3, evappend, evcount, evattr, evidx, evslTo, evslFrom, evslBt, evrev, evlist, evtup, evcomp, evcompIf, evs, opV_int, t_bool, truthy_int, cmpV_int, cmpV_bool_eq, cmpV_bool_ne, runFn, getA, lookupA, storeA, Option.map_some, List.getElem?_cons_zero, List.getElem?_cons_succ, List.set_cons_zero, List.set_cons_succ, List.cons_append, List.nil_append, vlit, op_add, op_band, op_bor, op_bxor, op_shr, c_eq, c_ne, c_lt, c_le, c_gt, c_ge, List.length_cons, List.length_nil, List.map_cons, List.map_nil, Nat.zero_add, Nat.add_zero, reduceIte, List.replicate_succ, List.replicate_zero, Nat.reduceAdd, Nat.reduceSub, Nat.reduceEqDiff, Nat.sub_self, decide_true, decide_false, eq_self, Bool.not_true, Bool.not_false, beq_self_eq_true, b_law_xor]
  generalize hL : loopAll _ _ _ _ _ = L
  obtain ⟨l', h', rfl, rfl, x, rfl⟩ := loop_list (vs := xs.map N) hL (fun i l h' => h' = h ∧ ∃ x, l = [some (.ref a), some (N (xl (xs.take i))), x]) ⟨rfl, none, rfl⟩ (by simpa using hn)
    (fun i l h' hh => hh.1 ▸ ha) (fun i v l h' hv hh => by
      obtain ⟨rfl, x, rfl⟩ := hh
      rw [List.getElem?_map] at hv
      cases hx : xs[i]? with
      | none => rw [hx] at hv; cases hv
      | some y =>
        rw [hx] at hv
        obtain rfl : N y = v := Option.some.inj hv
        simp only [exs, exasn, exasn2, exsetattr, exsetidx, exaug, exaugidx, exaugattr, exite, exloop, exret, exexpr, exfail, evlit, evloc, evbin, evneg, evinv, evnot, evand, evor, evcmp, evcmp2, evmem, evite, evcall, evnew, evmeth, evlen, evlistOf, evsorted, evrng1, evrng2, evrng3, evappend, evcount, evattr, evidx, evslTo, evslFrom, evslBt, evrev, evlist, evtup, evcomp, evcompIf, evs, opV_int, t_bool, truthy_int, cmpV_int, cmpV_bool_eq, cmpV_bool_ne, runFn, getA, lookupA, storeA, Option.map_some, List.getElem?_cons_zero, List.getElem?_cons_succ, List.set_cons_zero, List.set_cons_succ, List.cons_append, List.nil_append, vlit, op_add, op_band, op_bor, op_bxor, op_shr, c_eq, c_ne, c_lt, c_le, c_gt, c_ge, List.length_cons, List.length_nil, List.map_cons, List.map_nil, Nat.zero_add, Nat.add_zero, reduceIte, List.replicate_succ, List.replicate_zero, Nat.reduceAdd, Nat.reduceSub, Nat.reduceEqDiff, Nat.sub_self, decide_true, decide_false, eq_self, Bool.not_true, Bool.not_false, beq_self_eq_true]
        refine ⟨_, _, rfl, rfl, some (N y), ?_⟩
        rw [List.take_add_one, hx]
        simp only [xl, Option.toList_some, List.foldl_append, List.foldl_cons, List.foldl_nil])
  simp only [exs, exasn, exasn2, exsetattr, exsetidx, exaug, exaugidx, exaugattr, exite, exloop, exret, exexpr, exfail, evlit, evloc, evbin, evneg, evinv, evnot, evand, evor, evcmp, evcmp2, evmem, evite, evcall, evnew, evmeth, evlen, evlistOf, evsorted, evrng1, evrng2, evrng3, evappend, evcount, evattr, evidx, evslTo, evslFrom, evslBt, evrev, evlist, evtup, evcomp, evcompIf, evs, opV_int, t_bool, truthy_int, cmpV_int, cmpV_bool_eq, cmpV_bool_ne, runFn, getA, lookupA, storeA, Option.map_some, List.getElem?_cons_zero, List.getElem?_cons_succ, List.set_cons_zero, List.set_cons_succ, List.cons_append, List.nil_append, vlit, op_add, op_band, op_bor, op_bxor, op_shr, c_eq, c_ne, c_lt, c_le, c_gt, c_ge, List.length_cons, List.length_nil, List.map_cons, List.map_nil, Nat.zero_add, Nat.add_zero, reduceIte, List.replicate_succ, List.replicate_zero, Nat.reduceAdd, Nat.reduceSub, Nat.reduceEqDiff, Nat.sub_self, decide_true, decide_false, eq_self, Bool.not_true, Bool.not_false, beq_self_eq_true]
  simp only [List.length_map, List.take_length]

theorem f_law_at (d : Nat) {h : Hp} {a k : Nat} {xs : List Int} (ha : h[a]? = some (.list (xs.map V.int))) (hn : xs.length ≤ 1000) : Fd tab (d + 1) 26 [.ref a, .int (k : Int)] h = some (.int (xs.getD k 0), h) := by
  have hl := len_list ha (by simpa using hn)
  rw [List.length_map] at hl
  rw [Fd_of (f := 26) rfl]
  simp only [exs, exasn, exasn2, exsetattr, exsetidx, exaug, exaugidx, exaugattr, exite, exloop, exret, exexpr, exfail, evlit, evloc, evbin, evneg, evinv, evnot, evand, evor, evcmp, evcmp2, evmem, evite, evcall, evnew, evmeth, evlen, evlistOf, evsorted, evrng1, evrng2, evrng3, evappend, evcount, evattr, evidx, evslTo, evslFrom, evslBt, evrev, evlist, evtup, evcomp, evcompIf, evs, opV_int, t_bool, truthy_int, cmpV_int, cmpV_bool_eq, cmpV_bool_ne, runFn, getA, lookupA, storeA, Option.map_some, List.getElem?_cons_zero, List.getElem?_cons_succ, List.set_cons_zero, List.set_cons_succ, List.cons_append, List.nil_append, vlit, op_add, op_band, op_bor, op_bxor, op_shr, c_eq, c_ne, c_lt, c_le, c_gt, c_ge, List.length_cons, List.length_nil, List.map_cons, List.map_nil, Nat.zero_add, Nat.add_zero, reduceIte, List.replicate_succ, List.replicate_zero, Nat.reduceAdd, Nat.reduceSub, Nat.reduceEqDiff, Nat.sub_self, decide_true, decide_false, eq_self, Bool.not_true, Bool.not_false, beq_self_eq_true, b_law_at, hl]
  by_cases hk : k < xs.length
  · have hi : getIdx h (.ref a) (.int (k : Int)) = some (.int (xs.getD k 0)) := by
      have : (0 : Int) ≤ (k : Int) := by first | assumption | exact Nat.le_of_lt ‹_› | exact Nat.lt_succ_of_lt ‹_› | exact Nat.ne_of_lt ‹_› | exact Nat.ne_of_gt ‹_› | exact Nat.le_trans ‹_› (by decide) | exact Nat.lt_of_lt_of_le ‹_› (by decide) | decide | omega
      simp [getIdx, ha, this, hn, hk]
    simp only [exs, exasn, exasn2, exsetattr, exsetidx, exaug, exaugidx, exaugattr, exite, exloop, exret, exexpr, exfail, evlit, evloc, evbin, evneg, evinv, evnot, evand, evor, evcmp, evcmp2, evmem, evite, evcall, evnew, evmeth, evlen, evlistOf, evsorted, evrng1, evrng2, evrng3, evappend, evcount, evattr, evidx, evslTo, evslFrom, evslBt, evrev, evlist, evtup, evcomp, evcompIf, evs, opV_int, t_bool, truthy_int, cmpV_int, cmpV_bool_eq, cmpV_bool_ne, runFn, getA, lookupA, storeA, Option.map_some, List.getElem?_cons_zero, List.getElem?_cons_succ, List.set_cons_zero, List.set_cons_succ, List.cons_append, List.nil_append, vlit, op_add, op_band, op_bor, op_bxor, op_shr, c_eq, c_ne, c_lt, c_le, c_gt, c_ge, List.length_cons, List.length_nil, List.map_cons, List.map_nil, Nat.zero_add, Nat.add_zero, reduceIte, List.replicate_succ, List.replicate_zero, Nat.reduceAdd, Nat.reduceSub, Nat.reduceEqDiff, Nat.sub_self, decide_true, decide_false, eq_self, Bool.not_true, Bool.not_false, beq_self_eq_true, hk, hi]
  · simp only [exs, exasn, exasn2, exsetattr, exsetidx, exaug, exaugidx, exaugattr, exite, exloop, exret, exexpr, exfail, evlit, evloc, evbin, evneg, evinv, evnot, evand, evor, evcmp, evcmp2, evmem, evite, evcall, evnew, evmeth, evlen, evlistOf, evsorted, evrng1, evrng2, evrng3, evappend, evcount, evattr, evidx, evslTo, evslFrom, evslBt, evrev, evlist, evtup, evcomp, evcompIf, evs, opV_int, t_bool, truthy_int, cmpV_int, cmpV_bool_eq, cmpV_bool_ne, runFn, getA, lookupA, storeA, Option.map_some, List.getElem?_cons_zero, List.getElem?_cons_succ, List.set_cons_zero, List.set_cons_succ, List.cons_append, List.nil_append, vlit, op_add, op_band, op_bor, op_bxor, op_shr, c_eq, c_ne, c_lt, c_le, c_gt, c_ge, List.length_cons, List.length_nil, List.map_cons, List.map_nil, Nat.zero_add, Nat.add_zero, reduceIte, List.replicate_succ, List.replicate_zero, Nat.reduceAdd, Nat.reduceSub, Nat.reduceEqDiff, Nat.sub_self, decide_true, decide_false, eq_self, Bool.not_true, Bool.not_false, beq_self_eq_true, hk]
    rw [List.getD_eq_getElem?_getD, List.getElem?_eq_none (by first | assumption | exact Nat.le_of_lt ‹_› | exact Nat.lt_succ_of_lt ‹_› | exact Nat.ne_of_lt ‹_› | exact Nat.ne_of_gt ‹_› | exact Nat.le_trans ‹_› (by decide) | exact Nat.lt_of_lt_of_le ‹_› (by decide) | decide | omega)]
    rfl

end Mz
end

section
open PySem PySem.W PyProof.Rows
set_option Elab.async false
set_option autoImplicit false

set_option tactic.hygienic false

namespace Mz

/-! ### sums by xor -/

theorem xl_app (xs ys : List Nat) : xl (xs ++ ys) = xl xs ^^^ xl ys := by
  have h : ∀ (ys : List Nat) (a : Nat), ys.foldl (· ^^^ ·) a = a ^^^ ys.foldl (· ^^^ ·) 0 := by
    intro ys
    induction ys with
    | nil => intro a; simp
    | cons y r ih =>
      intro a
      rw [List.foldl_cons, List.foldl_cons, ih (a ^^^ y), ih (0 ^^^ y), Nat.zero_xor, Nat.xor_assoc]
  unfold xl
  rw [List.foldl_append, h ys]
theorem xl_one (x : Nat) : xl [x] = x := by simp [xl]
theorem xl_cons (x : Nat) (xs : List Nat) : xl (x :: xs) = x ^^^ xl xs := by
  have := xl_app [x] xs
  rw [xl_one] at this
  exact this
theorem xl_range (f : Nat → Nat) : ∀ n, xl ((List.range n).map f) = kx f n
  | 0 => rfl
  | n + 1 => by rw [List.range_succ, List.map_append, xl_app, xl_range f n, List.map_cons, List.map_nil, xl_one, kx_succ]
theorem xl_filter (t : Nat → Bool) (f : Nat → Nat) : ∀ n, xl ((List.range n).filterMap fun s => if t s then some (f s) else none) = kx (fun s => if t s then f s else 0) n
  | 0 => rfl
  | n + 1 => by
    rw [List.range_succ, List.filterMap_append, xl_app, xl_filter t f n, kx_succ]
    cases h : t n <;> simp [h, xl]

/-! ### the bits above the 64 -/

noncomputable def hb (x i : Nat) : Bool := x.testBit (64 + i)
theorem hb_xor (x y i : Nat) : hb (x ^^^ y) i = (hb x i ^^ hb y i) := by simp [hb]
theorem hb_zero (i : Nat) : hb 0 i = false := by simp [hb]
theorem hb_low {lo : Nat} (h : lo < 2 ^ 64) (i : Nat) : lo.testBit (64 + i) = false :=
  Nat.testBit_lt_two_pow (Nat.lt_of_lt_of_le h (Nat.pow_le_pow_right (by decide) (by first | assumption | exact Nat.le_of_lt ‹_› | exact Nat.lt_succ_of_lt ‹_› | exact Nat.ne_of_lt ‹_› | exact Nat.ne_of_gt ‹_› | exact Nat.le_trans ‹_› (by decide) | exact Nat.lt_of_lt_of_le ‹_› (by decide) | decide | omega)))
theorem hb_one {lo e : Nat} (h : lo < 2 ^ 64) (i : Nat) : hb (lo ||| 2 ^ (64 + e)) i = decide (e = i) := by
  unfold hb
  rw [Nat.testBit_or, hb_low h, Bool.false_or, Nat.testBit_two_pow]
  by_cases q : e = i
  · simp [q]
  · simp [q]
theorem hb_mul {lo r k : Nat} (h : lo < 2 ^ 64) (i : Nat) : hb (lo ||| r * 2 ^ (64 + k)) i = (decide (k ≤ i) && r.testBit (i - k)) := by
  unfold hb
  rw [Nat.testBit_or, hb_low h, Bool.false_or, ← Nat.shiftLeft_eq, Nat.testBit_shiftLeft]
  have e1 : 64 + i - (64 + k) = i - k := by first | assumption | exact Nat.le_of_lt ‹_› | exact Nat.lt_succ_of_lt ‹_› | exact Nat.ne_of_lt ‹_› | exact Nat.ne_of_gt ‹_› | exact Nat.le_trans ‹_› (by decide) | exact Nat.lt_of_lt_of_le ‹_› (by decide) | decide | omega
  rw [e1]
  by_cases q : k ≤ i
  · simp [q]
  · simp [q]

theorem hb_kx {f : Nat → Nat} {t : Nat → Prop} [DecidablePred t] {e : Nat → Nat} : ∀ {n : Nat}, (∀ s i, s < n → hb (f s) i = (decide (t s) && decide (e s = i))) → (∀ s s', s < s' → s' < n → t s → t s' → e s ≠ e s') →
    ∀ i, hb (kx f n) i = true ↔ ∃ s, s < n ∧ t s ∧ e s = i
  | 0, _, _, i => by simp [kx, hb_zero]
  | n + 1, hf, inj, i => by
    have ih := hb_kx (n := n) (fun s i hs => hf s i (by first | assumption | exact Nat.le_of_lt ‹_› | exact Nat.lt_succ_of_lt ‹_› | exact Nat.ne_of_lt ‹_› | exact Nat.ne_of_gt ‹_› | exact Nat.le_trans ‹_› (by decide) | exact Nat.lt_of_lt_of_le ‹_› (by decide) | decide | omega)) (fun s s' h1 h2 => inj s s' h1 (by first | assumption | exact Nat.le_of_lt ‹_› | exact Nat.lt_succ_of_lt ‹_› | exact Nat.ne_of_lt ‹_› | exact Nat.ne_of_gt ‹_› | exact Nat.le_trans ‹_› (by decide) | exact Nat.lt_of_lt_of_le ‹_› (by decide) | decide | omega)) i
    rw [kx_succ, hb_xor, hf n i (by first | assumption | exact Nat.le_of_lt ‹_› | exact Nat.lt_succ_of_lt ‹_› | exact Nat.ne_of_lt ‹_› | exact Nat.ne_of_gt ‹_› | exact Nat.le_trans ‹_› (by decide) | exact Nat.lt_of_lt_of_le ‹_› (by decide) | decide | omega)]
    by_cases hn : t n ∧ e n = i
    · have : hb (kx f n) i = false := by
        cases h : hb (kx f n) i with
        | false => rfl
        | true =>
          obtain ⟨s, h1, h2, h3⟩ := ih.mp h
          exact absurd (h3.trans hn.2.symm) (inj s n h1 (by first | assumption | exact Nat.le_of_lt ‹_› | exact Nat.lt_succ_of_lt ‹_› | exact Nat.ne_of_lt ‹_› | exact Nat.ne_of_gt ‹_› | exact Nat.le_trans ‹_› (by decide) | exact Nat.lt_of_lt_of_le ‹_› (by decide) | decide | omega) h2 hn.1)
      rw [this]
      simp only [hn.1, hn.2, decide_true, Bool.and_self, Bool.false_xor, true_iff]
      exact ⟨n, by first | assumption | exact Nat.le_of_lt ‹_› | exact Nat.lt_succ_of_lt ‹_› | exact Nat.ne_of_lt ‹_› | exact Nat.ne_of_gt ‹_› | exact Nat.le_trans ‹_› (by decide) | exact Nat.lt_of_lt_of_le ‹_› (by decide) | decide | omega, hn.1, hn.2⟩
    · have : (decide (t n) && decide (e n = i)) = false := by
        cases h : (decide (t n) && decide (e n = i)) with
        | false => rfl
        | true => simp at h; exact absurd h hn
      rw [this, Bool.xor_false, ih]
      constructor
      · rintro ⟨s, h1, h2⟩; exact ⟨s, by first | assumption | exact Nat.le_of_lt ‹_› | exact Nat.lt_succ_of_lt ‹_› | exact Nat.ne_of_lt ‹_› | exact Nat.ne_of_gt ‹_› | exact Nat.le_trans ‹_› (by decide) | exact Nat.lt_of_lt_of_le ‹_› (by decide) | decide | omega, h2⟩
      · rintro ⟨s, h1, h2, h3⟩
        refine ⟨s, ?_, h2, h3⟩
        rcases Nat.lt_or_ge s n with h | h
        · exact h
        · obtain rfl : s = n := by first | assumption | exact Nat.le_of_lt ‹_› | exact Nat.lt_succ_of_lt ‹_› | exact Nat.ne_of_lt ‹_› | exact Nat.ne_of_gt ‹_› | exact Nat.le_trans ‹_› (by decide) | exact Nat.lt_of_lt_of_le ‹_› (by decide) | decide | omega
          exact absurd ⟨h2, h3⟩ hn

structure Own (T : Tb) (size files : Nat) : Prop where
  P : ∀ m s i, m < 15 → s < size → hb (T.P m s) i = decide (m * size + s = i)
  E : ∀ f i, f < files → hb (T.E f) i = decide (15 * size + f = i)
  R : ∀ r i, r < 16 → hb (T.R r) i = (decide (15 * size + files ≤ i) && r.testBit (i - (15 * size + files)))
  S : ∀ i, hb T.S i = decide (15 * size + files + 4 = i)

theorem place_inj {a b x y n : Nat} (hx : x < n) (hy : y < n) (h : a * n + x = b * n + y) : a = b ∧ x = y := by
  have h1 : (a * n + x) / n = a := by rw [Nat.mul_comm, Nat.mul_add_div (by first | assumption | exact Nat.le_of_lt ‹_› | exact Nat.lt_succ_of_lt ‹_› | exact Nat.ne_of_lt ‹_› | exact Nat.ne_of_gt ‹_› | exact Nat.le_trans ‹_› (by decide) | exact Nat.lt_of_lt_of_le ‹_› (by decide) | decide | omega), Nat.div_eq_of_lt hx]; rfl
  have h2 : (b * n + y) / n = b := by rw [Nat.mul_comm, Nat.mul_add_div (by first | assumption | exact Nat.le_of_lt ‹_› | exact Nat.lt_succ_of_lt ‹_› | exact Nat.ne_of_lt ‹_› | exact Nat.ne_of_gt ‹_› | exact Nat.le_trans ‹_› (by decide) | exact Nat.lt_of_lt_of_le ‹_› (by decide) | decide | omega), Nat.div_eq_of_lt hy]; rfl
  have : a = b := by rw [← h1, h, h2]
  subst this
  exact ⟨rfl, by first | assumption | exact Nat.le_of_lt ‹_› | exact Nat.lt_succ_of_lt ‹_› | exact Nat.ne_of_lt ‹_› | exact Nat.ne_of_gt ‹_› | exact Nat.le_trans ‹_› (by decide) | exact Nat.lt_of_lt_of_le ‹_› (by decide) | decide | omega⟩

noncomputable def kt (T : Tb) (t : Nat → Prop) [DecidablePred t] (cells : Nat → Nat) (n : Nat) : Nat := kx (fun s => if t (cells s) then T.P (cells s) s else 0) n

theorem hb_kt {T : Tb} {size files : Nat} (O : Own T size files) (t : Nat → Prop) [DecidablePred t] {cells : Nat → Nat} (hc : ∀ s, s < size → cells s < 15) (i : Nat) :
    hb (kt T t cells size) i = true ↔ ∃ s, s < size ∧ t (cells s) ∧ cells s * size + s = i := by
  refine hb_kx (t := fun s => t (cells s)) (e := fun s => cells s * size + s) (fun s i hs => ?_) (fun s s' h1 h2 _ _ e => ?_) i
  · by_cases h : t (cells s)
    · simp only [h, if_true, decide_true, Bool.true_and]; exact O.P _ _ _ (hc s hs) hs
    · simp only [h, if_false, decide_false, Bool.false_and]; exact hb_zero _
  · have := (place_inj (by first | assumption | exact Nat.le_of_lt ‹_› | exact Nat.lt_succ_of_lt ‹_› | exact Nat.ne_of_lt ‹_› | exact Nat.ne_of_gt ‹_› | exact Nat.le_trans ‹_› (by decide) | exact Nat.lt_of_lt_of_le ‹_› (by decide) | decide | omega) h2 e).2
    omega

theorem top_of {size s c : Nat} (hs : s < size) (hc : c < 15) : c * size + s < 15 * size := by
  have := Nat.mul_le_mul_right size (show c + 1 ≤ 15 from hc)
  rw [Nat.add_mul, Nat.one_mul] at this
  omega

theorem kt_bits {T : Tb} {size files : Nat} (O : Own T size files) (t : Nat → Prop) [DecidablePred t] {one two : Nat → Nat} (h1 : ∀ s, s < size → one s < 15) (h2 : ∀ s, s < size → two s < 15)
    (e : ∀ i, i < 15 * size → hb (kt T t one size) i = hb (kt T t two size) i) (s : Nat) (hs : s < size) : (if t (one s) then one s else 0) = if t (two s) then two s else 0 := by
  have key : ∀ {f g : Nat → Nat}, (∀ s, s < size → f s < 15) → (∀ s, s < size → g s < 15) → (∀ i, i < 15 * size → hb (kt T t f size) i = hb (kt T t g size) i) → t (f s) → t (g s) ∧ g s = f s := by
    intro f g hf hg e hq
    have := (hb_kt O t hf (f s * size + s)).mpr ⟨s, hs, hq, rfl⟩
    rw [e _ (top_of hs (hf s hs))] at this
    obtain ⟨s', a1, a2, a3⟩ := (hb_kt O t hg _).mp this
    obtain ⟨b1, b2⟩ := place_inj a1 hs a3
    subst b2
    exact ⟨a2, b1⟩
  by_cases q : t (one s)
  · obtain ⟨a1, a2⟩ := key h1 h2 e q
    rw [if_pos q, if_pos a1, a2]
  · rw [if_neg q]
    by_cases q' : t (two s)
    · obtain ⟨a1, a2⟩ := key h2 h1 (fun i hi => (e i hi).symm) q'
      exact absurd a1 q
    · rw [if_neg q']

theorem kt_iff {T : Tb} {size files : Nat} (O : Own T size files) (t : Nat → Prop) [DecidablePred t] (ht : ∀ c, t c → c ≠ 0) {one two : Nat → Nat} (h1 : ∀ s, s < size → one s < 15) (h2 : ∀ s, s < size → two s < 15) :
    kt T t one size = kt T t two size ↔ ∀ s, s < size → (if t (one s) then one s else 0) = if t (two s) then two s else 0 := by
  constructor
  · intro e
    exact kt_bits O t h1 h2 fun i _ => by rw [e]
  · intro h
    refine kx_congr fun s hs => ?_
    have := h s hs
    by_cases q : t (one s) <;> by_cases q' : t (two s) <;> simp only [q, q', if_true, if_false] at this ⊢
    · rw [this]
    · exact absurd this (ht _ q)
    · exact absurd this.symm (ht _ q')

/-! ### material -/

theorem cnt_find {f : Nat → Nat} {m : Nat} : ∀ {n j : Nat}, j < cnt f m n → ∃ s, s < n ∧ f s = m ∧ cnt f m s = j
  | 0, j, h => by simp [cnt] at h
  | n + 1, j, h => by
    rw [cnt_succ] at h
    rcases Nat.lt_or_ge j (cnt f m n) with q | q
    · obtain ⟨s, h1, h2⟩ := cnt_find q
      exact ⟨s, by first | assumption | exact Nat.le_of_lt ‹_› | exact Nat.lt_succ_of_lt ‹_› | exact Nat.ne_of_lt ‹_› | exact Nat.ne_of_gt ‹_› | exact Nat.le_trans ‹_› (by decide) | exact Nat.lt_of_lt_of_le ‹_› (by decide) | decide | omega, h2⟩
    · by_cases e : f n = m
      · rw [if_pos e] at h
        exact ⟨n, by first | assumption | exact Nat.le_of_lt ‹_› | exact Nat.lt_succ_of_lt ‹_› | exact Nat.ne_of_lt ‹_› | exact Nat.ne_of_gt ‹_› | exact Nat.le_trans ‹_› (by decide) | exact Nat.lt_of_lt_of_le ‹_› (by decide) | decide | omega, e, by first | assumption | exact Nat.le_of_lt ‹_› | exact Nat.lt_succ_of_lt ‹_› | exact Nat.ne_of_lt ‹_› | exact Nat.ne_of_gt ‹_› | exact Nat.le_trans ‹_› (by decide) | exact Nat.lt_of_lt_of_le ‹_› (by decide) | decide | omega⟩
      · rw [if_neg e] at h
        omega
theorem cnt_mono (f : Nat → Nat) (m : Nat) {a b : Nat} (h : a ≤ b) : cnt f m a ≤ cnt f m b := by
  induction h with
  | refl => exact Nat.le_refl _
  | step _ ih => rw [cnt_succ]; omega
theorem cnt_lt {f : Nat → Nat} {m s n : Nat} (h : s < n) (e : f s = m) : cnt f m s < cnt f m n := by
  have := cnt_mono f m (a := s + 1) (b := n) (by first | assumption | exact Nat.le_of_lt ‹_› | exact Nat.lt_succ_of_lt ‹_› | exact Nat.ne_of_lt ‹_› | exact Nat.ne_of_gt ‹_› | exact Nat.le_trans ‹_› (by decide) | exact Nat.lt_of_lt_of_le ‹_› (by decide) | decide | omega)
  rw [cnt_succ, if_pos e] at this
  omega

theorem hb_mkey {T : Tb} {size files : Nat} (O : Own T size files) {cells : Nat → Nat} (hc : ∀ s, s < size → cells s < 15) (i : Nat) :
    hb (mkey T cells size) i = true ↔ ∃ s, s < size ∧ cells s ≠ 0 ∧ cells s * size + cnt cells (cells s) s = i := by
  refine hb_kx (t := fun s => cells s ≠ 0) (e := fun s => cells s * size + cnt cells (cells s) s) (fun s i hs => ?_) (fun s s' h1 h2 _ _ e => ?_) i
  · have := cnt_le cells (cells s) s
    by_cases h : cells s ≠ 0
    · simp only [h, ne_eq, not_false_eq_true, if_true, decide_true, Bool.true_and]; exact O.P _ _ _ (hc s hs) (by first | assumption | exact Nat.le_of_lt ‹_› | exact Nat.lt_succ_of_lt ‹_› | exact Nat.ne_of_lt ‹_› | exact Nat.ne_of_gt ‹_› | exact Nat.le_trans ‹_› (by decide) | exact Nat.lt_of_lt_of_le ‹_› (by decide) | decide | omega)
    · simp only [h, if_false, decide_false, Bool.false_and]; exact hb_zero _
  · have a1 := cnt_le cells (cells s) s
    have a2 := cnt_le cells (cells s') s'
    obtain ⟨b1, b2⟩ := place_inj (by first | assumption | exact Nat.le_of_lt ‹_› | exact Nat.lt_succ_of_lt ‹_› | exact Nat.ne_of_lt ‹_› | exact Nat.ne_of_gt ‹_› | exact Nat.le_trans ‹_› (by decide) | exact Nat.lt_of_lt_of_le ‹_› (by decide) | decide | omega) (by first | assumption | exact Nat.le_of_lt ‹_› | exact Nat.lt_succ_of_lt ‹_› | exact Nat.ne_of_lt ‹_› | exact Nat.ne_of_gt ‹_› | exact Nat.le_trans ‹_› (by decide) | exact Nat.lt_of_lt_of_le ‹_› (by decide) | decide | omega) e
    have := cnt_lt h1 b1
    rw [b1] at b2
    omega

noncomputable def menL : List Nat := [6, 14, 1, 2, 3, 4, 5, 9, 10, 11, 12, 13]

theorem men_iff : ∀ c, c < 15 → c % 8 ≠ 7 → c ≠ 8 → (c ∈ menL ↔ c ≠ 0) := by decide
theorem men_lt : ∀ m ∈ menL, m ≠ 0 ∧ m < 15 := by decide
theorem xl_pick (f : Nat → Nat) (c : Nat) : ∀ {L : List Nat}, L.Nodup → xl (L.map fun m => if m = c then f m else 0) = if c ∈ L then f c else 0
  | [], _ => rfl
  | m :: r, h => by
    have ih := xl_pick f c (List.nodup_cons.mp h).2
    rw [List.map_cons, xl_cons, ih]
    by_cases e : m = c
    · subst e
      rw [if_pos rfl, if_neg (List.nodup_cons.mp h).1, if_pos List.mem_cons_self, Nat.xor_zero]
    · rw [if_neg e, Nat.zero_xor]
      by_cases q : c ∈ r
      · rw [if_pos q, if_pos (List.mem_cons_of_mem _ q)]
      · rw [if_neg q, if_neg fun x => (List.mem_cons.mp x).elim (fun y => e y.symm) q]

theorem mkey_men {T : Tb} {cells : Nat → Nat} : ∀ {n : Nat}, (∀ s, s < n → Cell (cells s)) → mkey T cells n = xl (menL.map fun m => kx (T.P m) (cnt cells m n))
  | 0, _ => by simp [mkey, kx, cnt, menL, xl]
  | n + 1, h => by
    have ih := mkey_men (T := T) (n := n) fun s hs => h s (by first | assumption | exact Nat.le_of_lt ‹_› | exact Nat.lt_succ_of_lt ‹_› | exact Nat.ne_of_lt ‹_› | exact Nat.ne_of_gt ‹_› | exact Nat.le_trans ‹_› (by decide) | exact Nat.lt_of_lt_of_le ‹_› (by decide) | decide | omega)
    have hstep : mkey T cells (n + 1) = mkey T cells n ^^^ (if cells n ≠ 0 then T.P (cells n) (cnt cells (cells n) n) else 0) := rfl
    rw [hstep, ih]
    have hm : ∀ m, kx (T.P m) (cnt cells m (n + 1)) = kx (T.P m) (cnt cells m n) ^^^ (if m = cells n then T.P m (cnt cells m n) else 0) := by
      intro m
      rw [cnt_succ]
      by_cases e : cells n = m
      · rw [if_pos e, if_pos e.symm, kx_succ]
      · rw [if_neg e, if_neg (Ne.symm e), Nat.xor_zero]; rfl
    have hx : ∀ (L : List Nat) (a b : Nat → Nat), xl (L.map fun m => a m ^^^ b m) = xl (L.map a) ^^^ xl (L.map b) := by
      intro L a b
      induction L with
      | nil => simp [xl]
      | cons m r ih =>
        simp only [List.map_cons, xl_cons, ih]
        ac_rfl
    simp only [hm]
    rw [hx]
    congr 1
    obtain ⟨c1, c2, c3⟩ := h n (by first | assumption | exact Nat.le_of_lt ‹_› | exact Nat.lt_succ_of_lt ‹_› | exact Nat.ne_of_lt ‹_› | exact Nat.ne_of_gt ‹_› | exact Nat.le_trans ‹_› (by decide) | exact Nat.lt_of_lt_of_le ‹_› (by decide) | decide | omega)
    rw [xl_pick _ _ (by decide : menL.Nodup)]
    have q := men_iff (cells n) c1 c2 c3
    by_cases e : cells n = 0
    · rw [if_neg (fun x => q.mp x e), if_neg (fun x => x e)]
    · rw [if_pos (q.mpr e), if_pos e]

theorem mkey_iff {T : Tb} {size files : Nat} (O : Own T size files) {one two : Nat → Nat} (h1 : ∀ s, s < size → Cell (one s)) (h2 : ∀ s, s < size → Cell (two s)) :
    mkey T one size = mkey T two size ↔ ∀ m, m ≠ 0 → m < 15 → cnt one m size = cnt two m size := by
  constructor
  · intro e m hm hm2
    have key : ∀ {f g : Nat → Nat}, (∀ s, s < size → Cell (f s)) → (∀ s, s < size → Cell (g s)) → mkey T f size = mkey T g size → cnt f m size ≤ cnt g m size := by
      intro f g hf hg e
      rcases Nat.lt_or_ge (cnt g m size) (cnt f m size) with q | q
      · obtain ⟨s, a1, a2, a3⟩ := cnt_find q
        have := (hb_mkey O (fun s hs => (hf s hs).1) (m * size + cnt g m size)).mpr ⟨s, a1, by first | assumption | exact Nat.le_of_lt ‹_› | exact Nat.lt_succ_of_lt ‹_› | exact Nat.ne_of_lt ‹_› | exact Nat.ne_of_gt ‹_› | exact Nat.le_trans ‹_› (by decide) | exact Nat.lt_of_lt_of_le ‹_› (by decide) | decide | omega, by rw [a2, a3]⟩
        rw [e] at this
        obtain ⟨s', b1, b2, b3⟩ := (hb_mkey O (fun s hs => (hg s hs).1) _).mp this
        have l1 := cnt_le g (g s') s'
        have l2 := cnt_le f m size
        obtain ⟨d1, d2⟩ := place_inj (by first | assumption | exact Nat.le_of_lt ‹_› | exact Nat.lt_succ_of_lt ‹_› | exact Nat.ne_of_lt ‹_› | exact Nat.ne_of_gt ‹_› | exact Nat.le_trans ‹_› (by decide) | exact Nat.lt_of_lt_of_le ‹_› (by decide) | decide | omega) (by first | assumption | exact Nat.le_of_lt ‹_› | exact Nat.lt_succ_of_lt ‹_› | exact Nat.ne_of_lt ‹_› | exact Nat.ne_of_gt ‹_› | exact Nat.le_trans ‹_› (by decide) | exact Nat.lt_of_lt_of_le ‹_› (by decide) | decide | omega) b3
        have := cnt_lt b1 d1
        rw [d1] at d2
        omega
      · exact q
    exact Nat.le_antisymm (key h1 h2 e) (key h2 h1 e.symm)
  · intro h
    rw [mkey_men h1, mkey_men h2]
    congr 1
    refine List.map_congr_left fun m hm => ?_
    have := men_lt m hm
    rw [h m this.1 this.2]

/-! ### sorted -/

theorem ins_comm (a b : Int) : ∀ l : List Int, insertI a (insertI b l) = insertI b (insertI a l)
  | [] => by
    simp only [insertI]
    by_cases h : a ≤ b <;> by_cases h' : b ≤ a <;> simp [h, h']
    · omega
    · omega
  | y :: r => by
    have ih := ins_comm a b r
    simp only [insertI]
    by_cases h1 : b ≤ y <;> by_cases h2 : a ≤ y <;> by_cases h3 : a ≤ b <;> by_cases h4 : b ≤ a <;> simp only [h1, h2, h3, h4, insertI, if_true, if_false, ih] <;> first | rfl | omega | (have : a = b := by first | assumption | exact Nat.le_of_lt ‹_› | exact Nat.lt_succ_of_lt ‹_› | exact Nat.ne_of_lt ‹_› | exact Nat.ne_of_gt ‹_› | exact Nat.le_trans ‹_› (by decide) | exact Nat.lt_of_lt_of_le ‹_› (by decide) | decide | omega); subst this; rfl
theorem ins_perm (a : Int) : ∀ l : List Int, (insertI a l).Perm (a :: l)
  | [] => .refl _
  | y :: r => by
    simp only [insertI]
    split
    · exact .refl _
    · exact ((ins_perm a r).cons y).trans (.swap a y r)
theorem sort_perm : ∀ l : List Int, (sortI l).Perm l
  | [] => .refl _
  | x :: r => (ins_perm x _).trans ((sort_perm r).cons x)
theorem sort_congr {l l' : List Int} (h : l.Perm l') : sortI l = sortI l' := by
  induction h with
  | nil => rfl
  | cons x _ ih => simp only [sortI, ih]
  | swap x y l => simp only [sortI, ins_comm]
  | trans _ _ ih1 ih2 => exact ih1.trans ih2
theorem sort_iff (l l' : List Int) : sortI l = sortI l' ↔ l.Perm l' :=
  ⟨fun e => ((sort_perm l).symm.trans (e ▸ .refl _)).trans (sort_perm l'), sort_congr⟩

theorem count_cells (f : Nat → Nat) (m : Nat) : ∀ n, ((List.range n).map fun s => ((f s : Nat) : Int)).count (m : Int) = cnt f m n
  | 0 => rfl
  | n + 1 => by
    rw [List.range_succ, List.map_append, List.count_append, count_cells f m n, cnt_succ, List.map_cons, List.map_nil]
    congr 1
    by_cases e : f n = m
    · simp [e]
    · rw [if_neg e, List.count_eq_zero]
      simp; omega

noncomputable def sumc (g : Nat → Nat) : Nat → Nat
  | 0 => 0
  | n + 1 => sumc g n + g n
theorem sumc_succ (g : Nat → Nat) (n : Nat) : sumc g (n + 1) = sumc g n + g n := rfl
theorem sumc_one (c : Nat) (g : Nat → Nat) : ∀ k, sumc (fun m => g m + if c = m then 1 else 0) k = sumc g k + if c < k then 1 else 0
  | 0 => rfl
  | k + 1 => by
    rw [sumc_succ, sumc_one c g k, sumc_succ]
    rcases Nat.lt_trichotomy c k with h | h | h
    · rw [if_pos h, if_neg (by first | assumption | exact Nat.le_of_lt ‹_› | exact Nat.lt_succ_of_lt ‹_› | exact Nat.ne_of_lt ‹_› | exact Nat.ne_of_gt ‹_› | exact Nat.le_trans ‹_› (by decide) | exact Nat.lt_of_lt_of_le ‹_› (by decide) | decide | omega), if_pos (by first | assumption | exact Nat.le_of_lt ‹_› | exact Nat.lt_succ_of_lt ‹_› | exact Nat.ne_of_lt ‹_› | exact Nat.ne_of_gt ‹_› | exact Nat.le_trans ‹_› (by decide) | exact Nat.lt_of_lt_of_le ‹_› (by decide) | decide | omega)]; omega
    · subst h; rw [if_neg (by first | assumption | exact Nat.le_of_lt ‹_› | exact Nat.lt_succ_of_lt ‹_› | exact Nat.ne_of_lt ‹_› | exact Nat.ne_of_gt ‹_› | exact Nat.le_trans ‹_› (by decide) | exact Nat.lt_of_lt_of_le ‹_› (by decide) | decide | omega), if_pos rfl, if_pos (by first | assumption | exact Nat.le_of_lt ‹_› | exact Nat.lt_succ_of_lt ‹_› | exact Nat.ne_of_lt ‹_› | exact Nat.ne_of_gt ‹_› | exact Nat.le_trans ‹_› (by decide) | exact Nat.lt_of_lt_of_le ‹_› (by decide) | decide | omega)]; omega
    · rw [if_neg (by first | assumption | exact Nat.le_of_lt ‹_› | exact Nat.lt_succ_of_lt ‹_› | exact Nat.ne_of_lt ‹_› | exact Nat.ne_of_gt ‹_› | exact Nat.le_trans ‹_› (by decide) | exact Nat.lt_of_lt_of_le ‹_› (by decide) | decide | omega), if_neg (by first | assumption | exact Nat.le_of_lt ‹_› | exact Nat.lt_succ_of_lt ‹_› | exact Nat.ne_of_lt ‹_› | exact Nat.ne_of_gt ‹_› | exact Nat.le_trans ‹_› (by decide) | exact Nat.lt_of_lt_of_le ‹_› (by decide) | decide | omega), if_neg (by first | assumption | exact Nat.le_of_lt ‹_› | exact Nat.lt_succ_of_lt ‹_› | exact Nat.ne_of_lt ‹_› | exact Nat.ne_of_gt ‹_› | exact Nat.le_trans ‹_› (by decide) | exact Nat.lt_of_lt_of_le ‹_› (by decide) | decide | omega)]; omega
theorem cnt_total {f : Nat → Nat} : ∀ {n : Nat}, (∀ s, s < n → f s < 15) → sumc (fun m => cnt f m n) 15 = n
  | 0, _ => rfl
  | n + 1, h => by
    have := cnt_total (n := n) fun s hs => h s (by first | assumption | exact Nat.le_of_lt ‹_› | exact Nat.lt_succ_of_lt ‹_› | exact Nat.ne_of_lt ‹_› | exact Nat.ne_of_gt ‹_› | exact Nat.le_trans ‹_› (by decide) | exact Nat.lt_of_lt_of_le ‹_› (by decide) | decide | omega)
    have e : sumc (fun m => cnt f m (n + 1)) 15 = sumc (fun m => cnt f m n + if f n = m then 1 else 0) 15 := rfl
    rw [e, sumc_one, this, if_pos (h n (by first | assumption | exact Nat.le_of_lt ‹_› | exact Nat.lt_succ_of_lt ‹_› | exact Nat.ne_of_lt ‹_› | exact Nat.ne_of_gt ‹_› | exact Nat.le_trans ‹_› (by decide) | exact Nat.lt_of_lt_of_le ‹_› (by decide) | decide | omega))]
theorem cnt_zero_of {f g : Nat → Nat} {n : Nat} (hf : ∀ s, s < n → f s < 15) (hg : ∀ s, s < n → g s < 15) (h : ∀ m, m ≠ 0 → m < 15 → cnt f m n = cnt g m n) : cnt f 0 n = cnt g 0 n := by
  have h1 := cnt_total hf
  have h2 := cnt_total hg
  have key : ∀ (a b : Nat → Nat) (k : Nat), (∀ m, m ≠ 0 → m < k → a m = b m) → 0 < k → sumc a k + b 0 = sumc b k + a 0 := by
    intro a b k
    induction k with
    | zero => intro _ h; omega
    | succ k ih =>
      intro h _
      rw [sumc_succ, sumc_succ]
      rcases Nat.eq_zero_or_pos k with rfl | hk
      · simp [sumc]; omega
      · have := ih (fun m h0 hm => h m h0 (by first | assumption | exact Nat.le_of_lt ‹_› | exact Nat.lt_succ_of_lt ‹_› | exact Nat.ne_of_lt ‹_› | exact Nat.ne_of_gt ‹_› | exact Nat.le_trans ‹_› (by decide) | exact Nat.lt_of_lt_of_le ‹_› (by decide) | decide | omega)) hk
        have := h k (by first | assumption | exact Nat.le_of_lt ‹_› | exact Nat.lt_succ_of_lt ‹_› | exact Nat.ne_of_lt ‹_› | exact Nat.ne_of_gt ‹_› | exact Nat.le_trans ‹_› (by decide) | exact Nat.lt_of_lt_of_le ‹_› (by decide) | decide | omega) (by first | assumption | exact Nat.le_of_lt ‹_› | exact Nat.lt_succ_of_lt ‹_› | exact Nat.ne_of_lt ‹_› | exact Nat.ne_of_gt ‹_› | exact Nat.le_trans ‹_› (by decide) | exact Nat.lt_of_lt_of_le ‹_› (by decide) | decide | omega)
        omega
  have := key (fun m => cnt f m n) (fun m => cnt g m n) 15 h (by decide)
  rw [h1, h2] at this
  have this : n + cnt g 0 n = n + cnt f 0 n := this
  omega

theorem sorted_iff {one two : Nat → Nat} {n : Nat} (h1 : ∀ s, s < n → one s < 15) (h2 : ∀ s, s < n → two s < 15) :
    sortI ((List.range n).map fun s => ((one s : Nat) : Int)) = sortI ((List.range n).map fun s => ((two s : Nat) : Int)) ↔ ∀ m, m ≠ 0 → m < 15 → cnt one m n = cnt two m n := by
  rw [sort_iff, List.perm_iff_count]
  constructor
  · intro h m _ _
    rw [← count_cells, ← count_cells]
    exact h m
  · intro h a
    by_cases ha : 0 ≤ a ∧ a < 15
    · obtain ⟨m, rfl⟩ : ∃ m : Nat, a = m := ⟨a.toNat, by first | assumption | exact Nat.le_of_lt ‹_› | exact Nat.lt_succ_of_lt ‹_› | exact Nat.ne_of_lt ‹_› | exact Nat.ne_of_gt ‹_› | exact Nat.le_trans ‹_› (by decide) | exact Nat.lt_of_lt_of_le ‹_› (by decide) | decide | omega⟩
      rw [count_cells, count_cells]
      rcases Nat.eq_zero_or_pos m with rfl | hm
      · exact cnt_zero_of h1 h2 h
      · exact h m (by first | assumption | exact Nat.le_of_lt ‹_› | exact Nat.lt_succ_of_lt ‹_› | exact Nat.ne_of_lt ‹_› | exact Nat.ne_of_gt ‹_› | exact Nat.le_trans ‹_› (by decide) | exact Nat.lt_of_lt_of_le ‹_› (by decide) | decide | omega) (by first | assumption | exact Nat.le_of_lt ‹_› | exact Nat.lt_succ_of_lt ‹_› | exact Nat.ne_of_lt ‹_› | exact Nat.ne_of_gt ‹_› | exact Nat.le_trans ‹_› (by decide) | exact Nat.lt_of_lt_of_le ‹_› (by decide) | decide | omega)
    · have z : ∀ {f : Nat → Nat}, (∀ s, s < n → f s < 15) → ((List.range n).map fun s => ((f s : Nat) : Int)).count a = 0 := by
        intro f hf
        rw [List.count_eq_zero]
        intro hm
        obtain ⟨s, h3, rfl⟩ := List.mem_map.mp hm
        have := hf s (List.mem_range.mp h3)
        omega
      rw [z h1, z h2]

/-! ### the whole key -/

noncomputable def fkey (T : Tb) (size files side rights : Nat) (ep : Int) (cells : Nat → Nat) : Nat := sk T files side rights ep ^^^ kx (fun s => if cells s ≠ 0 then T.P (cells s) s else 0) size
noncomputable def fp (files : Nat) (ep : Int) : Int := if 0 ≤ ep then (((ep.fmod files).toNat : Nat) : Int) else -1

theorem hb_fkey {T : Tb} {size files : Nat} (O : Own T size files) (hf : files ≠ 0) {side rights : Nat} {ep : Int} {cells : Nat → Nat} (hr : rights < 16) (i : Nat) :
    hb (fkey T size files side rights ep cells) i = ((((decide (15 * size + files ≤ i) && rights.testBit (i - (15 * size + files))) ^^ (decide (0 ≤ ep) && decide (15 * size + (ep.fmod files).toNat = i))) ^^
      (decide (side = 1) && decide (15 * size + files + 4 = i))) ^^ hb (kt T (fun c => c ≠ 0) cells size) i) := by
  unfold fkey sk kt
  rw [hb_xor, hb_xor, hb_xor, O.R _ _ hr]
  congr 2
  · congr 1
    by_cases h : 0 ≤ ep
    · simp only [h, if_true, decide_true, Bool.true_and]; exact O.E _ _ (ep_lt hf)
    · simp only [h, if_false, decide_false, Bool.false_and]; exact hb_zero _
  · by_cases h : side = 1
    · simp only [h, if_true, decide_true, Bool.true_and]; exact O.S _
    · simp only [h, if_false, decide_false, Bool.false_and]; exact hb_zero _

theorem two_eq : ∀ a b : Nat, a < 2 → b < 2 → (a = 1 ↔ b = 1) → a = b
  | 0, 0, _, _, _ => rfl
  | 1, 1, _, _, _ => rfl
  | 0, 1, _, _, h => nomatch h.mpr rfl
  | 1, 0, _, _, h => nomatch h.mp rfl
  | a + 2, _, h, _, _ => absurd h (Nat.not_lt.mpr (Nat.le_add_left 2 a))
  | _, b + 2, _, h, _ => absurd h (Nat.not_lt.mpr (Nat.le_add_left 2 b))
theorem fkey_iff {T : Tb} {size files : Nat} (O : Own T size files) (hf : files ≠ 0) {s1 s2 r1 r2 : Nat} {e1 e2 : Int} {one two : Nat → Nat} (h1 : ∀ s, s < size → one s < 15) (h2 : ∀ s, s < size → two s < 15)
    (hs1 : s1 < 2) (hs2 : s2 < 2) (hr1 : r1 < 16) (hr2 : r2 < 16) :
    fkey T size files s1 r1 e1 one = fkey T size files s2 r2 e2 two ↔ ((∀ s, s < size → one s = two s) ∧ s1 = s2 ∧ r1 = r2) ∧ fp files e1 = fp files e2 := by
  constructor
  · intro e
    have B : ∀ i, hb (fkey T size files s1 r1 e1 one) i = hb (fkey T size files s2 r2 e2 two) i := fun i => by rw [e]
    have top : ∀ {f : Nat → Nat}, (∀ s, s < size → f s < 15) → ∀ i, 15 * size ≤ i → hb (kt T (fun c => c ≠ 0) f size) i = false := by
      intro f hf i hi
      cases q : hb (kt T (fun c => c ≠ 0) f size) i with
      | false => rfl
      | true =>
        obtain ⟨s, a1, a2, a3⟩ := (hb_kt O _ hf i).mp q
        have := top_of a1 (hf s a1)
        omega
    have m1 := ep_lt (ep := e1) hf
    have m2 := ep_lt (ep := e2) hf
    have hr : ∀ {r : Nat}, r < 16 → ∀ j, 4 ≤ j → r.testBit j = false := fun {r} h j hj => Nat.testBit_lt_two_pow (Nat.lt_of_lt_of_le h (by
      have := Nat.pow_le_pow_right (show 0 < 2 by decide) hj
      simpa using this))
    -- the cells
    have hcell : ∀ s, s < size → one s = two s := by
      intro s hs
      have := kt_bits O (fun c => c ≠ 0) h1 h2 (fun i hi => by
        have := B i
        rw [hb_fkey O hf hr1, hb_fkey O hf hr2] at this
        have n1 : ¬ (15 * size + files ≤ i) := by first | assumption | exact Nat.le_of_lt ‹_› | exact Nat.lt_succ_of_lt ‹_› | exact Nat.ne_of_lt ‹_› | exact Nat.ne_of_gt ‹_› | exact Nat.le_trans ‹_› (by decide) | exact Nat.lt_of_lt_of_le ‹_› (by decide) | decide | omega
        have n2 : ∀ z : Nat, ¬ (15 * size + z = i) := by intro z; omega
        have n3 : ¬ (15 * size + files + 4 = i) := by first | assumption | exact Nat.le_of_lt ‹_› | exact Nat.lt_succ_of_lt ‹_› | exact Nat.ne_of_lt ‹_› | exact Nat.ne_of_gt ‹_› | exact Nat.le_trans ‹_› (by decide) | exact Nat.lt_of_lt_of_le ‹_› (by decide) | decide | omega
        simpa only [n1, n2, n3, decide_false, Bool.false_and, Bool.and_false, Bool.false_xor] using this) s hs
      have z : ∀ c : Nat, (if c ≠ 0 then c else 0) = c := fun c => by
        by_cases e : c = 0
        · rw [e]; rfl
        · rw [if_pos e]
      rwa [z, z] at this
    -- the mover
    have hside : s1 = s2 := by
      have := B (15 * size + files + 4)
      rw [hb_fkey O hf hr1, hb_fkey O hf hr2, top h1 _ (by first | assumption | exact Nat.le_of_lt ‹_› | exact Nat.lt_succ_of_lt ‹_› | exact Nat.ne_of_lt ‹_› | exact Nat.ne_of_gt ‹_› | exact Nat.le_trans ‹_› (by decide) | exact Nat.lt_of_lt_of_le ‹_› (by decide) | decide | omega), top h2 _ (by first | assumption | exact Nat.le_of_lt ‹_› | exact Nat.lt_succ_of_lt ‹_› | exact Nat.ne_of_lt ‹_› | exact Nat.ne_of_gt ‹_› | exact Nat.le_trans ‹_› (by decide) | exact Nat.lt_of_lt_of_le ‹_› (by decide) | decide | omega)] at this
      have n1 : 15 * size + files ≤ 15 * size + files + 4 := by first | assumption | exact Nat.le_of_lt ‹_› | exact Nat.lt_succ_of_lt ‹_› | exact Nat.ne_of_lt ‹_› | exact Nat.ne_of_gt ‹_› | exact Nat.le_trans ‹_› (by decide) | exact Nat.lt_of_lt_of_le ‹_› (by decide) | decide | omega
      have n2 : 15 * size + files + 4 - (15 * size + files) = 4 := by first | assumption | exact Nat.le_of_lt ‹_› | exact Nat.lt_succ_of_lt ‹_› | exact Nat.ne_of_lt ‹_› | exact Nat.ne_of_gt ‹_› | exact Nat.le_trans ‹_› (by decide) | exact Nat.lt_of_lt_of_le ‹_› (by decide) | decide | omega
      have n3 : ¬ (15 * size + (e1.fmod files).toNat = 15 * size + files + 4) := by first | assumption | exact Nat.le_of_lt ‹_› | exact Nat.lt_succ_of_lt ‹_› | exact Nat.ne_of_lt ‹_› | exact Nat.ne_of_gt ‹_› | exact Nat.le_trans ‹_› (by decide) | exact Nat.lt_of_lt_of_le ‹_› (by decide) | decide | omega
      have n4 : ¬ (15 * size + (e2.fmod files).toNat = 15 * size + files + 4) := by first | assumption | exact Nat.le_of_lt ‹_› | exact Nat.lt_succ_of_lt ‹_› | exact Nat.ne_of_lt ‹_› | exact Nat.ne_of_gt ‹_› | exact Nat.le_trans ‹_› (by decide) | exact Nat.lt_of_lt_of_le ‹_› (by decide) | decide | omega
      simp only [n1, n2, n3, n4, hr hr1 4 (Nat.le_refl _), hr hr2 4 (Nat.le_refl _), decide_true, decide_false, Bool.and_false, Bool.and_true, Bool.false_xor, Bool.xor_false, decide_eq_decide] at this
      exact two_eq s1 s2 hs1 hs2 this
    -- the rights
    have hright : r1 = r2 := by
      apply Nat.eq_of_testBit_eq
      intro j
      rcases Nat.lt_or_ge j 4 with hj | hj
      · have := B (15 * size + files + j)
        rw [hb_fkey O hf hr1, hb_fkey O hf hr2, top h1 _ (by first | assumption | exact Nat.le_of_lt ‹_› | exact Nat.lt_succ_of_lt ‹_› | exact Nat.ne_of_lt ‹_› | exact Nat.ne_of_gt ‹_› | exact Nat.le_trans ‹_› (by decide) | exact Nat.lt_of_lt_of_le ‹_› (by decide) | decide | omega), top h2 _ (by first | assumption | exact Nat.le_of_lt ‹_› | exact Nat.lt_succ_of_lt ‹_› | exact Nat.ne_of_lt ‹_› | exact Nat.ne_of_gt ‹_› | exact Nat.le_trans ‹_› (by decide) | exact Nat.lt_of_lt_of_le ‹_› (by decide) | decide | omega)] at this
        have n1 : 15 * size + files ≤ 15 * size + files + j := by first | assumption | exact Nat.le_of_lt ‹_› | exact Nat.lt_succ_of_lt ‹_› | exact Nat.ne_of_lt ‹_› | exact Nat.ne_of_gt ‹_› | exact Nat.le_trans ‹_› (by decide) | exact Nat.lt_of_lt_of_le ‹_› (by decide) | decide | omega
        have n2 : 15 * size + files + j - (15 * size + files) = j := by first | assumption | exact Nat.le_of_lt ‹_› | exact Nat.lt_succ_of_lt ‹_› | exact Nat.ne_of_lt ‹_› | exact Nat.ne_of_gt ‹_› | exact Nat.le_trans ‹_› (by decide) | exact Nat.lt_of_lt_of_le ‹_› (by decide) | decide | omega
        have n3 : ¬ (15 * size + (e1.fmod files).toNat = 15 * size + files + j) := by first | assumption | exact Nat.le_of_lt ‹_› | exact Nat.lt_succ_of_lt ‹_› | exact Nat.ne_of_lt ‹_› | exact Nat.ne_of_gt ‹_› | exact Nat.le_trans ‹_› (by decide) | exact Nat.lt_of_lt_of_le ‹_› (by decide) | decide | omega
        have n4 : ¬ (15 * size + (e2.fmod files).toNat = 15 * size + files + j) := by first | assumption | exact Nat.le_of_lt ‹_› | exact Nat.lt_succ_of_lt ‹_› | exact Nat.ne_of_lt ‹_› | exact Nat.ne_of_gt ‹_› | exact Nat.le_trans ‹_› (by decide) | exact Nat.lt_of_lt_of_le ‹_› (by decide) | decide | omega
        have n5 : ¬ (15 * size + files + 4 = 15 * size + files + j) := by first | assumption | exact Nat.le_of_lt ‹_› | exact Nat.lt_succ_of_lt ‹_› | exact Nat.ne_of_lt ‹_› | exact Nat.ne_of_gt ‹_› | exact Nat.le_trans ‹_› (by decide) | exact Nat.lt_of_lt_of_le ‹_› (by decide) | decide | omega
        simpa only [n1, n2, n3, n4, n5, decide_true, decide_false, Bool.and_false, Bool.true_and, Bool.false_xor, Bool.xor_false] using this
      · rw [hr hr1 j hj, hr hr2 j hj]
    -- the file of ep
    have hep : ∀ f, f < files → (0 ≤ e1 ∧ (e1.fmod files).toNat = f ↔ 0 ≤ e2 ∧ (e2.fmod files).toNat = f) := by
      intro f hlt
      have := B (15 * size + f)
      rw [hb_fkey O hf hr1, hb_fkey O hf hr2, top h1 _ (by first | assumption | exact Nat.le_of_lt ‹_› | exact Nat.lt_succ_of_lt ‹_› | exact Nat.ne_of_lt ‹_› | exact Nat.ne_of_gt ‹_› | exact Nat.le_trans ‹_› (by decide) | exact Nat.lt_of_lt_of_le ‹_› (by decide) | decide | omega), top h2 _ (by first | assumption | exact Nat.le_of_lt ‹_› | exact Nat.lt_succ_of_lt ‹_› | exact Nat.ne_of_lt ‹_› | exact Nat.ne_of_gt ‹_› | exact Nat.le_trans ‹_› (by decide) | exact Nat.lt_of_lt_of_le ‹_› (by decide) | decide | omega)] at this
      have n1 : ¬ (15 * size + files ≤ 15 * size + f) := by first | assumption | exact Nat.le_of_lt ‹_› | exact Nat.lt_succ_of_lt ‹_› | exact Nat.ne_of_lt ‹_› | exact Nat.ne_of_gt ‹_› | exact Nat.le_trans ‹_› (by decide) | exact Nat.lt_of_lt_of_le ‹_› (by decide) | decide | omega
      have n5 : ¬ (15 * size + files + 4 = 15 * size + f) := by first | assumption | exact Nat.le_of_lt ‹_› | exact Nat.lt_succ_of_lt ‹_› | exact Nat.ne_of_lt ‹_› | exact Nat.ne_of_gt ‹_› | exact Nat.le_trans ‹_› (by decide) | exact Nat.lt_of_lt_of_le ‹_› (by decide) | decide | omega
      simp only [n1, n5, decide_false, Bool.false_and, Bool.and_false, Bool.false_xor, Bool.xor_false, ← Bool.decide_and, decide_eq_decide, Nat.add_left_cancel_iff] at this
      exact this
    refine ⟨⟨hcell, hside, hright⟩, ?_⟩
    have a1 := hep _ m1
    have a2 := hep _ m2
    unfold fp
    by_cases a : 0 ≤ e1
    · rw [if_pos a, if_pos (a1.mp ⟨a, rfl⟩).1, (a1.mp ⟨a, rfl⟩).2]
    · by_cases b : 0 ≤ e2
      · exact absurd (a2.mpr ⟨b, rfl⟩).1 a
      · rw [if_neg a, if_neg b]
  · rintro ⟨⟨h, rfl, rfl⟩, he⟩
    unfold fkey
    congr 1
    · have q : (if 0 ≤ e1 then T.E (e1.fmod files).toNat else 0) = if 0 ≤ e2 then T.E (e2.fmod files).toNat else 0 := by
        unfold fp at he
        by_cases a : 0 ≤ e1
        · rw [if_pos a] at he ⊢
          by_cases b : 0 ≤ e2
          · rw [if_pos b] at he ⊢
            rw [Int.ofNat_inj.mp he]
          · rw [if_neg b] at he
            omega
        · rw [if_neg a] at he ⊢
          by_cases b : 0 ≤ e2
          · rw [if_pos b] at he
            omega
          · rw [if_neg b]
      unfold sk
      rw [q]
    · exact kx_congr fun s hs => by rw [h s hs]

end Mz
end

section
open PySem PySem.W PyProof.Rows
set_option Elab.async false
set_option autoImplicit false

set_option tactic.hygienic false

namespace Mz

/-! ### comprehensions -/

theorem comp_inv (f : V → Hp → Option (Option V × Hp)) (it : It) (n : Nat) (g : Nat → Option V) (I : Nat → Hp → Prop) (hlen : ∀ h, I n h → lenIt h it = some n)
    (step : ∀ i h, i < n → I i h → ∃ v h', itemAt h it i = some v ∧ f v h = some (g i, h') ∧ I (i + 1) h') :
    ∀ m i h, i + m = n → I i h → ∃ h', compGo f it m i h = some ((List.range' i m).filterMap g, h') ∧ I n h'
  | 0, i, h, e, hi => by
    obtain rfl : i = n := by first | assumption | exact Nat.le_of_lt ‹_› | exact Nat.lt_succ_of_lt ‹_› | exact Nat.ne_of_lt ‹_› | exact Nat.ne_of_gt ‹_› | exact Nat.le_trans ‹_› (by decide) | exact Nat.lt_of_lt_of_le ‹_› (by decide) | decide | omega
    exact ⟨h, by simp [compGo, hlen h hi], hi⟩
  | m + 1, i, h, e, hi => by
    obtain ⟨v, h1, e1, e2, e3⟩ := step i h (by first | assumption | exact Nat.le_of_lt ‹_› | exact Nat.lt_succ_of_lt ‹_› | exact Nat.ne_of_lt ‹_› | exact Nat.ne_of_gt ‹_› | exact Nat.le_trans ‹_› (by decide) | exact Nat.lt_of_lt_of_le ‹_› (by decide) | decide | omega) hi
    obtain ⟨h2, e4, e5⟩ := comp_inv f it n g I hlen step m (i + 1) h1 (by first | assumption | exact Nat.le_of_lt ‹_› | exact Nat.lt_succ_of_lt ‹_› | exact Nat.ne_of_lt ‹_› | exact Nat.ne_of_gt ‹_› | exact Nat.le_trans ‹_› (by decide) | exact Nat.lt_of_lt_of_le ‹_› (by decide) | decide | omega) e3
    refine ⟨h2, ?_, e5⟩
    simp only [compGo, e1, e2, e4, List.range'_succ, List.filterMap_cons]
    cases g i <;> rfl

theorem comp_rng {f : V → Hp → Option (Option V × Hp)} {b n : Nat} {h : Hp} {C : Option (V × Hp)} (hC : compAll f (.ref b) h = C) (g : Nat → Option V) (I : Nat → Hp → Prop) (h0 : I 0 h) (hn : n ≤ 1000) (hb : h[b]? = some (.rng 0 1 n))
    (step : ∀ i h, i < n → I i h → ∃ h', f (N i) h = some (g i, h') ∧ I (i + 1) h') :
    ∃ h', C = some (.ref h'.length, h' ++ [.list ((List.range n).filterMap g)]) ∧ I n h' := by
  subst hC
  obtain ⟨h', e, hi⟩ := comp_inv f (.rng 0 1 n) n g I (fun h _ => rfl) (fun i h hlt hi => by
    obtain ⟨h', e1, e2⟩ := step i h hlt hi
    refine ⟨N i, h', ?_, e1, e2⟩
    simp only [itemAt, hlt, if_true]
    rw [show (0 : Int) + (i : Int) * 1 = (i : Int) by first | assumption | exact Nat.le_of_lt ‹_› | exact Nat.lt_succ_of_lt ‹_› | exact Nat.ne_of_lt ‹_› | exact Nat.ne_of_gt ‹_› | exact Nat.le_trans ‹_› (by decide) | exact Nat.lt_of_lt_of_le ‹_› (by decide) | decide | omega]) n 0 h (by first | assumption | exact Nat.le_of_lt ‹_› | exact Nat.lt_succ_of_lt ‹_› | exact Nat.ne_of_lt ‹_› | exact Nat.ne_of_gt ‹_› | exact Nat.le_trans ‹_› (by decide) | exact Nat.lt_of_lt_of_le ‹_› (by decide) | decide | omega) h0
  exact ⟨h', by simp only [compAll, itOf, hb, lenIt, hn, if_true, e, List.range_eq_range'], hi⟩

theorem comp_pure {f : V → Hp → Option (Option V × Hp)} {b n : Nat} {h : Hp} {C : Option (V × Hp)} (hC : compAll f (.ref b) h = C) (g : Nat → Option V) (hn : n ≤ 1000) (hb : h[b]? = some (.rng 0 1 n))
    (step : ∀ i, i < n → f (N i) h = some (g i, h)) : C = some (.ref h.length, h ++ [.list ((List.range n).filterMap g)]) := by
  obtain ⟨h', e, rfl⟩ := comp_rng hC g (fun _ h' => h' = h) rfl hn hb fun i h' hi hh => ⟨h, by subst hh; exact step i hi, rfl⟩
  exact e

theorem comp_list {f : V → Hp → Option (Option V × Hp)} {b : Nat} {vs : List V} {h : Hp} {C : Option (V × Hp)} (hC : compAll f (.ref b) h = C) (g : Nat → Option V) (I : Nat → Hp → Prop) (h0 : I 0 h) (hn : vs.length ≤ 1000)
    (hb : (∀ i h, I i h → h[b]? = some (.list vs)) ∨ ∀ i h, I i h → h[b]? = some (.tup vs))
    (step : ∀ i v h, vs[i]? = some v → I i h → ∃ h', f v h = some (g i, h') ∧ I (i + 1) h') :
    ∃ h', C = some (.ref h'.length, h' ++ [.list ((List.range vs.length).filterMap g)]) ∧ I vs.length h' := by
  subst hC
  rcases hb with hb | hb
  · obtain ⟨h', e, hi⟩ := comp_inv f (.lst b) vs.length g I (fun h hi => by simp only [lenIt, hb _ _ hi]) (fun i h hlt hi => by
      have hv : vs[i]? = some vs[i] := List.getElem?_eq_getElem hlt
      obtain ⟨h', e1, e2⟩ := step i _ h hv hi
      exact ⟨_, h', by simp only [itemAt, hb _ _ hi, hv], e1, e2⟩) vs.length 0 h (by first | assumption | exact Nat.le_of_lt ‹_› | exact Nat.lt_succ_of_lt ‹_› | exact Nat.ne_of_lt ‹_› | exact Nat.ne_of_gt ‹_› | exact Nat.le_trans ‹_› (by decide) | exact Nat.lt_of_lt_of_le ‹_› (by decide) | decide | omega) h0
    exact ⟨h', by simp only [compAll, itOf, hb _ _ h0, lenIt, hn, if_true, e, List.range_eq_range'], hi⟩
  · obtain ⟨h', e, hi⟩ := comp_inv f (.tup b) vs.length g I (fun h hi => by simp only [lenIt, hb _ _ hi]) (fun i h hlt hi => by
      have hv : vs[i]? = some vs[i] := List.getElem?_eq_getElem hlt
      obtain ⟨h', e1, e2⟩ := step i _ h hv hi
      exact ⟨_, h', by simp only [itemAt, hb _ _ hi, hv], e1, e2⟩) vs.length 0 h (by first | assumption | exact Nat.le_of_lt ‹_› | exact Nat.lt_succ_of_lt ‹_› | exact Nat.ne_of_lt ‹_› | exact Nat.ne_of_gt ‹_› | exact Nat.le_trans ‹_› (by decide) | exact Nat.lt_of_lt_of_le ‹_› (by decide) | decide | omega) h0
    exact ⟨h', by simp only [compAll, itOf, hb _ _ h0, lenIt, hn, if_true, e, List.range_eq_range'], hi⟩

theorem mkRng_N (h : Hp) {n : Nat} (hn : n ≤ 100000) : mkRng h 0 (n : Int) 1 = some (.ref h.length, h ++ [.rng 0 1 n]) := by
  have e : rngLen 0 (n : Int) 1 = n := by
    unfold rngLen
    rw [if_pos (by decide)]
    split <;> omega
  unfold mkRng
  rw [if_pos (by first | assumption | exact Nat.le_of_lt ‹_› | exact Nat.lt_succ_of_lt ‹_› | exact Nat.ne_of_lt ‹_› | exact Nat.ne_of_gt ‹_› | exact Nat.le_trans ‹_› (by decide) | exact Nat.lt_of_lt_of_le ‹_› (by decide) | decide | omega), e]

theorem filter_N (t : Nat → Prop) [DecidablePred t] (f : Nat → Nat) (n : Nat) :
    ((List.range n).filterMap fun s => if t s then some (N (f s)) else none) = ((List.range n).filterMap fun s => if t s then some (f s) else none).map N := by
  rw [List.map_filterMap]
  congr 1
  funext s
  by_cases h : t s <;> simp [h]
theorem filter_len (t : Nat → Prop) [DecidablePred t] (f : Nat → Nat) (n : Nat) : ((List.range n).filterMap fun s => if t s then some (f s) else none).length ≤ n := by
  have := List.length_filterMap_le (fun s => if t s then some (f s) else none) (List.range n)
  simpa using this
theorem all_some {α : Type} (f : Nat → α) (n : Nat) : ((List.range n).filterMap fun s => some (f s)) = (List.range n).map f := by
  rw [← List.filterMap_eq_map]; rfl
theorem xl_filterP (t : Nat → Prop) [DecidablePred t] (f : Nat → Nat) (n : Nat) : xl ((List.range n).filterMap fun s => if t s then some (f s) else none) = kx (fun s => if t s then f s else 0) n := by
  have := xl_filter (fun s => decide (t s)) f n
  simpa only [decide_eq_true_eq] using this

/-! ### data compared -/

theorem data_ints (h : Hp) : ∀ (n : Nat) (xs : List Nat), xs.length < n → dataAll n h (xs.map N) = some (xs.map fun x : Nat => PyData.int x)
  | 0, _, e => by first | assumption | exact Nat.le_of_lt ‹_› | exact Nat.lt_succ_of_lt ‹_› | exact Nat.ne_of_lt ‹_› | exact Nat.ne_of_gt ‹_› | exact Nat.le_trans ‹_› (by decide) | exact Nat.lt_of_lt_of_le ‹_› (by decide) | decide | omega
  | n + 1, [], _ => rfl
  | n + 1, x :: r, e => by
    rw [List.length_cons] at e
    have ih := data_ints h n r (by first | assumption | exact Nat.le_of_lt ‹_› | exact Nat.lt_succ_of_lt ‹_› | exact Nat.ne_of_lt ‹_› | exact Nat.ne_of_gt ‹_› | exact Nat.le_trans ‹_› (by decide) | exact Nat.lt_of_lt_of_le ‹_› (by decide) | decide | omega)
    obtain ⟨m, rfl⟩ : ∃ m, n = m + 1 := ⟨n - 1, by first | assumption | exact Nat.le_of_lt ‹_› | exact Nat.lt_succ_of_lt ‹_› | exact Nat.ne_of_lt ‹_› | exact Nat.ne_of_gt ‹_› | exact Nat.le_trans ‹_› (by decide) | exact Nat.lt_of_lt_of_le ‹_› (by decide) | decide | omega⟩
    simp only [List.map_cons, dataAll, dataOf, ih]
theorem data_list {h : Hp} {k : Nat} {xs : List Nat} (hk : h[k]? = some (.list (xs.map N))) {n : Nat} (hn : xs.length < n) : dataOf (n + 1) h (.ref k) = some (.list (xs.map fun x : Nat => PyData.int x)) := by
  simp only [dataOf, hk, data_ints h n xs hn, Option.map_some]
theorem eqv_ints : ∀ (xs ys : List Nat), PyData.eqv (.list (xs.map fun x : Nat => PyData.int x)) (.list (ys.map fun x : Nat => PyData.int x)) = decide (xs = ys) := by
  intro xs ys
  rw [PyData.eqv]
  induction xs generalizing ys with
  | nil =>
    cases ys with
    | nil => rfl
    | cons y r => rfl
  | cons x r ih =>
    cases ys with
    | nil => rfl
    | cons y t =>
      simp only [List.map_cons, PyData.eqvAll, PyData.eqv, ih]
      by_cases h : x = y <;> by_cases h' : r = t <;> simp [h, h'] <;> omega
theorem cmp_lists {h : Hp} {j k : Nat} {xs ys : List Nat} (hj : h[j]? = some (.list (xs.map N))) (hk : h[k]? = some (.list (ys.map N))) (h1 : xs.length ≤ 50) (h2 : ys.length ≤ 50) :
    cmpV .eq (.ref j) (.ref k) h = some (decide (xs = ys)) ∧ cmpV .ne (.ref j) (.ref k) h = some (!decide (xs = ys)) := by
  have e1 := data_list hj (n := 59) (by first | assumption | exact Nat.le_of_lt ‹_› | exact Nat.lt_succ_of_lt ‹_› | exact Nat.ne_of_lt ‹_› | exact Nat.ne_of_gt ‹_› | exact Nat.le_trans ‹_› (by decide) | exact Nat.lt_of_lt_of_le ‹_› (by decide) | decide | omega)
  have e2 := data_list hk (n := 59) (by first | assumption | exact Nat.le_of_lt ‹_› | exact Nat.lt_succ_of_lt ‹_› | exact Nat.ne_of_lt ‹_› | exact Nat.ne_of_gt ‹_› | exact Nat.le_trans ‹_› (by decide) | exact Nat.lt_of_lt_of_le ‹_› (by decide) | decide | omega)
  refine ⟨?_, ?_⟩ <;> simp only [cmpV, e1, e2, eqv_ints]
theorem LN_map (n : Nat) (g : Nat → Nat) : LN n g = .list (((List.range n).map g).map N) := by
  unfold LN LV
  rw [List.map_map]; rfl
theorem map_eq_iff (n : Nat) (f g : Nat → Nat) : (List.range n).map f = (List.range n).map g ↔ ∀ s, s < n → f s = g s := by
  rw [List.map_inj_left]
  simp only [List.mem_range]
theorem cmp_LN {h : Hp} {j k n : Nat} {f g : Nat → Nat} (hj : h[j]? = some (LN n f)) (hk : h[k]? = some (LN n g)) (h1 : n ≤ 50) :
    cmpV .eq (.ref j) (.ref k) h = some (decide (∀ s, s < n → f s = g s)) ∧ cmpV .ne (.ref j) (.ref k) h = some (!decide (∀ s, s < n → f s = g s)) := by
  rw [LN_map] at hj hk
  have := cmp_lists hj hk (by simpa using h1) (by simpa using h1)
  simpa only [map_eq_iff] using this


/-! ### statement by statement -/

noncomputable def Run (F : FnT) (b : B) (l : Loc) (h : Hp) (Q : V → Hp → Prop) : Prop := ∃ fl l' h', exs tab F b l h = some (fl, l', h') ∧ (match fl with | .ret v => Q v h' | .next => Q .none h')
theorem Run.cons {F : FnT} {s : S} {b : B} {l : Loc} {h : Hp} {Q : V → Hp → Prop} (k : ∃ l1 h1, ex tab F s l h = some (.next, l1, h1) ∧ Run F b l1 h1 Q) : Run F (.cons s b) l h Q := by
  obtain ⟨l1, h1, e1, fl, l2, h2, e2, q⟩ := k
  exact ⟨fl, l2, h2, by simp only [exs, e1, e2], q⟩
theorem Run.ret {F : FnT} {e : X} {b : B} {l : Loc} {h : Hp} {Q : V → Hp → Prop} (k : ∃ v h1, ev tab F e l h = some (v, h1) ∧ Q v h1) : Run F (.cons (.ret e) b) l h Q := by
  obtain ⟨v, h1, e1, q⟩ := k
  exact ⟨.ret v, l, h1, by simp only [exs, exasn, exasn2, exsetattr, exsetidx, exaug, exaugidx, exaugattr, exite, exloop, exret, exexpr, exfail, e1], q⟩
theorem Run.nil {F : FnT} {l : Loc} {h : Hp} {Q : V → Hp → Prop} (q : Q .none h) : Run F .nil l h Q := ⟨.next, l, h, rfl, q⟩
set_option tactic.hygienic true in
theorem fd_run {d f : Nat} {fn : Fn} {args : List V} {h : Hp} {P : V → Hp → Prop} (hf : fnOf f = some fn) (hl : args.length = fn.nargs)
    (k : Run (Fd tab d) fn.body (args.map some ++ List.replicate (fn.nslots - fn.nargs) none) h P) : ∃ v h', Fd tab (d + 1) f args h = some (v, h') ∧ P v h' := by
  obtain ⟨fl, l', h', e, q⟩ := k
  cases fl with
  | next => exact ⟨.none, h', by simp only [Fd_succ, hf, runFn, hl, if_true, e], q⟩
  | ret v => exact ⟨v, h', by simp only [Fd_succ, hf, runFn, hl, if_true, e], q⟩

theorem comp_one {f : V → Hp → Option (Option V × Hp)} {n : Nat} {h : Hp} {C : Option (V × Hp)} (hC : compAll f (.ref h.length) (h ++ [.rng 0 1 n]) = C) (g : Nat → Option V) (hn : n ≤ 1000)
    (step : ∀ hx, Kp h hx → ∀ i, i < n → f (N i) hx = some (g i, hx)) : ∃ k h1, C = some (.ref k, h1) ∧ h1[k]? = some (.list ((List.range n).filterMap g)) ∧ Kp h h1 ∧ h.length ≤ k := by
  have := comp_pure hC g hn (get_new _ _) (step _ (Kp.app _ _))
  exact ⟨_, _, this, get_new _ _, (Kp.app _ _).trans (Kp.app _ _), by simp⟩

theorem loop_tup {f : Loc → Hp → Option (Fl × Loc × Hp)} {x b : Nat} {vs : List V} {l : Loc} {h : Hp} {L : Option (Fl × Loc × Hp)} (hL : loopAll f x (.ref b) l h = L) (I : Nat → Loc → Hp → Prop) (h0 : I 0 l h) (hn : vs.length ≤ 1000)
    (hI : ∀ i l h, I i l h → h[b]? = some (.tup vs))
    (step : ∀ i v l h, vs[i]? = some v → I i l h → ∃ l' h', f (l.set x (some v)) h = some (.next, l', h') ∧ I (i + 1) l' h') :
    ∃ l' h', L = some (.next, l', h') ∧ I vs.length l' h' := by
  subst hL
  have hb := hI 0 l h h0
  obtain ⟨l', h', e, hi⟩ := loop_inv f x (.tup b) vs.length I (fun l h hi => by simp [lenIt, hI _ _ _ hi]) (fun i l h hlt hi => by
    have hv : vs[i]? = some vs[i] := List.getElem?_eq_getElem hlt
    obtain ⟨l', h', e1, e2⟩ := step i _ l h hv hi
    exact ⟨vs[i], l', h', by simp only [itemAt, hI _ _ _ hi, hv], e1, e2⟩) vs.length 0 l h (by first | assumption | exact Nat.le_of_lt ‹_› | exact Nat.lt_succ_of_lt ‹_› | exact Nat.ne_of_lt ‹_› | exact Nat.ne_of_gt ‹_› | exact Nat.le_trans ‹_› (by decide) | exact Nat.lt_of_lt_of_le ‹_› (by decide) | decide | omega) h0
  exact ⟨l', h', by simp only [loopAll, itOf, hb, lenIt, hn, if_true, e], hi⟩

theorem append_LN {h : Hp} {k n v : Nat} {g : Nat → Nat} (hk : h[k]? = some (LN n g)) (hn : n ≤ 1000) (hv : v = g n) : doAppend h (.ref k) (.int (v : Int)) = some (.none, h.set k (LN (n + 1) g)) :=
  append_LV hk hn (fun _ _ => rfl) (by rw [hv])
theorem getL_LV {h : Hp} {k n : Nat} {g : Nat → V} (hk : h[k]? = some (LV n g)) : getL h (.ref k) = some ((List.range n).map g) := getL_of hk
theorem new_apart {h : Hp} {k : Nat} {o : O} (e : h[k]? = some o) {j : Nat} (hj : h.length ≤ j) : k ≠ j := by
  have := lt_of e
  omega


theorem add_tup {h : Hp} {a b : Nat} {vs ws : List V} (ha : h[a]? = some (.tup vs)) (hb : h[b]? = some (.tup ws)) (hn : vs.length + ws.length ≤ 1000 ∧ vs.length ≠ 0 ∧ ws.length ≠ 0) :
    opV .add (.ref a) (.ref b) h = some (.ref h.length, h ++ [.tup (vs ++ ws)]) := by
  simp only [opV, ha, hb]
  rw [if_pos hn]
theorem add_list {h : Hp} {a b : Nat} {vs ws : List V} (ha : h[a]? = some (.list vs)) (hb : h[b]? = some (.list ws)) (hn : vs.length + ws.length ≤ 1000) :
    opV .add (.ref a) (.ref b) h = some (.ref h.length, h ++ [.list (vs ++ ws)]) := by
  simp only [opV, ha, hb]
  rw [if_pos hn]
theorem take_map (n j : Nat) (g : Nat → V) (hj : j ≤ n) : ((List.range n).map g).take j = (List.range j).map g := by
  rw [← List.map_take, List.take_range, Nat.min_eq_left hj]
theorem cut_to {h : Hp} {k n j : Nat} {g : Nat → V} (hk : h[k]? = some (LV n g)) (hj : j ≤ n) (hn : n ≤ 1000) : cut h (.ref k) none (some (j : Int)) = some (.ref h.length, h ++ [LV j g]) := by
  have h0 : (0 : Int) ≤ (j : Int) := by first | assumption | exact Nat.le_of_lt ‹_› | exact Nat.lt_succ_of_lt ‹_› | exact Nat.ne_of_lt ‹_› | exact Nat.ne_of_gt ‹_› | exact Nat.le_trans ‹_› (by decide) | exact Nat.lt_of_lt_of_le ‹_› (by decide) | decide | omega
  simp only [cut, getR, hk, cutL, Option.elim_some, Option.elim_none, Int.toNat_natCast, List.drop_zero, take_map n j g hj, List.length_map, List.length_range, hn, h0, decide_true, Option.all_some, Option.all_none, Bool.and_self, if_true]
theorem ints_mapN : ∀ xs : List Nat, ints? (xs.map N) = some (xs.map fun x : Nat => (x : Int))
  | [] => rfl
  | x :: r => by simp only [List.map_cons, ints?, ints_mapN r, Option.map_some]
theorem count_LN {h : Hp} {k n m : Nat} {f : Nat → Nat} (hk : h[k]? = some (LN n f)) : doCount h (.ref k) (.int (m : Int)) = some (.int ((cnt f m n : Nat) : Int)) := by
  have e : getL h (.ref k) = some (((List.range n).map f).map N) := by
    rw [LN_map] at hk
    exact getL_of hk
  simp only [doCount, e, ints_mapN, Option.map_some]
  rw [List.map_map]
  have := count_cells f m n
  rw [← this]; rfl

theorem Run.step {F : FnT} {s : S} {b : B} {l l1 : Loc} {h h1 : Hp} {Q : V → Hp → Prop} (x : ex tab F s l h = some (.next, l1, h1)) (r : Run F b l1 h1 Q) : Run F (.cons s b) l h Q := Run.cons ⟨l1, h1, x, r⟩
theorem Run.out {F : FnT} {e : X} {b : B} {l : Loc} {h h1 : Hp} {v : V} {Q : V → Hp → Prop} (x : ev tab F e l h = some (v, h1)) (q : Q v h1) : Run F (.cons (.ret e) b) l h Q := Run.ret ⟨v, h1, x, q⟩
theorem erngN {F : FnT} {a : X} {l : Loc} {h : Hp} {n : Nat} (x : ev tab F a l h = some (N n, h)) (hn : n ≤ 1000) : ev tab F (.rng1 a) l h = some (.ref h.length, h ++ [.rng 0 1 n]) :=
  erng1 x (mkRng_N h (Nat.le_trans hn (by decide)))
theorem xor_pick (d : Nat) {e a c : X} {l : Loc} {h : Hp} {n : Nat} (t : Nat → Prop) [DecidablePred t] (f : Nat → Nat) (ha : ev tab (Fd tab (d + 1)) a l h = some (N n, h)) (hn : n ≤ 1000)
    (hc : ∀ hx, Kp h hx → ∀ i, i < n → ev tab (Fd tab (d + 1)) c (l ++ [some (N i)]) hx = some (.bool (decide (t i)), hx))
    (he : ∀ hx, Kp h hx → ∀ i, i < n → t i → ev tab (Fd tab (d + 1)) e (l ++ [some (N i)]) hx = some (N (f i), hx)) :
    ∃ h1, ev tab (Fd tab (d + 1)) (.call 27 (.cons (.compIf e (.rng1 a) c) .nil)) l h = some (N (kx (fun s => if t s then f s else 0) n), h1) ∧ Kp h h1 := by
  obtain ⟨k, h1, e1, e2, K, -⟩ := comp_one (f := pickF tab (Fd tab (d + 1)) c e l) rfl (fun s => if t s then some (N (f s)) else none) hn (fun hx K i hi => by
    by_cases q : t i
    · rw [if_pos q]
      exact cstepT (hc hx K i hi) (tru q) (he hx K i hi q)
    · rw [if_neg q]
      exact cstepF (hc hx K i hi) (fls q))
  rw [filter_N] at e2
  have x := f_law_xor d e2 (Nat.le_trans (filter_len t f n) hn)
  rw [xl_filterP] at x
  exact ⟨h1, ecall (econs (ecompIf (erngN ha hn) e1) enil) x, K⟩
theorem ecomp_rng {F : FnT} {e a : X} {l : Loc} {h : Hp} {n : Nat} (g : Nat → Nat) (ha : ev tab F a l h = some (N n, h)) (hn : n ≤ 1000)
    (he : ∀ hx, Kp h hx → ∀ i, i < n → ev tab F e (l ++ [some (N i)]) hx = some (N (g i), hx)) :
    ∃ k h1, ev tab F (.comp e (.rng1 a)) l h = some (.ref k, h1) ∧ h1[k]? = some (LN n g) ∧ Kp h h1 ∧ h.length ≤ k := by
  obtain ⟨k, h1, e1, e2, K, hk⟩ := comp_one (f := mapF tab F e l) rfl (fun s => some (N (g s))) hn fun hx K i hi => cstep (he hx K i hi)
  rw [all_some] at e2
  exact ⟨k, h1, ecomp (erngN ha hn) e1, e2, K, hk⟩
theorem loop_two {F : FnT} {x : Nat} {b : B} {l l1 l2 : Loc} {h h1 h2 : Hp} (e0 : exs tab F b (l.set x (some (N 0))) (h ++ [.tup [N 0, N 1]]) = some (.next, l1, h1)) (k1 : h1[h.length]? = some (.tup [N 0, N 1]))
    (e1 : exs tab F b (l1.set x (some (N 1))) h1 = some (.next, l2, h2)) (k2 : h2[h.length]? = some (.tup [N 0, N 1])) :
    ex tab F (.loop x (.tup (.cons (.lit (.int 0)) (.cons (.lit (.int 1)) .nil))) b) l h = some (.next, l2, h2) := by
  refine xloop (etup (econs elit (econs elit enil))) ?_
  have k0 : (h ++ [O.tup [.int 0, .int 1]])[h.length]? = some (.tup [N 0, N 1]) := get_new h (.tup [N 0, N 1])
  simp only [loopAll]
  rw [itOf, k0]
  dsimp only
  rw [lenIt, k0]
  dsimp only
  rw [if_pos (by decide)]
  show loopGo _ _ _ 2 _ _ _ = _
  rw [loopGo, itemAt, k0]
  dsimp only
  show (match exs tab F b (l.set x (some (N 0))) (h ++ [.tup [N 0, N 1]]) with | some (.next, l₁, h₁) => loopGo _ x _ 1 1 l₁ h₁ | some (.ret v, l₁, h₁) => _ | none => _) = _
  rw [e0]
  dsimp only
  rw [loopGo, itemAt, k1]
  dsimp only
  show (match exs tab F b (l1.set x (some (N 1))) h1 with | some (.next, l₁, h₁) => loopGo _ x _ 0 2 l₁ h₁ | some (.ret v, l₁, h₁) => _ | none => _) = _
  rw [e1]
  dsimp only
  rw [loopGo, lenIt, k2]
  rfl

/-! ### looks into the tables and the position -/

section
variable {F : FnT} {o i : X} {l : Loc} {h : Hp} {z p g c k size files side rights key : Nat} {T : Tb} {cells : Nat → Nat} {ep : Int}
theorem row_of (hz : ZobAt h z size files T) (eo : ev tab F o l h = some (.ref z, h)) (ei : ev tab F i l h = some (N c, h)) (hc : c < 15) :
    ∃ r, ev tab F (.idx (.attr o 1) i) l h = some (.ref r, h) ∧ h[r]? = some (LN (rl size c) (T.P c)) := by
  obtain ⟨a, e, r, rs, z1, z2, z3, z4, z5⟩ := hz
  exact ⟨rs c, eidx (eattr eo (getA_of z1 rfl)) ei (getIdx_LV (g := fun c => .ref (rs c)) z2 hc (by decide)), z5 c hc⟩
theorem rights_of (hz : ZobAt h z size files T) (eo : ev tab F o l h = some (.ref z, h)) (ei : ev tab F i l h = some (N c, h)) (hc : c < 16) : ev tab F (.idx (.attr o 3) i) l h = some (N (T.R c), h) := by
  obtain ⟨a, e, r, rs, z1, z2, z3, z4, z5⟩ := hz
  exact eidx (eattr eo (getA_of z1 rfl)) ei (getIdx_LN z4 hc (by decide))
theorem ep_of (hz : ZobAt h z size files T) (eo : ev tab F o l h = some (.ref z, h)) (ei : ev tab F i l h = some (N c, h)) (hc : c < files) (hf : files ≤ 1000) : ev tab F (.idx (.attr o 2) i) l h = some (N (T.E c), h) := by
  obtain ⟨a, e, r, rs, z1, z2, z3, z4, z5⟩ := hz
  exact eidx (eattr eo (getA_of z1 rfl)) ei (getIdx_LN z3 hc hf)
theorem side_of (hz : ZobAt h z size files T) (eo : ev tab F o l h = some (.ref z, h)) : ev tab F (.attr o 4) l h = some (N T.S, h) := by
  obtain ⟨a, e, r, rs, z1, z2, z3, z4, z5⟩ := hz
  exact eattr eo (getA_of z1 rfl)
theorem pos_at (hp : PosAt h p g z size cells side rights ep key) : ∃ fs, h[p]? = some (.inst 4 fs) ∧ lookupA 2 fs = some (.int ep) ∧ lookupA 3 fs = some (N rights) ∧ lookupA 4 fs = some (N side) ∧ lookupA 26 fs = some (N key) := by
  obtain ⟨b, ks, ss, hi, p1, p2⟩ := hp
  exact ⟨_, p1, rfl, rfl, rfl, rfl⟩
theorem pos_ep (hp : PosAt h p g z size cells side rights ep key) (eo : ev tab F o l h = some (.ref p, h)) : ev tab F (.attr o 2) l h = some (.int ep, h) := by
  obtain ⟨fs, q, q1, q2, q3, q4⟩ := pos_at hp
  exact eattr eo (getA_of q q1)
theorem pos_rights (hp : PosAt h p g z size cells side rights ep key) (eo : ev tab F o l h = some (.ref p, h)) : ev tab F (.attr o 3) l h = some (N rights, h) := by
  obtain ⟨fs, q, q1, q2, q3, q4⟩ := pos_at hp
  exact eattr eo (getA_of q q2)
theorem pos_side (hp : PosAt h p g z size cells side rights ep key) (eo : ev tab F o l h = some (.ref p, h)) : ev tab F (.attr o 4) l h = some (N side, h) := by
  obtain ⟨fs, q, q1, q2, q3, q4⟩ := pos_at hp
  exact eattr eo (getA_of q q3)
theorem pos_key (hp : PosAt h p g z size cells side rights ep key) (eo : ev tab F o l h = some (.ref p, h)) : ev tab F (.attr o 26) l h = some (N key, h) := by
  obtain ⟨fs, q, q1, q2, q3, q4⟩ := pos_at hp
  exact eattr eo (getA_of q q4)
end

noncomputable def B.tl : B → B
  | .nil => .nil
  | .cons _ b => b

end Mz
end

section
open PySem PySem.W PyProof.Rows
set_option Elab.async false
set_option autoImplicit false

set_option tactic.hygienic false

namespace Mz

theorem ZobAt.mono {h h' : Hp} {z size files : Nat} {T : Tb} (K : Kp h h') (x : ZobAt h z size files T) : ZobAt h' z size files T := by
  obtain ⟨a, e, r, rs, z1, z2, z3, z4, z5⟩ := x
  exact ⟨a, e, r, rs, K _ _ z1, K _ _ z2, K _ _ z3, K _ _ z4, fun c hc => K _ _ (z5 c hc)⟩
theorem GeoAt.mono {h h' : Hp} {g size files : Nat} (K : Kp h h') (x : GeoAt h g size files) : GeoAt h' g size files := by
  obtain ⟨fs, g1, g2⟩ := x
  exact ⟨fs, K _ _ g1, g2⟩
theorem PosAt.mono {h h' : Hp} {p g z size : Nat} {cells : Nat → Nat} {side rights : Nat} {ep : Int} {key : Nat} (K : Kp h h') (x : PosAt h p g z size cells side rights ep key) : PosAt h' p g z size cells side rights ep key := by
  obtain ⟨b, ks, ss, hi, p1, p2⟩ := x
  exact ⟨b, ks, ss, hi, K _ _ p1, K _ _ p2⟩
theorem ZobAt.monoX {h h' : Hp} {p z size files : Nat} {T : Tb} {fs : List (Nat × V)} (hp : h[p]? = some (.inst 4 fs)) (K : Kx p h h') (x : ZobAt h z size files T) : ZobAt h' z size files T := by
  obtain ⟨a, e, r, rs, z1, z2, z3, z4, z5⟩ := x
  exact ⟨a, e, r, rs, K _ _ (ne_of z1 hp (by simp)) z1, K _ _ (ne_of z2 hp (by simp)) z2, K _ _ (ne_of z3 hp (by simp)) z3, K _ _ (ne_of z4 hp (by simp)) z4, fun c hc => K _ _ (ne_of (z5 c hc) hp (by simp)) (z5 c hc)⟩
theorem GeoAt.monoX {h h' : Hp} {p g size files : Nat} {fs' : List (Nat × V)} (hp : h[p]? = some (.inst 4 fs')) (K : Kx p h h') (x : GeoAt h g size files) : GeoAt h' g size files := by
  obtain ⟨fs, g1, g2⟩ := x
  exact ⟨fs, K _ _ (ne_of g1 hp (by simp)) g1, g2⟩

theorem kx_xor (f g : Nat → Nat) : ∀ n, kx (fun s => f s ^^^ g s) n = kx f n ^^^ kx g n
  | 0 => by simp [kx]
  | n + 1 => by
    rw [kx_succ, kx_succ, kx_succ, kx_xor f g n]
    ac_rfl

theorem cell_cases : ∀ c, c < 15 → c % 8 ≠ 7 → c ≠ 8 → (c = 0) ∨ (c % 8 = 1) ∨ (1 < c % 8 ∧ c / 8 = 0) ∨ (1 < c % 8 ∧ c / 8 = 1) := by decide
theorem men_le : ∀ m ∈ menL, m < 15 ∧ m % 8 ≠ 0 ∧ m % 8 ≠ 7 := by decide
theorem parts {T : Tb} {cells : Nat → Nat} {size : Nat} (hc : ∀ s, s < size → Cell (cells s)) :
    kx (fun s => if cells s ≠ 0 then T.P (cells s) s else 0) size =
      (kx (fun s => if cells s % 8 = 1 then T.P (cells s) s else 0) size ^^^ kx (fun s => if 1 < cells s % 8 ∧ cells s / 8 = 0 then T.P (cells s) s else 0) size) ^^^
        kx (fun s => if 1 < cells s % 8 ∧ cells s / 8 = 1 then T.P (cells s) s else 0) size := by
  rw [← kx_xor, ← kx_xor]
  refine kx_congr fun s hs => ?_
  obtain ⟨h1, h2, h3⟩ := hc s hs
  generalize T.P (cells s) s = x
  generalize cells s = c at h1 h2 h3
  have h := cell_cases c h1 h2 h3
  rcases h with h | h | h | h
  · have a1 : ¬ (c % 8 = 1) := by first | assumption | exact Nat.le_of_lt ‹_› | exact Nat.lt_succ_of_lt ‹_› | exact Nat.ne_of_lt ‹_› | exact Nat.ne_of_gt ‹_› | exact Nat.le_trans ‹_› (by decide) | exact Nat.lt_of_lt_of_le ‹_› (by decide) | decide | omega
    have a2 : ¬ (1 < c % 8) := by first | assumption | exact Nat.le_of_lt ‹_› | exact Nat.lt_succ_of_lt ‹_› | exact Nat.ne_of_lt ‹_› | exact Nat.ne_of_gt ‹_› | exact Nat.le_trans ‹_› (by decide) | exact Nat.lt_of_lt_of_le ‹_› (by decide) | decide | omega
    simp [h]
  · have a0 : c ≠ 0 := by first | assumption | exact Nat.le_of_lt ‹_› | exact Nat.lt_succ_of_lt ‹_› | exact Nat.ne_of_lt ‹_› | exact Nat.ne_of_gt ‹_› | exact Nat.le_trans ‹_› (by decide) | exact Nat.lt_of_lt_of_le ‹_› (by decide) | decide | omega
    simp [h, a0]
  · have a0 : c ≠ 0 := by first | assumption | exact Nat.le_of_lt ‹_› | exact Nat.lt_succ_of_lt ‹_› | exact Nat.ne_of_lt ‹_› | exact Nat.ne_of_gt ‹_› | exact Nat.le_trans ‹_› (by decide) | exact Nat.lt_of_lt_of_le ‹_› (by decide) | decide | omega
    have a1 : ¬ (c % 8 = 1) := by first | assumption | exact Nat.le_of_lt ‹_› | exact Nat.lt_succ_of_lt ‹_› | exact Nat.ne_of_lt ‹_› | exact Nat.ne_of_gt ‹_› | exact Nat.le_trans ‹_› (by decide) | exact Nat.lt_of_lt_of_le ‹_› (by decide) | decide | omega
    simp [h, a0, a1]
  · have a0 : c ≠ 0 := by first | assumption | exact Nat.le_of_lt ‹_› | exact Nat.lt_succ_of_lt ‹_› | exact Nat.ne_of_lt ‹_› | exact Nat.ne_of_gt ‹_› | exact Nat.le_trans ‹_› (by decide) | exact Nat.lt_of_lt_of_le ‹_› (by decide) | decide | omega
    have a1 : ¬ (c % 8 = 1) := by first | assumption | exact Nat.le_of_lt ‹_› | exact Nat.lt_succ_of_lt ‹_› | exact Nat.ne_of_lt ‹_› | exact Nat.ne_of_gt ‹_› | exact Nat.le_trans ‹_› (by decide) | exact Nat.lt_of_lt_of_le ‹_› (by decide) | decide | omega
    simp [h, a0, a1]

theorem f_settle_key (d : Nat) {h : Hp} {p g z size files : Nat} {T : Tb} {cells : Nat → Nat} {side rights key : Nat} {ep : Int} (hz : ZobAt h z size files T) (hg : GeoAt h g size files) (hp : PosAt h p g z size cells side rights ep key)
    (hf : files ≠ 0) (hf2 : files ≤ 1000) (hs : size ≤ 1000) (hr : rights < 16) (hc : ∀ s, s < size → Cell (cells s)) :
    ∃ h', Fd tab (d + 3) 24 [.ref p] h = some (.none, h') ∧ Kx p h h' ∧ PosAt h' p g z size cells side rights ep (fkey T size files side rights ep cells) := by
  have hk := f_full_key d hz hg hp hf hf2 hs hr hc
  obtain ⟨b, ks, ss, hi, p1, p2⟩ := hp
  have hset : setA h (.ref p) 26 (N (fkey T size files side rights ep cells)) = some (h.set p (posO g z b ks ss hi side rights ep (fkey T size files side rights ep cells))) := by
    simp [setA, p1, posO, storeA]
  rw [Fd_of (f := 24) rfl]
  have hk : Fd tab (d + 2) 9 [.ref p] h = some (N (fkey T size files side rights ep cells), h) := hk
  simp only [exs, exasn, exasn2, exsetattr, exsetidx, exaug, exaugidx, exaugattr, exite, exloop, exret, exexpr, exfail, evlit, evloc, evbin, evneg, evinv, evnot, evand, evor, evcmp, evcmp2, evmem, evite, evcall, evnew, evmeth, evlen, evlistOf, evsorted, evrng1, evrng2, evrng3, evappend, evcount, evattr, evidx, evslTo, evslFrom, evslBt, evrev, evlist, evtup, evcomp, evcompIf, evs, opV_int, t_bool, truthy_int, cmpV_int, cmpV_bool_eq, cmpV_bool_ne, runFn, getA, lookupA, storeA, Option.map_some, List.getElem?_cons_zero, List.getElem?_cons_succ, List.set_cons_zero, List.set_cons_succ, List.cons_append, List.nil_append, vlit, op_add, op_band, op_bor, op_bxor, op_shr, c_eq, c_ne, c_lt, c_le, c_gt, c_ge, List.length_cons, List.length_nil, List.map_cons, List.map_nil, Nat.zero_add, Nat.add_zero, reduceIte, List.replicate_succ, List.replicate_zero, Nat.reduceAdd, Nat.reduceSub, Nat.reduceEqDiff, Nat.sub_self, decide_true, decide_false, eq_self, Bool.not_true, Bool.not_false, beq_self_eq_true, b_settle_key, hk, hset]
  exact ⟨_, rfl, Kx.set _ _ _, b, ks, ss, hi, get_set p1, get_set_ne p2 (ne_of p2 p1 (by simp [posO]))⟩

theorem lt_of' {l : List V} {k : Nat} {o : V} (e : l[k]? = some o) : k < l.length := (List.getElem?_eq_some_iff.mp e).1

theorem told_piece {F : FnT} {l : Loc} {h : Hp} {z cl size files i : Nat} {T : Tb} {cells : Nat → Nat} (hz : ZobAt h z size files T) (hcl : h[cl]? = some (LN size cells)) (hs : size ≤ 1000) (hi : i < size) (hc : Cell (cells i)) (h0 : cells i % 8 ≠ 0)
    (l1 : l[1]? = some (some (.ref z))) (l2 : l[2]? = some (some (.ref cl))) (l10 : l[10]? = some (some (N i))) :
    ev tab F (.idx (.idx (.attr (.loc 1) 1) (.idx (.loc 2) (.loc 10))) (.loc 10)) l h = some (N (T.P (cells i) i), h) := by
  obtain ⟨r, e1, e2⟩ := row_of hz (eloc l1) (eidx (eloc l2) (eloc l10) (getIdx_LN hcl hi hs)) hc.1
  rw [hc.rl h0] at e2
  exact eidx e1 (eloc l10) (getIdx_LN e2 hi hs)
theorem told_mod {F : FnT} {l : Loc} {h : Hp} {cl size i : Nat} {cells : Nat → Nat} (hcl : h[cl]? = some (LN size cells)) (hs : size ≤ 1000) (hi : i < size)
    (l2 : l[2]? = some (some (.ref cl))) (l10 : l[10]? = some (some (N i))) : ev tab F (.bin .mod (.idx (.loc 2) (.loc 10)) (.lit (.int 8))) l h = some (N (cells i % 8), h) :=
  ebin (eidx (eloc l2) (eloc l10) (getIdx_LN hcl hi hs)) elit (vop (op_mod (b := 8) (by decide)))
theorem told_div {F : FnT} {l : Loc} {h : Hp} {cl size i : Nat} {cells : Nat → Nat} (hcl : h[cl]? = some (LN size cells)) (hs : size ≤ 1000) (hi : i < size)
    (l2 : l[2]? = some (some (.ref cl))) (l10 : l[10]? = some (some (N i))) : ev tab F (.bin .fdiv (.idx (.loc 2) (.loc 10)) (.lit (.int 8))) l h = some (N (cells i / 8), h) :=
  ebin (eidx (eloc l2) (eloc l10) (getIdx_LN hcl hi hs)) elit (vop (op_div (b := 8) (by decide) (by decide)))
theorem told_pawns (d : Nat) {l : Loc} {h : Hp} {z cl size files : Nat} {T : Tb} {cells : Nat → Nat} {a b c e f g : Option V} (hz : ZobAt h z size files T) (hcl : h[cl]? = some (LN size cells)) (hs : size ≤ 1000) (hc : ∀ s, s < size → Cell (cells s))
    (hl : l = [a, some (.ref z), some (.ref cl), b, some (N size), c, e, f, g, none]) :
    ∃ h1, ev tab (Fd tab (d + 1)) (.call 27 (.cons (.compIf (.idx (.idx (.attr (.loc 1) 1) (.idx (.loc 2) (.loc 10))) (.loc 10)) (.rng1 (.loc 4)) (.cmp .eq (.bin .mod (.idx (.loc 2) (.loc 10)) (.lit (.int 8))) (.lit (.int 1)))) .nil)) l h =
      some (N (kx (fun s => if cells s % 8 = 1 then T.P (cells s) s else 0) size), h1) ∧ Kp h h1 := by
  subst hl
  refine xor_pick d (fun s => cells s % 8 = 1) (fun s => T.P (cells s) s) (eloc rfl) hs (fun hx K i hi => ?_) (fun hx K i hi t => ?_)
  · exact ecmp (told_mod (K _ _ hcl) hs hi rfl rfl) elit (veq _ 1)
  · exact told_piece (hz.mono K) (K _ _ hcl) hs hi (hc i hi) (by rw [t]; decide) rfl rfl rfl
theorem told_men (d : Nat) {l : Loc} {h : Hp} {z cl size files who : Nat} {T : Tb} {cells : Nat → Nat} {a b c e g : Option V} (hz : ZobAt h z size files T) (hcl : h[cl]? = some (LN size cells)) (hs : size ≤ 1000) (hc : ∀ s, s < size → Cell (cells s))
    (hl : l = [a, some (.ref z), some (.ref cl), b, some (N size), c, e, some (N who), g, none]) :
    ∃ h1, ev tab (Fd tab (d + 1)) (.call 27 (.cons (.compIf (.idx (.idx (.attr (.loc 1) 1) (.idx (.loc 2) (.loc 10))) (.loc 10)) (.rng1 (.loc 4)) (.and (.cmp .gt (.bin .mod (.idx (.loc 2) (.loc 10)) (.lit (.int 8))) (.lit (.int 1))) (.cmp .eq (.bin .fdiv (.idx (.loc 2) (.loc 10)) (.lit (.int 8))) (.loc 7)))) .nil)) l h =
      some (N (kx (fun s => if 1 < cells s % 8 ∧ cells s / 8 = who then T.P (cells s) s else 0) size), h1) ∧ Kp h h1 := by
  subst hl
  refine xor_pick d (fun s => 1 < cells s % 8 ∧ cells s / 8 = who) (fun s => T.P (cells s) s) (eloc rfl) hs (fun hx K i hi => ?_) (fun hx K i hi t => ?_)
  · have e1 : ev tab (Fd tab (d + 1)) (.cmp .gt (.bin .mod (.idx (.loc 2) (.loc 10)) (.lit (.int 8))) (.lit (.int 1))) ([a, some (.ref z), some (.ref cl), b, some (N size), c, e, some (N who), g, none] ++ [some (N i)]) hx = some (.bool (decide (1 < cells i % 8)), hx) :=
      ecmp (told_mod (K _ _ hcl) hs hi rfl rfl) elit (vgt _ 1)
    by_cases q : 1 < cells i % 8
    · rw [eandT e1 (tru q) (ecmp (told_div (K _ _ hcl) hs hi rfl rfl) (eloc rfl) (veq _ who))]
      simp only [q, true_and]
    · rw [eandF e1 (fls q)]
      simp only [q, false_and]
  · exact told_piece (hz.mono K) (K _ _ hcl) hs hi (hc i hi) (fun q => by rw [q] at t; exact absurd t.1 (by decide)) rfl rfl rfl
theorem told_turn (d : Nat) {l : Loc} {h : Hp} {z cl size files who ko : Nat} {T : Tb} {cells KW : Nat → Nat} {a b c g : Option V} (hz : ZobAt h z size files T) (hcl : h[cl]? = some (LN size cells)) (hs : size ≤ 1000) (hc : ∀ s, s < size → Cell (cells s))
    (hK : ∀ who, kx (fun s => if 1 < cells s % 8 ∧ cells s / 8 = who then T.P (cells s) s else 0) size = KW who) (o : h[ko]? = some (LN who KW)) (hw : who ≤ 1000)
    (hl : l = [a, some (.ref z), some (.ref cl), b, some (N size), c, some (.ref ko), some (N who), g, none]) :
    ∃ h1, exs tab (Fd tab (d + 1)) (.cons (.expr (.append (.loc 6) (.call 27 (.cons (.compIf (.idx (.idx (.attr (.loc 1) 1) (.idx (.loc 2) (.loc 10))) (.loc 10)) (.rng1 (.loc 4)) (.and (.cmp .gt (.bin .mod (.idx (.loc 2) (.loc 10)) (.lit (.int 8))) (.lit (.int 1))) (.cmp .eq (.bin .fdiv (.idx (.loc 2) (.loc 10)) (.lit (.int 8))) (.loc 7)))) .nil)))) .nil) l h =
      some (.next, l, h1) ∧ Kx ko h h1 ∧ h1[ko]? = some (LN (who + 1) KW) := by
  obtain ⟨h1, e1, K⟩ := told_men d hz hcl hs hc hl
  rw [hK] at e1
  subst hl
  exact ⟨_, exs_one (xexpr (eappend (eloc rfl) (getL_LV o) e1 (append_LN (K _ _ o) hw rfl))), (K.x ko).trans (Kx.set _ _ _), get_set (K _ _ o)⟩
theorem told_a (d : Nat) {h : Hp} {p z cl size files : Nat} {T : Tb} {cells KW : Nat → Nat} {Q : V → Hp → Prop} (hz : ZobAt h z size files T) (hcl : h[cl]? = some (LN size cells)) (hs : size ≤ 1000) (hc : ∀ s, s < size → Cell (cells s))
    (hK : ∀ who, kx (fun s => if 1 < cells s % 8 ∧ cells s / 8 = who then T.P (cells s) s else 0) size = KW who)
    (r : ∀ h2 ko, Kp h h2 → h2[ko]? = some (LN 2 KW) → Run (Fd tab (d + 1)) b_law_told.tl.tl.tl.tl [some (.ref p), some (.ref z), some (.ref cl), some (N files), some (N size), some (N (kx (fun s => if cells s % 8 = 1 then T.P (cells s) s else 0) size)), some (.ref ko), some (N 1), none, none] h2 Q) :
    Run (Fd tab (d + 1)) b_law_told [some (.ref p), some (.ref z), some (.ref cl), some (N files), none, none, none, none, none, none] h Q := by
  have hlen : doLen h (.ref cl) = some (N size) := by
    have := len_list hcl (by rw [LV_len]; exact hs)
    rwa [LV_len] at this
  refine Run.step (xasn (elen (eloc rfl) hlen)) ?_
  obtain ⟨h1, e1, K1⟩ := told_pawns d hz hcl hs hc rfl
  refine Run.step (xasn e1) ?_
  refine Run.step (xasn (elist enil)) ?_
  have hk := get_app (get_new h1 (.list [])) [.tup [N 0, N 1]]
  have kt := get_new (h1 ++ [.list []]) (.tup [N 0, N 1])
  have K2 : Kp h1 (h1 ++ [.list []] ++ [.tup [N 0, N 1]]) := (Kp.app _ _).trans (Kp.app _ _)
  have n0 : (h1 ++ [O.list []]).length ≠ h1.length := by rw [List.length_append]; exact Nat.succ_ne_self _
  have K0 := K1.trans K2
  obtain ⟨h2, e2, X2, o2⟩ := told_turn d (who := 0) (hz.mono K0) (K0 _ _ hcl) hs hc hK hk (by decide) rfl
  have m2 : ∀ k o', h1[k]? = some o' → h2[k]? = some o' := fun k o' q => X2 _ _ (new_apart q (Nat.le_refl _)) (K2 _ _ q)
  have hcl2 := m2 _ _ (K1 _ _ hcl)
  obtain ⟨h3, e3, X3, o3⟩ := told_turn d (who := 1) ((hz.mono K1).mono m2) hcl2 hs hc hK o2 (by decide) rfl
  exact Run.step (loop_two e2 (X2 _ _ n0 kt) e3 (X3 _ _ n0 (X2 _ _ n0 kt))) (r h3 _ (K1.trans fun k o' q => X3 _ _ (new_apart q (Nat.le_refl _)) (m2 _ _ q)) o3)

theorem told_ep {F : FnT} {h : Hp} {p g z x size files side rights key : Nat} {T : Tb} {cells : Nat → Nat} {ep : Int} {a b c e f m : Option V} (hz : ZobAt h z size files T) (hp : PosAt h p g z size cells side rights ep key) (hf : files ≠ 0) (hf2 : files ≤ 1000) :
    ex tab F (.ite (.cmp .ge (.attr (.loc 0) 2) (.lit (.int 0))) (.cons (.aug 8 .bxor (.idx (.attr (.loc 1) 2) (.bin .mod (.attr (.loc 0) 2) (.loc 3)))) .nil) .nil)
      [some (.ref p), some (.ref z), a, some (N files), b, c, e, f, some (N x), m] h = some (.next, [some (.ref p), some (.ref z), a, some (N files), b, c, e, f, some (N (x ^^^ (if 0 ≤ ep then T.E (ep.fmod files).toNat else 0))), m], h) := by
  have hge : cmpV .ge (.int ep) (.int 0) h = some (decide (0 ≤ ep)) := rfl
  by_cases q : 0 ≤ ep
  · rw [if_pos q]
    exact xiteT (ecmp (pos_ep hp (eloc rfl)) elit hge) (tru q) (exs_one (xaug rfl (ep_of hz (eloc rfl) (ebin (pos_ep hp (eloc rfl)) (eloc rfl) (vop (op_imod hf))) (ep_lt hf) hf2) (op_bxor _ _)))
  · rw [if_neg q, Nat.xor_zero]
    exact xiteF (ecmp (pos_ep hp (eloc rfl)) elit hge) (fls q) exs_nil
theorem told_side {F : FnT} {h : Hp} {p g z x size files side rights key : Nat} {T : Tb} {cells : Nat → Nat} {ep : Int} {a b c e f k m : Option V} (hz : ZobAt h z size files T) (hp : PosAt h p g z size cells side rights ep key) :
    ex tab F (.ite (.cmp .eq (.attr (.loc 0) 4) (.lit (.int 1))) (.cons (.aug 8 .bxor (.attr (.loc 1) 4)) .nil) .nil)
      [some (.ref p), some (.ref z), a, k, b, c, e, f, some (N x), m] h = some (.next, [some (.ref p), some (.ref z), a, k, b, c, e, f, some (N (x ^^^ (if side = 1 then T.S else 0))), m], h) := by
  by_cases q : side = 1
  · rw [if_pos q]
    exact xiteT (ecmp (pos_side hp (eloc rfl)) elit (veq _ 1)) (tru q) (exs_one (xaug rfl (side_of hz (eloc rfl)) (op_bxor _ _)))
  · rw [if_neg q, Nat.xor_zero]
    exact xiteF (ecmp (pos_side hp (eloc rfl)) elit (veq _ 1)) (fls q) exs_nil
theorem told_b (d : Nat) {h : Hp} {p g z cl ko size files side rights key : Nat} {T : Tb} {cells KW : Nat → Nat} {ep : Int} {Q : V → Hp → Prop} (hz : ZobAt h z size files T) (hg : GeoAt h g size files) (hp : PosAt h p g z size cells side rights ep key)
    (hf : files ≠ 0) (hf2 : files ≤ 1000) (hs : size ≤ 1000) (hr : rights < 16) (hc : ∀ s, s < size → Cell (cells s)) (hkey : key = kx (fun s => if cells s ≠ 0 then T.P (cells s) s else 0) size)
    (hK : ∀ who, kx (fun s => if 1 < cells s % 8 ∧ cells s / 8 = who then T.P (cells s) s else 0) size = KW who) (o : h[ko]? = some (LN 2 KW))
    (r : ∀ l, l = [some (.ref p), some (.ref z), some (.ref cl), some (N files), some (N size), some (N (kx (fun s => if cells s % 8 = 1 then T.P (cells s) s else 0) size)), some (.ref ko), some (N 1), some (N (sk T files side rights ep)), none] →
      Run (Fd tab (d + 3)) b_law_told.tl.tl.tl.tl.tl.tl.tl.tl.tl l (h ++ [.list [N (KW 0), N (KW 1)]]) Q) :
    Run (Fd tab (d + 3)) b_law_told.tl.tl.tl.tl [some (.ref p), some (.ref z), some (.ref cl), some (N files), some (N size), some (N (kx (fun s => if cells s % 8 = 1 then T.P (cells s) s else 0) size)), some (.ref ko), some (N 1), none, none] h Q := by
  refine Run.step (xasn (rights_of hz (eloc rfl) (pos_rights hp (eloc rfl)) hr)) ?_
  refine Run.step (told_ep hz hp hf hf2) ?_
  refine Run.step (told_side hz hp) ?_
  have hn0 := f_non_pawn_key (d + 1) (who := 0) hz hp hs hc
  have hn1 := f_non_pawn_key (d + 1) (who := 1) hz hp hs hc
  rw [hK] at hn0 hn1
  have K := Kp.app h [.list [N (KW 0), N (KW 1)]]
  have hl : (h ++ [O.list [N (KW 0), N (KW 1)]])[h.length]? = some (LN 2 KW) := get_new _ _
  have ce := (cmp_LN hl (K _ _ o) (by decide)).2
  refine Run.step (xiteF (eorF (ecmp (ecall (econs (eloc rfl) enil) (f_pawn_key (d + 1) hz hp hs hc)) (eloc rfl) (vne _ _)) (fnt rfl)
    (eorF (ecmp (elist (econs (ecall (econs (eloc rfl) (econs elit enil)) hn0) (econs (ecall (econs (eloc rfl) (econs elit enil)) hn1) enil))) (eloc rfl) ce) (fnt fun _ _ => rfl)
      (ecmp (ecall (econs (eloc rfl) enil) (f_state_key (d + 2) (hz.mono K) (hg.mono K) (hp.mono K) hf hf2 hr)) (eloc rfl) (vne _ _)))) (fnt rfl) exs_nil) ?_
  have hkp := hkey.trans (parts hc)
  rw [hK, hK] at hkp
  have hfk := f_full_key (d + 1) (hz.mono K) (hg.mono K) (hp.mono K) hf hf2 hs hr hc
  rw [← hkey, Nat.xor_comm] at hfk
  exact Run.step (xiteF (eorF (ecmp (pos_key (hp.mono K) (eloc rfl)) (ebin (ebin (eloc rfl) (eidx (eloc rfl) elit (getIdx_LN (i := 0) (K _ _ o) (by decide) (by decide))) vxor) (eidx (eloc rfl) elit (getIdx_LN (i := 1) (K _ _ o) (by decide) (by decide))) vxor) (vne _ _)) (fnt hkp)
    (ecmp (ecall (econs (eloc rfl) enil) hfk) (ebin (pos_key (hp.mono K) (eloc rfl)) (eloc rfl) vxor) (vne _ _))) (fnt rfl) exs_nil) (r _ rfl)
theorem told_rows {F : FnT} {h : Hp} {z cl size files : Nat} {T : Tb} {cells : Nat → Nat} {a b c e f g v1 v2 : Option V} (hz : ZobAt h z size files T) (hcl : h[cl]? = some (LN size cells)) (hs : size ≤ 1000)
    (hkm : h[0]? = some (.tup [N 1, N 2, N 3, N 4, N 5, N 9, N 10, N 11, N 12, N 13])) :
    ∃ h1 rw k0, ev tab F (.comp (.slTo (.idx (.attr (.loc 1) 1) (.loc 10)) (.count (.loc 2) (.loc 10))) (.bin .add (.tup (.cons (.lit (.int 6)) (.cons (.lit (.int 14)) .nil))) (.lit (.ref 0)))) [a, some (.ref z), some (.ref cl), b, c, e, f, g, v1, v2] h = some (.ref rw, h1) ∧
      Kp h h1 ∧ h1[rw]? = some (LV menL.length fun i => .ref (k0 + i)) ∧ ∀ j m, menL[j]? = some m → h1[k0 + j]? = some (LN (cnt cells m size) (T.P m)) := by
  have K := Kp.app h [.tup [N 6, N 14]]
  have ad := add_tup (get_new h (.tup [N 6, N 14])) (K _ _ hkm) (by decide)
  have K5 := K.trans (Kp.app _ [.tup (menL.map N)])
  have kt := get_new (h ++ [.tup [N 6, N 14]]) (.tup (menL.map N))
  have x : ev tab F (.bin .add (.tup (.cons (.lit (.int 6)) (.cons (.lit (.int 14)) .nil))) (.lit (.ref 0))) [a, some (.ref z), some (.ref cl), b, c, e, f, g, v1, v2] h = some (.ref (h ++ [O.tup [N 6, N 14]]).length, h ++ [.tup [N 6, N 14]] ++ [.tup (menL.map N)]) :=
    ebin (etup (econs elit (econs elit enil))) elit ad
  generalize (h ++ [O.tup [N 6, N 14]]).length = kt0 at kt x
  generalize (h ++ [O.tup [N 6, N 14]] ++ [.tup (menL.map N)]) = h5 at K5 kt x
  obtain ⟨h6, e6, K6, n6, r6⟩ := comp_list (f := mapF tab F (.slTo (.idx (.attr (.loc 1) 1) (.loc 10)) (.count (.loc 2) (.loc 10))) [a, some (.ref z), some (.ref cl), b, c, e, f, g, v1, v2]) (vs := menL.map N) rfl (fun i => some (.ref (h5.length + i)))
    (fun i h' => Kp h5 h' ∧ h'.length = h5.length + i ∧ ∀ j m, j < i → menL[j]? = some m → h'[h5.length + j]? = some (LN (cnt cells m size) (T.P m)))
    ⟨Kp.refl _, rfl, fun j m hj => absurd hj (Nat.not_lt_zero _)⟩ (by decide) (.inr fun i h' hh => hh.1 _ _ kt) (fun i v h' hv hh => by
      obtain ⟨K', hl, hr⟩ := hh
      rw [List.getElem?_map] at hv
      obtain ⟨m, hm, hv⟩ := Option.map_eq_some_iff.mp hv
      subst hv
      have m0 := men_le m (List.mem_of_getElem? hm)
      have hc : Cell m := ⟨m0.1, m0.2.2, fun q => by rw [q] at m0; exact m0.2.1 rfl⟩
      have K1 := K5.trans K'
      obtain ⟨r, e1, e2⟩ := row_of (F := F) (o := .loc 1) (i := .loc 10) (l := [a, some (.ref z), some (.ref cl), b, c, e, f, g, v1, v2] ++ [some (N m)]) (hz.mono K1) (eloc rfl) (eloc (i := 10) rfl) m0.1
      rw [hc.rl m0.2.1] at e2
      refine ⟨_, ?_, K'.trans (Kp.app _ [LN (cnt cells m size) (T.P m)]), by rw [List.length_append, hl]; rfl, fun j m' hj hm' => ?_⟩
      · rw [← hl]
        exact cstep (eslTo e1 (ecount (eloc rfl) (getL_LV (K1 _ _ hcl)) (eloc rfl) (count_LN (K1 _ _ hcl))) (cut_to e2 (cnt_le _ _ _) hs))
      · rcases Nat.lt_or_ge j i with q | q
        · exact get_app (hr j m' q hm') _
        · obtain rfl : j = i := Nat.le_antisymm (Nat.le_of_lt_succ hj) q
          rw [hm] at hm'
          obtain rfl := Option.some.inj hm'
          rw [← hl]
          exact get_new _ _)
  rw [all_some] at e6
  exact ⟨_, _, _, ecomp x e6, K5.trans (K6.trans (Kp.app _ _)), get_new _ _, fun j m q => get_app (r6 j m (by rw [List.length_map]; exact (List.getElem?_eq_some_iff.mp q).1) q) _⟩
theorem told_last (d : Nat) {h : Hp} {rw k0 size : Nat} {T : Tb} {cells : Nat → Nat} {a b c e f g v1 v2 v3 : Option V} (hc : ∀ s, s < size → Cell (cells s)) (hs : size ≤ 1000) (hr : h[rw]? = some (LV menL.length fun i => .ref (k0 + i)))
    (hm : ∀ j m, menL[j]? = some m → h[k0 + j]? = some (LN (cnt cells m size) (T.P m))) :
    ∃ h1, ev tab (Fd tab (d + 1)) (.call 27 (.cons (.comp (.call 27 (.cons (.loc 10) .nil)) (.loc 9)) .nil)) [a, b, c, e, f, g, v1, v2, v3, some (.ref rw)] h = some (N (mkey T cells size), h1) ∧ Kp h h1 := by
  obtain ⟨h9, e9, rfl⟩ := comp_list (f := mapF tab (Fd tab (d + 1)) (.call 27 (.cons (.loc 10) .nil)) [a, b, c, e, f, g, v1, v2, v3, some (.ref rw)]) (b := rw) (h := h) (vs := (List.range menL.length).map fun i => .ref (k0 + i)) rfl
    (fun i => some (N (xl ((List.range (cnt cells (menL.getD i 0) size)).map (T.P (menL.getD i 0))))))
    (fun i h' => h' = h) rfl (by rw [List.length_map, List.length_range]; decide) (.inl fun i h' hh => by subst hh; exact hr) (fun i v h' hv hh => by
      subst hh
      rw [List.getElem?_map] at hv
      obtain ⟨j, hj, rfl⟩ := Option.map_eq_some_iff.mp hv
      obtain ⟨hi, rfl⟩ := List.getElem?_eq_some_iff.mp hj
      rw [List.getElem_range] at *
      rw [List.length_range] at hi
      have r8 := hm i (menL.getD i 0) (by rw [List.getD_eq_getElem?_getD, List.getElem?_eq_getElem hi]; rfl)
      rw [LN_map] at r8
      exact ⟨_, cstep (ecall (econs (eloc rfl) enil) (f_law_xor d r8 (by rw [List.length_map, List.length_range]; exact Nat.le_trans (cnt_le _ _ _) hs))), rfl⟩)
  rw [all_some, List.length_map, List.length_range] at e9
  have e : ((List.range menL.length).map fun i => xl ((List.range (cnt cells (menL.getD i 0) size)).map (T.P (menL.getD i 0)))) = menL.map fun m => kx (T.P m) (cnt cells m size) := by
    simp only [xl_range]; rfl
  have e' : ((List.range menL.length).map fun i => N (xl ((List.range (cnt cells (menL.getD i 0) size)).map (T.P (menL.getD i 0))))) = (menL.map fun m => kx (T.P m) (cnt cells m size)).map N := by
    rw [← e, List.map_map]; rfl
  rw [e'] at e9
  have x9 := f_law_xor d (get_new h9 (.list ((menL.map fun m => kx (T.P m) (cnt cells m size)).map N))) (by rw [List.length_map]; decide)
  rw [← mkey_men hc] at x9
  exact ⟨_, ecall (econs (ecomp (eloc rfl) e9) enil) x9, Kp.app _ _⟩

theorem f_law_told (d : Nat) {h : Hp} {p g z cl size files : Nat} {T : Tb} {cells : Nat → Nat} {side rights key : Nat} {ep : Int} (hz : ZobAt h z size files T) (hg : GeoAt h g size files) (hp : PosAt h p g z size cells side rights ep key)
    (hcl : h[cl]? = some (LN size cells)) (hkm : h[0]? = some (.tup [N 1, N 2, N 3, N 4, N 5, N 9, N 10, N 11, N 12, N 13]))
    (hf : files ≠ 0) (hf2 : files ≤ 1000) (hs : size ≤ 50) (hr : rights < 16) (hc : ∀ s, s < size → Cell (cells s)) (hkey : key = kx (fun s => if cells s ≠ 0 then T.P (cells s) s else 0) size) :
    ∃ h', Fd tab (d + 4) 31 [.ref p, .ref z, .ref cl, N files] h = some (.bool true, h') ∧ Kx p h h' ∧ PosAt h' p g z size cells side rights ep (fkey T size files side rights ep cells) := by
  have hs : size ≤ 1000 := Nat.le_trans hs (by decide)
  have key : ∃ v h', Fd tab (d + 4) 31 [.ref p, .ref z, .ref cl, N files] h = some (v, h') ∧ (v = .bool true ∧ Kx p h h' ∧ PosAt h' p g z size cells side rights ep (fkey T size files side rights ep cells)) := by
    refine fd_run rfl rfl ?_
    show Run _ b_law_told [some (.ref p), some (.ref z), some (.ref cl), some (N files), none, none, none, none, none, none] _ _
    refine told_a (d + 2) hz hcl hs hc (fun _ => rfl) fun h2 ko K2 o2 => ?_
    refine told_b d (hz.mono K2) (hg.mono K2) (hp.mono K2) hf hf2 hs hr hc hkey (fun _ => rfl) o2 fun l hl => ?_
    subst hl
    have K3 := K2.trans (Kp.app h2 [.list [N (kx (fun s => if 1 < cells s % 8 ∧ cells s / 8 = 0 then T.P (cells s) s else 0) size), N (kx (fun s => if 1 < cells s % 8 ∧ cells s / 8 = 1 then T.P (cells s) s else 0) size)]])
    generalize h2 ++ [O.list [N (kx (fun s => if 1 < cells s % 8 ∧ cells s / 8 = 0 then T.P (cells s) s else 0) size), N (kx (fun s => if 1 < cells s % 8 ∧ cells s / 8 = 1 then T.P (cells s) s else 0) size)]] = h3 at K3
    obtain ⟨fs, q, -⟩ := pos_at (hp.mono K3)
    obtain ⟨h4, e4, X4, hp4⟩ := f_settle_key d (hz.mono K3) (hg.mono K3) (hp.mono K3) hf hf2 hs hr hc
    refine Run.step (xexpr (ecall (econs (eloc rfl) enil) e4)) ?_
    have hz4 := (hz.mono K3).monoX q X4
    have hg4 := (hg.mono K3).monoX q X4
    have hcl4 := X4 _ _ (ne_of (K3 _ _ hcl) q (by intro x; cases x)) (K3 _ _ hcl)
    have hkm4 := X4 _ _ (ne_of (K3 _ _ hkm) q (by intro x; cases x)) (K3 _ _ hkm)
    obtain ⟨h7, rw7, k0, e7, K7, r7, m7⟩ := told_rows hz4 hcl4 hs hkm4
    refine Run.step (xasn e7) ?_
    have hfk := f_full_key (d + 1) (hz4.mono K7) (hg4.mono K7) (hp4.mono K7) hf hf2 hs hr hc
    obtain ⟨h8, e8, K8⟩ := f_material_key (d + 1) (hz4.mono K7) (hp4.mono K7) hs hc
    obtain ⟨h9, e9, K9⟩ := told_last (d + 2) hc hs (K8 _ _ r7) (fun j m q => K8 _ _ (m7 j m q))
    have K := K7.trans (K8.trans K9)
    refine Run.out (eandT (ecmp (pos_key (hp4.mono K7) (eloc rfl)) (ecall (econs (eloc rfl) enil) hfk) (veq _ _)) (tru rfl) (ecmp (ecall (econs (eloc rfl) enil) e8) e9 (veq _ _))) ⟨?_, ((K3.x p).trans X4).trans (K.x p), hp4.mono K⟩
    rw [decide_eq_true rfl]
  obtain ⟨v, h', e, rfl, q⟩ := key
  exact ⟨h', e, q⟩

end Mz
end

section
open PySem PySem.W PyProof.Rows
set_option Elab.async false
set_option autoImplicit false

set_option tactic.hygienic false

namespace Mz

theorem comp_LVpure {f : V → Hp → Option (Option V × Hp)} {b n : Nat} {g : Nat → V} {h : Hp} {C : Option (V × Hp)} (hC : compAll f (.ref b) h = C) (hb : h[b]? = some (LV n g)) (r : Nat → V) (hn : n ≤ 1000)
    (step : ∀ i, i < n → f (g i) h = some (some (r i), h)) : C = some (.ref h.length, h ++ [LV n r]) := by
  obtain ⟨h', e, rfl⟩ := comp_list (vs := (List.range n).map g) hC (fun i => some (r i)) (fun i h' => h' = h) rfl (by simpa using hn) (.inl fun i h' hh => by subst hh; exact hb) (fun i v h' hv hh => by
    subst hh
    have hi : i < n := by
      have := lt_of' hv
      simpa using this
    rw [List.getElem?_map, List.getElem?_range hi] at hv
    obtain rfl : g i = v := Option.some.inj hv
    exact ⟨_, step i hi, rfl⟩)
  rw [e, all_some]
  simp only [List.length_map, List.length_range]

theorem two_lists {f : V → Hp → Option (Option V × Hp)} {kt one two size : Nat} {c1 c2 r1 r2 : Nat → Nat} {h : Hp} {C : Option (V × Hp)} (hC : compAll f (.ref kt) h = C) (ht : h[kt]? = some (.tup [.ref one, .ref two]))
    (s1 : ∀ hx, Kp h hx → f (.ref one) hx = some (some (.ref hx.length), hx ++ [LN size r1])) (s2 : ∀ hx, Kp h hx → f (.ref two) hx = some (some (.ref hx.length), hx ++ [LN size r2])) :
    ∃ k a b h1, C = some (.ref k, h1) ∧ h1[k]? = some (.list [.ref a, .ref b]) ∧ h1[a]? = some (LN size r1) ∧ h1[b]? = some (LN size r2) ∧ Kp h h1 := by
  obtain ⟨h', e, K, hl, x1, x2⟩ := comp_list (vs := [.ref one, .ref two]) hC (fun i => some (.ref (h.length + i)))
    (fun i h' => Kp h h' ∧ h'.length = h.length + i ∧ (0 < i → h'[h.length]? = some (LN size r1)) ∧ (1 < i → h'[h.length + 1]? = some (LN size r2)))
    ⟨Kp.refl _, rfl, by first | assumption | exact Nat.le_of_lt ‹_› | exact Nat.lt_succ_of_lt ‹_› | exact Nat.ne_of_lt ‹_› | exact Nat.ne_of_gt ‹_› | exact Nat.le_trans ‹_› (by decide) | exact Nat.lt_of_lt_of_le ‹_› (by decide) | decide | omega, by first | assumption | exact Nat.le_of_lt ‹_› | exact Nat.lt_succ_of_lt ‹_› | exact Nat.ne_of_lt ‹_› | exact Nat.ne_of_gt ‹_› | exact Nat.le_trans ‹_› (by decide) | exact Nat.lt_of_lt_of_le ‹_› (by decide) | decide | omega⟩ (by simp) (.inr fun i h' hh => hh.1 _ _ ht) (fun i v h' hv hh => by
      obtain ⟨K, hl, x1, x2⟩ := hh
      match i, hv with
      | 0, hv =>
        obtain rfl : V.ref one = v := Option.some.inj hv
        refine ⟨_, by rw [s1 h' K, hl], K.trans (Kp.app _ _), by simp [hl], fun _ => ?_, by first | assumption | exact Nat.le_of_lt ‹_› | exact Nat.lt_succ_of_lt ‹_› | exact Nat.ne_of_lt ‹_› | exact Nat.ne_of_gt ‹_› | exact Nat.le_trans ‹_› (by decide) | exact Nat.lt_of_lt_of_le ‹_› (by decide) | decide | omega⟩
        have := get_new h' (LN size r1)
        rwa [hl] at this
      | 1, hv =>
        obtain rfl : V.ref two = v := Option.some.inj hv
        refine ⟨_, by rw [s2 h' K, hl], K.trans (Kp.app _ _), by simp [hl], fun _ => get_app (x1 (by simp)) _, fun _ => ?_⟩
        have := get_new h' (LN size r2)
        rwa [hl] at this
      | n + 2, hv => simp at hv)
  have x1 := x1 (by simp)
  have x2 := x2 (by simp)
  exact ⟨_, _, _, _, e, get_new _ _, get_app x1 _, get_app x2 _, K.trans (Kp.app _ _)⟩

theorem data_intsI (h : Hp) : ∀ (n : Nat) (xs : List Int), xs.length < n → dataAll n h (xs.map V.int) = some (xs.map PyData.int)
  | 0, _, e => by first | assumption | exact Nat.le_of_lt ‹_› | exact Nat.lt_succ_of_lt ‹_› | exact Nat.ne_of_lt ‹_› | exact Nat.ne_of_gt ‹_› | exact Nat.le_trans ‹_› (by decide) | exact Nat.lt_of_lt_of_le ‹_› (by decide) | decide | omega
  | n + 1, [], _ => rfl
  | n + 1, x :: r, e => by
    rw [List.length_cons] at e
    have ih := data_intsI h n r (by first | assumption | exact Nat.le_of_lt ‹_› | exact Nat.lt_succ_of_lt ‹_› | exact Nat.ne_of_lt ‹_› | exact Nat.ne_of_gt ‹_› | exact Nat.le_trans ‹_› (by decide) | exact Nat.lt_of_lt_of_le ‹_› (by decide) | decide | omega)
    obtain ⟨m, rfl⟩ : ∃ m, n = m + 1 := ⟨n - 1, by first | assumption | exact Nat.le_of_lt ‹_› | exact Nat.lt_succ_of_lt ‹_› | exact Nat.ne_of_lt ‹_› | exact Nat.ne_of_gt ‹_› | exact Nat.le_trans ‹_› (by decide) | exact Nat.lt_of_lt_of_le ‹_› (by decide) | decide | omega⟩
    simp only [List.map_cons, dataAll, dataOf, ih]
theorem data_listI {h : Hp} {k : Nat} {xs : List Int} (hk : h[k]? = some (.list (xs.map V.int))) {n : Nat} (hn : xs.length < n) : dataOf (n + 1) h (.ref k) = some (.list (xs.map PyData.int)) := by
  simp only [dataOf, hk, data_intsI h n xs hn, Option.map_some]
theorem eqv_intsI : ∀ (xs ys : List Int), PyData.eqv (.list (xs.map PyData.int)) (.list (ys.map PyData.int)) = decide (xs = ys) := by
  intro xs ys
  rw [PyData.eqv]
  induction xs generalizing ys with
  | nil =>
    cases ys with
    | nil => rfl
    | cons y r => rfl
  | cons x r ih =>
    cases ys with
    | nil => rfl
    | cons y t =>
      simp only [List.map_cons, PyData.eqvAll, PyData.eqv, ih]
      by_cases h : x = y <;> by_cases h' : r = t <;> simp [h, h']
theorem cmp_intsI {h : Hp} {j k : Nat} {xs ys : List Int} (hj : h[j]? = some (.list (xs.map V.int))) (hk : h[k]? = some (.list (ys.map V.int))) (h1 : xs.length ≤ 50) (h2 : ys.length ≤ 50) :
    cmpV .eq (.ref j) (.ref k) h = some (decide (xs = ys)) := by
  have e1 := data_listI hj (n := 59) (by first | assumption | exact Nat.le_of_lt ‹_› | exact Nat.lt_succ_of_lt ‹_› | exact Nat.ne_of_lt ‹_› | exact Nat.ne_of_gt ‹_› | exact Nat.le_trans ‹_› (by decide) | exact Nat.lt_of_lt_of_le ‹_› (by decide) | decide | omega)
  have e2 := data_listI hk (n := 59) (by first | assumption | exact Nat.le_of_lt ‹_› | exact Nat.lt_succ_of_lt ‹_› | exact Nat.ne_of_lt ‹_› | exact Nat.ne_of_gt ‹_› | exact Nat.le_trans ‹_› (by decide) | exact Nat.lt_of_lt_of_le ‹_› (by decide) | decide | omega)
  simp only [cmpV, e1, e2, eqv_intsI]

theorem sorted_LN {h : Hp} {k n : Nat} {f : Nat → Nat} (hk : h[k]? = some (LN n f)) (hn : n < 64) : mkSorted h (.ref k) = some (.ref h.length, h ++ [.list ((sortI ((List.range n).map fun s => ((f s : Nat) : Int))).map V.int)]) := by
  have e : getL h (.ref k) = some (((List.range n).map f).map N) := by
    rw [LN_map] at hk
    exact getL_of hk
  simp only [mkSorted, e, ints_mapN, List.length_map, List.length_range, hn, if_true]
  rw [List.map_map]
  rfl
theorem sort_len (l : List Int) : (sortI l).length = l.length := (sort_perm l).length_eq

theorem f_law_alike (d : Nat) {h : Hp} {p q g z one two size files : Nat} {T : Tb} {c1 c2 : Nat → Nat} {s1 r1 s2 r2 : Nat} {e1 e2 : Int} (Ow : Own T size files) (hz : ZobAt h z size files T) (hg : GeoAt h g size files)
    (hp : PosAt h p g z size c1 s1 r1 e1 (fkey T size files s1 r1 e1 c1)) (hq : PosAt h q g z size c2 s2 r2 e2 (fkey T size files s2 r2 e2 c2)) (ho : h[one]? = some (LN size c1)) (ht : h[two]? = some (LN size c2))
    (hf : files ≠ 0) (hf2 : files ≤ 1000) (hs : size ≤ 50) (hr1 : r1 < 16) (hr2 : r2 < 16) (hs1 : s1 < 2) (hs2 : s2 < 2) (hc1 : ∀ s, s < size → Cell (c1 s)) (hc2 : ∀ s, s < size → Cell (c2 s)) :
    ∃ h', Fd tab (d + 3) 32 [.ref one, .ref two, .ref p, .ref q, N files] h = some (.bool true, h') := by
  have hs' : size ≤ 1000 := by first | assumption | exact Nat.le_of_lt ‹_› | exact Nat.lt_succ_of_lt ‹_› | exact Nat.ne_of_lt ‹_› | exact Nat.ne_of_gt ‹_› | exact Nat.le_trans ‹_› (by decide) | exact Nat.lt_of_lt_of_le ‹_› (by decide) | decide | omega
  have hd1 : ∀ s, s < size → c1 s < 15 := fun s h => (hc1 s h).1
  have hd2 : ∀ s, s < size → c2 s < 15 := fun s h => (hc2 s h).1
  have key : ∃ v h', Fd tab (d + 3) 32 [.ref one, .ref two, .ref p, .ref q, N files] h = some (v, h') ∧ v = .bool true := by
    refine fd_run rfl rfl ?_
    show Run _ b_law_alike _ _ _
    unfold b_law_alike
    simp only [List.map_cons, List.map_nil, List.cons_append, List.nil_append, List.replicate_succ, List.replicate_zero, Nat.reduceSub]
    refine Run.cons ?_
    -- the pawns
    simp only [exs, exasn, exasn2, exsetattr, exsetidx, exaug, exaugidx, exaugattr, exite, exloop, exret, exexpr, exfail, evlit, evloc, evbin, evneg, evinv, evnot, evand, evor, evcmp, evcmp2, evmem, evite, evcall, evnew, evmeth, evlen, evlistOf, evsorted, evrng1, evrng2, evrng3, evappend, evcount, evattr, evidx, evslTo, evslFrom, evslBt, evrev, evlist, evtup, evcomp, evcompIf, evs, opV_int, t_bool, truthy_int, cmpV_int, cmpV_bool_eq, cmpV_bool_ne, runFn, getA, lookupA, storeA, Option.map_some, List.getElem?_cons_zero, List.getElem?_cons_succ, List.set_cons_zero, List.set_cons_succ, List.cons_append, List.nil_append, vlit, op_add, op_band, op_bor, op_bxor, op_shr, c_eq, c_ne, c_lt, c_le, c_gt, c_ge, List.length_cons, List.length_nil, List.map_cons, List.map_nil, Nat.zero_add, Nat.add_zero, reduceIte, List.replicate_succ, List.replicate_zero, Nat.reduceAdd, Nat.reduceSub, Nat.reduceEqDiff, Nat.sub_self, decide_true, decide_false, eq_self, Bool.not_true, Bool.not_false, beq_self_eq_true]
    generalize hC : compAll _ _ _ = C
    obtain ⟨k5, a5, b5, h1, rfl, l5, x5, y5, K1⟩ := two_lists (size := size) (r1 := fun i => if c1 i % 8 = 1 then c1 i else 0) (r2 := fun i => if c2 i % 8 = 1 then c2 i else 0) (c1 := c1) (c2 := c2) hC (get_new _ _) (fun hx K => by
      generalize hD : compAll _ _ _ = D
      have := comp_LVpure hD (K _ _ (get_app ho _)) (fun i => N (if c1 i % 8 = 1 then c1 i else 0)) hs' (fun i hi => by
        have m8 := op_mod (a := c1 i) (b := 8) (by decide)
        by_cases h0 : c1 i % 8 = 1 <;> simp only [exs, exasn, exasn2, exsetattr, exsetidx, exaug, exaugidx, exaugattr, exite, exloop, exret, exexpr, exfail, evlit, evloc, evbin, evneg, evinv, evnot, evand, evor, evcmp, evcmp2, evmem, evite, evcall, evnew, evmeth, evlen, evlistOf, evsorted, evrng1, evrng2, evrng3, evappend, evcount, evattr, evidx, evslTo, evslFrom, evslBt, evrev, evlist, evtup, evcomp, evcompIf, evs, opV_int, t_bool, truthy_int, cmpV_int, cmpV_bool_eq, cmpV_bool_ne, runFn, getA, lookupA, storeA, Option.map_some, List.getElem?_cons_zero, List.getElem?_cons_succ, List.set_cons_zero, List.set_cons_succ, List.cons_append, List.nil_append, vlit, op_add, op_band, op_bor, op_bxor, op_shr, c_eq, c_ne, c_lt, c_le, c_gt, c_ge, List.length_cons, List.length_nil, List.map_cons, List.map_nil, Nat.zero_add, Nat.add_zero, reduceIte, List.replicate_succ, List.replicate_zero, Nat.reduceAdd, Nat.reduceSub, Nat.reduceEqDiff, Nat.sub_self, decide_true, decide_false, eq_self, Bool.not_true, Bool.not_false, beq_self_eq_true, m8, h0])
      subst this
      rfl) (fun hx K => by
      generalize hD : compAll _ _ _ = D
      have := comp_LVpure hD (K _ _ (get_app ht _)) (fun i => N (if c2 i % 8 = 1 then c2 i else 0)) hs' (fun i hi => by
        have m8 := op_mod (a := c2 i) (b := 8) (by decide)
        by_cases h0 : c2 i % 8 = 1 <;> simp only [exs, exasn, exasn2, exsetattr, exsetidx, exaug, exaugidx, exaugattr, exite, exloop, exret, exexpr, exfail, evlit, evloc, evbin, evneg, evinv, evnot, evand, evor, evcmp, evcmp2, evmem, evite, evcall, evnew, evmeth, evlen, evlistOf, evsorted, evrng1, evrng2, evrng3, evappend, evcount, evattr, evidx, evslTo, evslFrom, evslBt, evrev, evlist, evtup, evcomp, evcompIf, evs, opV_int, t_bool, truthy_int, cmpV_int, cmpV_bool_eq, cmpV_bool_ne, runFn, getA, lookupA, storeA, Option.map_some, List.getElem?_cons_zero, List.getElem?_cons_succ, List.set_cons_zero, List.set_cons_succ, List.cons_append, List.nil_append, vlit, op_add, op_band, op_bor, op_bxor, op_shr, c_eq, c_ne, c_lt, c_le, c_gt, c_ge, List.length_cons, List.length_nil, List.map_cons, List.map_nil, Nat.zero_add, Nat.add_zero, reduceIte, List.replicate_succ, List.replicate_zero, Nat.reduceAdd, Nat.reduceSub, Nat.reduceEqDiff, Nat.sub_self, decide_true, decide_false, eq_self, Bool.not_true, Bool.not_false, beq_self_eq_true, m8, h0])
      subst this
      rfl)
    clear hC
    refine ⟨_, _, rfl, Run.cons ?_⟩
    have K1 := (Kp.app _ _).trans K1
    have hz1 := hz.mono K1
    have hg1 := hg.mono K1
    have hp1 := hp.mono K1
    have hq1 := hq.mono K1
    have ho1 := K1 _ _ ho
    have ht1 := K1 _ _ ht
    clear hz hg hp hq ho ht K1
    have hpk := f_pawn_key d hz1 hp1 hs' hc1
    have hqk := f_pawn_key d hz1 hq1 hs' hc2
    have idx : ∀ {k a b : Nat} {hh : Hp}, hh[k]? = some (.list [.ref a, .ref b]) → getIdx hh (.ref k) (.int ((0 : Nat) : Int)) = some (.ref a) ∧ getIdx hh (.ref k) (.int ((1 : Nat) : Int)) = some (.ref b) := fun {k a b hh} e => by simp [getIdx, e]
    have ce := (cmp_LN x5 y5 hs).1
    have hpe : decide (kx (fun s => if c1 s % 8 = 1 then T.P (c1 s) s else 0) size = kx (fun s => if c2 s % 8 = 1 then T.P (c2 s) s else 0) size) = decide (∀ s, s < size → (if c1 s % 8 = 1 then c1 s else 0) = if c2 s % 8 = 1 then c2 s else 0) :=
      decide_eq_decide.mpr (kt_iff Ow (fun c => c % 8 = 1) (fun c h e => by subst e; simp at h) hd1 hd2)
    simp only [exs, exasn, exasn2, exsetattr, exsetidx, exaug, exaugidx, exaugattr, exite, exloop, exret, exexpr, exfail, evlit, evloc, evbin, evneg, evinv, evnot, evand, evor, evcmp, evcmp2, evmem, evite, evcall, evnew, evmeth, evlen, evlistOf, evsorted, evrng1, evrng2, evrng3, evappend, evcount, evattr, evidx, evslTo, evslFrom, evslBt, evrev, evlist, evtup, evcomp, evcompIf, evs, opV_int, t_bool, truthy_int, cmpV_int, cmpV_bool_eq, cmpV_bool_ne, runFn, getA, lookupA, storeA, Option.map_some, List.getElem?_cons_zero, List.getElem?_cons_succ, List.set_cons_zero, List.set_cons_succ, List.cons_append, List.nil_append, vlit, op_add, op_band, op_bor, op_bxor, op_shr, c_eq, c_ne, c_lt, c_le, c_gt, c_ge, List.length_cons, List.length_nil, List.map_cons, List.map_nil, Nat.zero_add, Nat.add_zero, reduceIte, List.replicate_succ, List.replicate_zero, Nat.reduceAdd, Nat.reduceSub, Nat.reduceEqDiff, Nat.sub_self, decide_true, decide_false, eq_self, Bool.not_true, Bool.not_false, beq_self_eq_true, hpk, hqk, (idx l5).1, (idx l5).2, ce, hpe]
    refine ⟨_, _, rfl, Run.cons ?_⟩
    clear hpk hqk ce hpe
    -- the other men
    simp only [exs, exasn, exasn2, exsetattr, exsetidx, exaug, exaugidx, exaugattr, exite, exloop, exret, exexpr, exfail, evlit, evloc, evbin, evneg, evinv, evnot, evand, evor, evcmp, evcmp2, evmem, evite, evcall, evnew, evmeth, evlen, evlistOf, evsorted, evrng1, evrng2, evrng3, evappend, evcount, evattr, evidx, evslTo, evslFrom, evslBt, evrev, evlist, evtup, evcomp, evcompIf, evs, opV_int, t_bool, truthy_int, cmpV_int, cmpV_bool_eq, cmpV_bool_ne, runFn, getA, lookupA, storeA, Option.map_some, List.getElem?_cons_zero, List.getElem?_cons_succ, List.set_cons_zero, List.set_cons_succ, List.cons_append, List.nil_append, vlit, op_add, op_band, op_bor, op_bxor, op_shr, c_eq, c_ne, c_lt, c_le, c_gt, c_ge, List.length_cons, List.length_nil, List.map_cons, List.map_nil, Nat.zero_add, Nat.add_zero, reduceIte, List.replicate_succ, List.replicate_zero, Nat.reduceAdd, Nat.reduceSub, Nat.reduceEqDiff, Nat.sub_self, decide_true, decide_false, eq_self, Bool.not_true, Bool.not_false, beq_self_eq_true]
    generalize hL : loopAll _ _ _ _ _ = L
    have kt0 := get_new h1 (.tup [N 0, N 1])
    have kt3 := Kp.app h1 [.tup [N 0, N 1]]
    generalize (h1 ++ [O.tup [N 0, N 1]]) = h1' at hL kt0 kt3
    generalize h1.length = kt at hL kt0
    obtain ⟨l', h2, rfl, x, y, rfl, K2, -⟩ := loop_tup (vs := [N 0, N 1]) hL
      (fun i l h' => ∃ x y, l = [some (.ref one), some (.ref two), some (.ref p), some (.ref q), some (N files), some (.ref k5), x, y, none, none] ∧ Kp h1 h' ∧ h'[kt]? = some (.tup [N 0, N 1]))
      ⟨none, none, rfl, kt3, kt0⟩ (by simp) (fun i l h' hh => by obtain ⟨x, y, _, _, q⟩ := hh; exact q) (fun i v l h' hv hh => by
        obtain ⟨x, y, rfl, K, tt⟩ := hh
        obtain ⟨hi, rfl⟩ : i < 2 ∧ v = N i := by
          match i, hv with
          | 0, hv => exact ⟨by decide, (Option.some.inj hv).symm⟩
          | 1, hv => exact ⟨by decide, (Option.some.inj hv).symm⟩
          | n + 2, hv => simp at hv
        simp only [exs, exasn, exasn2, exsetattr, exsetidx, exaug, exaugidx, exaugattr, exite, exloop, exret, exexpr, exfail, evlit, evloc, evbin, evneg, evinv, evnot, evand, evor, evcmp, evcmp2, evmem, evite, evcall, evnew, evmeth, evlen, evlistOf, evsorted, evrng1, evrng2, evrng3, evappend, evcount, evattr, evidx, evslTo, evslFrom, evslBt, evrev, evlist, evtup, evcomp, evcompIf, evs, opV_int, t_bool, truthy_int, cmpV_int, cmpV_bool_eq, cmpV_bool_ne, runFn, getA, lookupA, storeA, Option.map_some, List.getElem?_cons_zero, List.getElem?_cons_succ, List.set_cons_zero, List.set_cons_succ, List.cons_append, List.nil_append, vlit, op_add, op_band, op_bor, op_bxor, op_shr, c_eq, c_ne, c_lt, c_le, c_gt, c_ge, List.length_cons, List.length_nil, List.map_cons, List.map_nil, Nat.zero_add, Nat.add_zero, reduceIte, List.replicate_succ, List.replicate_zero, Nat.reduceAdd, Nat.reduceSub, Nat.reduceEqDiff, Nat.sub_self, decide_true, decide_false, eq_self, Bool.not_true, Bool.not_false, beq_self_eq_true]
        generalize hC : compAll _ _ _ = C
        obtain ⟨k7, a7, b7, h3, rfl, l7, x7, y7, K3⟩ := two_lists (size := size) (r1 := fun s => if 1 < c1 s % 8 ∧ c1 s / 8 = i then c1 s else 0) (r2 := fun s => if 1 < c2 s % 8 ∧ c2 s / 8 = i then c2 s else 0) (c1 := c1) (c2 := c2) hC (get_new _ _) (fun hx K' => by
          generalize hD : compAll _ _ _ = D
          have := comp_LVpure hD (K' _ _ (get_app (K _ _ ho1) _)) (fun s => N (if 1 < c1 s % 8 ∧ c1 s / 8 = i then c1 s else 0)) hs' (fun s hs => by
            have m8 := op_mod (a := c1 s) (b := 8) (by decide)
            have d8 := op_div (a := c1 s) (b := 8) (by decide) (by decide)
            by_cases h0 : 1 < c1 s % 8 <;> by_cases h1 : c1 s / 8 = i <;> simp only [exs, exasn, exasn2, exsetattr, exsetidx, exaug, exaugidx, exaugattr, exite, exloop, exret, exexpr, exfail, evlit, evloc, evbin, evneg, evinv, evnot, evand, evor, evcmp, evcmp2, evmem, evite, evcall, evnew, evmeth, evlen, evlistOf, evsorted, evrng1, evrng2, evrng3, evappend, evcount, evattr, evidx, evslTo, evslFrom, evslBt, evrev, evlist, evtup, evcomp, evcompIf, evs, opV_int, t_bool, truthy_int, cmpV_int, cmpV_bool_eq, cmpV_bool_ne, runFn, getA, lookupA, storeA, Option.map_some, List.getElem?_cons_zero, List.getElem?_cons_succ, List.set_cons_zero, List.set_cons_succ, List.cons_append, List.nil_append, vlit, op_add, op_band, op_bor, op_bxor, op_shr, c_eq, c_ne, c_lt, c_le, c_gt, c_ge, List.length_cons, List.length_nil, List.map_cons, List.map_nil, Nat.zero_add, Nat.add_zero, reduceIte, List.replicate_succ, List.replicate_zero, Nat.reduceAdd, Nat.reduceSub, Nat.reduceEqDiff, Nat.sub_self, decide_true, decide_false, eq_self, Bool.not_true, Bool.not_false, beq_self_eq_true, m8, d8, h0, h1, and_self, and_false, false_and])
          subst this
          rfl) (fun hx K' => by
          generalize hD : compAll _ _ _ = D
          have := comp_LVpure hD (K' _ _ (get_app (K _ _ ht1) _)) (fun s => N (if 1 < c2 s % 8 ∧ c2 s / 8 = i then c2 s else 0)) hs' (fun s hs => by
            have m8 := op_mod (a := c2 s) (b := 8) (by decide)
            have d8 := op_div (a := c2 s) (b := 8) (by decide) (by decide)
            by_cases h0 : 1 < c2 s % 8 <;> by_cases h1 : c2 s / 8 = i <;> simp only [exs, exasn, exasn2, exsetattr, exsetidx, exaug, exaugidx, exaugattr, exite, exloop, exret, exexpr, exfail, evlit, evloc, evbin, evneg, evinv, evnot, evand, evor, evcmp, evcmp2, evmem, evite, evcall, evnew, evmeth, evlen, evlistOf, evsorted, evrng1, evrng2, evrng3, evappend, evcount, evattr, evidx, evslTo, evslFrom, evslBt, evrev, evlist, evtup, evcomp, evcompIf, evs, opV_int, t_bool, truthy_int, cmpV_int, cmpV_bool_eq, cmpV_bool_ne, runFn, getA, lookupA, storeA, Option.map_some, List.getElem?_cons_zero, List.getElem?_cons_succ, List.set_cons_zero, List.set_cons_succ, List.cons_append, List.nil_append, vlit, op_add, op_band, op_bor, op_bxor, op_shr, c_eq, c_ne, c_lt, c_le, c_gt, c_ge, List.length_cons, List.length_nil, List.map_cons, List.map_nil, Nat.zero_add, Nat.add_zero, reduceIte, List.replicate_succ, List.replicate_zero, Nat.reduceAdd, Nat.reduceSub, Nat.reduceEqDiff, Nat.sub_self, decide_true, decide_false, eq_self, Bool.not_true, Bool.not_false, beq_self_eq_true, m8, d8, h0, h1, and_self, and_false, false_and])
          subst this
          rfl)
        clear hC
        have K3 := (Kp.app _ _).trans K3
        have K13 := K.trans K3
        have hpn := f_non_pawn_key d (who := i) (hz1.mono K13) (hp1.mono K13) hs' hc1
        have hqn := f_non_pawn_key d (who := i) (hz1.mono K13) (hq1.mono K13) hs' hc2
        have ce := (cmp_LN x7 y7 hs).1
        have hpe : decide (kx (fun s => if 1 < c1 s % 8 ∧ c1 s / 8 = i then T.P (c1 s) s else 0) size = kx (fun s => if 1 < c2 s % 8 ∧ c2 s / 8 = i then T.P (c2 s) s else 0) size) =
            decide (∀ s, s < size → (if 1 < c1 s % 8 ∧ c1 s / 8 = i then c1 s else 0) = if 1 < c2 s % 8 ∧ c2 s / 8 = i then c2 s else 0) :=
          decide_eq_decide.mpr (kt_iff Ow (fun c => 1 < c % 8 ∧ c / 8 = i) (fun c h e => by subst e; simp at h) hd1 hd2)
        simp only [exs, exasn, exasn2, exsetattr, exsetidx, exaug, exaugidx, exaugattr, exite, exloop, exret, exexpr, exfail, evlit, evloc, evbin, evneg, evinv, evnot, evand, evor, evcmp, evcmp2, evmem, evite, evcall, evnew, evmeth, evlen, evlistOf, evsorted, evrng1, evrng2, evrng3, evappend, evcount, evattr, evidx, evslTo, evslFrom, evslBt, evrev, evlist, evtup, evcomp, evcompIf, evs, opV_int, t_bool, truthy_int, cmpV_int, cmpV_bool_eq, cmpV_bool_ne, runFn, getA, lookupA, storeA, Option.map_some, List.getElem?_cons_zero, List.getElem?_cons_succ, List.set_cons_zero, List.set_cons_succ, List.cons_append, List.nil_append, vlit, op_add, op_band, op_bor, op_bxor, op_shr, c_eq, c_ne, c_lt, c_le, c_gt, c_ge, List.length_cons, List.length_nil, List.map_cons, List.map_nil, Nat.zero_add, Nat.add_zero, reduceIte, List.replicate_succ, List.replicate_zero, Nat.reduceAdd, Nat.reduceSub, Nat.reduceEqDiff, Nat.sub_self, decide_true, decide_false, eq_self, Bool.not_true, Bool.not_false, beq_self_eq_true, hpn, hqn, (idx l7).1, (idx l7).2, ce, hpe]
        exact ⟨_, _, rfl, _, _, rfl, K13, K3 _ _ tt⟩)
    clear hL
    refine ⟨_, _, rfl, Run.cons ?_⟩
    have hz2 := hz1.mono K2
    have hg2 := hg1.mono K2
    have hp2 := hp1.mono K2
    have hq2 := hq1.mono K2
    have ho2 := K2 _ _ ho1
    have ht2 := K2 _ _ ht1
    clear hz1 hg1 hp1 hq1 ho1 ht1 kt0 kt3 l5 x5 y5
    -- the material
    obtain ⟨h3, e3, K3⟩ := f_material_key d hz2 hp2 hs' hc1
    obtain ⟨h4, e4, K4⟩ := f_material_key d (hz2.mono K3) (hq2.mono K3) hs' hc2
    have K24 := K3.trans K4
    have so := sorted_LN (K24 _ _ ho2) (by first | assumption | exact Nat.le_of_lt ‹_› | exact Nat.lt_succ_of_lt ‹_› | exact Nat.ne_of_lt ‹_› | exact Nat.ne_of_gt ‹_› | exact Nat.le_trans ‹_› (by decide) | exact Nat.lt_of_lt_of_le ‹_› (by decide) | decide | omega)
    have st := sorted_LN (get_app (K24 _ _ ht2) [O.list ((sortI ((List.range size).map fun s => ((c1 s : Nat) : Int))).map V.int)]) (by first | assumption | exact Nat.le_of_lt ‹_› | exact Nat.lt_succ_of_lt ‹_› | exact Nat.ne_of_lt ‹_› | exact Nat.ne_of_gt ‹_› | exact Nat.le_trans ‹_› (by decide) | exact Nat.lt_of_lt_of_le ‹_› (by decide) | decide | omega)
    have cs := cmp_intsI (get_app (get_new h4 (.list ((sortI ((List.range size).map fun s => ((c1 s : Nat) : Int))).map V.int))) _) (get_new (h4 ++ [.list ((sortI ((List.range size).map fun s => ((c1 s : Nat) : Int))).map V.int)]) (.list ((sortI ((List.range size).map fun s => ((c2 s : Nat) : Int))).map V.int)))
      (by rw [sort_len]; simpa using hs) (by rw [sort_len]; simpa using hs)
    have hme : decide (mkey T c1 size = mkey T c2 size) = decide (sortI ((List.range size).map fun s => ((c1 s : Nat) : Int)) = sortI ((List.range size).map fun s => ((c2 s : Nat) : Int))) :=
      decide_eq_decide.mpr ((mkey_iff Ow hc1 hc2).trans (sorted_iff hd1 hd2).symm)
    simp only [exs, exasn, exasn2, exsetattr, exsetidx, exaug, exaugidx, exaugattr, exite, exloop, exret, exexpr, exfail, evlit, evloc, evbin, evneg, evinv, evnot, evand, evor, evcmp, evcmp2, evmem, evite, evcall, evnew, evmeth, evlen, evlistOf, evsorted, evrng1, evrng2, evrng3, evappend, evcount, evattr, evidx, evslTo, evslFrom, evslBt, evrev, evlist, evtup, evcomp, evcompIf, evs, opV_int, t_bool, truthy_int, cmpV_int, cmpV_bool_eq, cmpV_bool_ne, runFn, getA, lookupA, storeA, Option.map_some, List.getElem?_cons_zero, List.getElem?_cons_succ, List.set_cons_zero, List.set_cons_succ, List.cons_append, List.nil_append, vlit, op_add, op_band, op_bor, op_bxor, op_shr, c_eq, c_ne, c_lt, c_le, c_gt, c_ge, List.length_cons, List.length_nil, List.map_cons, List.map_nil, Nat.zero_add, Nat.add_zero, reduceIte, List.replicate_succ, List.replicate_zero, Nat.reduceAdd, Nat.reduceSub, Nat.reduceEqDiff, Nat.sub_self, decide_true, decide_false, eq_self, Bool.not_true, Bool.not_false, beq_self_eq_true, e3, e4, so, st, cs, hme]
    refine ⟨_, _, rfl, Run.cons ?_⟩
    have K5 : Kp h2 (h4 ++ [.list ((sortI ((List.range size).map fun s => ((c1 s : Nat) : Int))).map V.int)] ++ [.list ((sortI ((List.range size).map fun s => ((c2 s : Nat) : Int))).map V.int)]) := K24.trans ((Kp.app _ _).trans (Kp.app _ _))
    generalize (h4 ++ [O.list ((sortI ((List.range size).map fun s => ((c1 s : Nat) : Int))).map V.int)] ++ [.list ((sortI ((List.range size).map fun s => ((c2 s : Nat) : Int))).map V.int)]) = h5 at K5
    have hp5 := hp2.mono K5
    have hq5 := hq2.mono K5
    have ho5 := K5 _ _ ho2
    have ht5 := K5 _ _ ht2
    clear hz2 hg2 hp2 hq2 ho2 ht2 K3 K4 K24 so st cs hme e3 e4 K5 K2
    obtain ⟨pb, pk, ps, ph, p1, p2⟩ := hp5
    obtain ⟨qb, qk, qs, qh, q1, q2⟩ := hq5
    unfold posO at p1 q1
    -- the files passed
    simp only [exs, exasn, exasn2, exsetattr, exsetidx, exaug, exaugidx, exaugattr, exite, exloop, exret, exexpr, exfail, evlit, evloc, evbin, evneg, evinv, evnot, evand, evor, evcmp, evcmp2, evmem, evite, evcall, evnew, evmeth, evlen, evlistOf, evsorted, evrng1, evrng2, evrng3, evappend, evcount, evattr, evidx, evslTo, evslFrom, evslBt, evrev, evlist, evtup, evcomp, evcompIf, evs, opV_int, t_bool, truthy_int, cmpV_int, cmpV_bool_eq, cmpV_bool_ne, runFn, getA, lookupA, storeA, Option.map_some, List.getElem?_cons_zero, List.getElem?_cons_succ, List.set_cons_zero, List.set_cons_succ, List.cons_append, List.nil_append, vlit, op_add, op_band, op_bor, op_bxor, op_shr, c_eq, c_ne, c_lt, c_le, c_gt, c_ge, List.length_cons, List.length_nil, List.map_cons, List.map_nil, Nat.zero_add, Nat.add_zero, reduceIte, List.replicate_succ, List.replicate_zero, Nat.reduceAdd, Nat.reduceSub, Nat.reduceEqDiff, Nat.sub_self, decide_true, decide_false, eq_self, Bool.not_true, Bool.not_false, beq_self_eq_true]
    generalize hC : compAll _ _ _ = C
    have g0 : ∀ e : Int, cmpI .ge e (((0 : Nat)) : Int) = decide (0 ≤ e) := fun e => by simp [cmpI]
    have fpe : ∀ e : Int, fp files e = if 0 ≤ e then (((e.fmod files).toNat : Nat) : Int) else -(((1 : Nat)) : Int) := fun e => rfl
    have kt0 := get_new h5 (.tup [.ref p, .ref q])
    obtain ⟨h6, rfl, rfl⟩ := comp_list (vs := [.ref p, .ref q]) hC (fun i => some (.int (if i = 0 then fp files e1 else fp files e2))) (fun i h' => h' = h5 ++ [.tup [.ref p, .ref q]]) rfl (by simp) (.inr fun i h' hh => by subst hh; exact kt0) (fun i v h' hv hh => by
      subst hh
      match i, hv with
      | 0, hv =>
        obtain rfl : V.ref p = v := Option.some.inj hv
        refine ⟨_, ?_, rfl⟩
        have m1 := op_imod (a := e1) hf
        simp only [if_true, fpe]
        by_cases h0 : 0 ≤ e1 <;> simp only [exs, exasn, exasn2, exsetattr, exsetidx, exaug, exaugidx, exaugattr, exite, exloop, exret, exexpr, exfail, evlit, evloc, evbin, evneg, evinv, evnot, evand, evor, evcmp, evcmp2, evmem, evite, evcall, evnew, evmeth, evlen, evlistOf, evsorted, evrng1, evrng2, evrng3, evappend, evcount, evattr, evidx, evslTo, evslFrom, evslBt, evrev, evlist, evtup, evcomp, evcompIf, evs, opV_int, t_bool, truthy_int, cmpV_int, cmpV_bool_eq, cmpV_bool_ne, runFn, getA, lookupA, storeA, Option.map_some, List.getElem?_cons_zero, List.getElem?_cons_succ, List.set_cons_zero, List.set_cons_succ, List.cons_append, List.nil_append, vlit, op_add, op_band, op_bor, op_bxor, op_shr, c_eq, c_ne, c_lt, c_le, c_gt, c_ge, List.length_cons, List.length_nil, List.map_cons, List.map_nil, Nat.zero_add, Nat.add_zero, reduceIte, List.replicate_succ, List.replicate_zero, Nat.reduceAdd, Nat.reduceSub, Nat.reduceEqDiff, Nat.sub_self, decide_true, decide_false, eq_self, Bool.not_true, Bool.not_false, beq_self_eq_true, get_app p1, g0, h0, m1]
      | 1, hv =>
        obtain rfl : V.ref q = v := Option.some.inj hv
        refine ⟨_, ?_, rfl⟩
        have m1 := op_imod (a := e2) hf
        simp only [Nat.one_ne_zero, if_false, fpe]
        by_cases h0 : 0 ≤ e2 <;> simp only [exs, exasn, exasn2, exsetattr, exsetidx, exaug, exaugidx, exaugattr, exite, exloop, exret, exexpr, exfail, evlit, evloc, evbin, evneg, evinv, evnot, evand, evor, evcmp, evcmp2, evmem, evite, evcall, evnew, evmeth, evlen, evlistOf, evsorted, evrng1, evrng2, evrng3, evappend, evcount, evattr, evidx, evslTo, evslFrom, evslBt, evrev, evlist, evtup, evcomp, evcompIf, evs, opV_int, t_bool, truthy_int, cmpV_int, cmpV_bool_eq, cmpV_bool_ne, runFn, getA, lookupA, storeA, Option.map_some, List.getElem?_cons_zero, List.getElem?_cons_succ, List.set_cons_zero, List.set_cons_succ, List.cons_append, List.nil_append, vlit, op_add, op_band, op_bor, op_bxor, op_shr, c_eq, c_ne, c_lt, c_le, c_gt, c_ge, List.length_cons, List.length_nil, List.map_cons, List.map_nil, Nat.zero_add, Nat.add_zero, reduceIte, List.replicate_succ, List.replicate_zero, Nat.reduceAdd, Nat.reduceSub, Nat.reduceEqDiff, Nat.sub_self, decide_true, decide_false, eq_self, Bool.not_true, Bool.not_false, beq_self_eq_true, get_app q1, g0, h0, m1]
      | n + 2, hv => simp at hv)
    clear hC
    refine ⟨_, _, rfl, Run.cons ?_⟩
    have l8 := get_new (h5 ++ [.tup [.ref p, .ref q]]) (.list [.int (fp files e1), .int (fp files e2)])
    have K6 : Kp h5 (h5 ++ [.tup [.ref p, .ref q]] ++ [.list [.int (fp files e1), .int (fp files e2)]]) := (Kp.app _ _).trans (Kp.app _ _)
    have eL : (h5 ++ [O.tup [.ref p, .ref q]] ++ [.list ((List.range [V.ref p, V.ref q].length).filterMap fun i => some (V.int (if i = 0 then fp files e1 else fp files e2)))]) = (h5 ++ [O.tup [.ref p, .ref q]] ++ [.list [.int (fp files e1), .int (fp files e2)]]) := rfl
    rw [eL]
    generalize (h5 ++ [O.tup [.ref p, .ref q]] ++ [.list [.int (fp files e1), .int (fp files e2)]]) = h6 at l8 K6
    generalize (h5 ++ [O.tup [.ref p, .ref q]]).length = k8 at l8
    clear eL kt0
    have ho6 := K6 _ _ ho5
    have ht6 := K6 _ _ ht5
    have p6 := K6 _ _ p1
    have q6 := K6 _ _ q1
    have ce := (cmp_LN ho6 ht6 hs).1
    refine ⟨[some (.ref one), some (.ref two), some (.ref p), some (.ref q), some (N files), some (.ref k5), x, y, some (.ref k8), some (.bool (decide ((∀ s, s < size → c1 s = c2 s) ∧ s1 = s2 ∧ r1 = r2)))], h6, ?_, Run.ret ?_⟩
    · by_cases a1 : ∀ s, s < size → c1 s = c2 s
      · have a1' := decide_eq_true a1
        rw [a1'] at ce
        by_cases a2 : s1 = s2 <;> by_cases a3 : r1 = r2 <;> simp only [exs, exasn, exasn2, exsetattr, exsetidx, exaug, exaugidx, exaugattr, exite, exloop, exret, exexpr, exfail, evlit, evloc, evbin, evneg, evinv, evnot, evand, evor, evcmp, evcmp2, evmem, evite, evcall, evnew, evmeth, evlen, evlistOf, evsorted, evrng1, evrng2, evrng3, evappend, evcount, evattr, evidx, evslTo, evslFrom, evslBt, evrev, evlist, evtup, evcomp, evcompIf, evs, opV_int, t_bool, truthy_int, cmpV_int, cmpV_bool_eq, cmpV_bool_ne, runFn, getA, lookupA, storeA, Option.map_some, List.getElem?_cons_zero, List.getElem?_cons_succ, List.set_cons_zero, List.set_cons_succ, List.cons_append, List.nil_append, vlit, op_add, op_band, op_bor, op_bxor, op_shr, c_eq, c_ne, c_lt, c_le, c_gt, c_ge, List.length_cons, List.length_nil, List.map_cons, List.map_nil, Nat.zero_add, Nat.add_zero, reduceIte, List.replicate_succ, List.replicate_zero, Nat.reduceAdd, Nat.reduceSub, Nat.reduceEqDiff, Nat.sub_self, decide_true, decide_false, eq_self, Bool.not_true, Bool.not_false, beq_self_eq_true, p6, q6, ce, a2, a3, and_self, and_true, and_false, true_and, false_and]
        · rw [a1']
      · have a1' := decide_eq_false a1
        rw [a1'] at ce
        simp only [exs, exasn, exasn2, exsetattr, exsetidx, exaug, exaugidx, exaugattr, exite, exloop, exret, exexpr, exfail, evlit, evloc, evbin, evneg, evinv, evnot, evand, evor, evcmp, evcmp2, evmem, evite, evcall, evnew, evmeth, evlen, evlistOf, evsorted, evrng1, evrng2, evrng3, evappend, evcount, evattr, evidx, evslTo, evslFrom, evslBt, evrev, evlist, evtup, evcomp, evcompIf, evs, opV_int, t_bool, truthy_int, cmpV_int, cmpV_bool_eq, cmpV_bool_ne, runFn, getA, lookupA, storeA, Option.map_some, List.getElem?_cons_zero, List.getElem?_cons_succ, List.set_cons_zero, List.set_cons_succ, List.cons_append, List.nil_append, vlit, op_add, op_band, op_bor, op_bxor, op_shr, c_eq, c_ne, c_lt, c_le, c_gt, c_ge, List.length_cons, List.length_nil, List.map_cons, List.map_nil, Nat.zero_add, Nat.add_zero, reduceIte, List.replicate_succ, List.replicate_zero, Nat.reduceAdd, Nat.reduceSub, Nat.reduceEqDiff, Nat.sub_self, decide_true, decide_false, eq_self, Bool.not_true, Bool.not_false, beq_self_eq_true, p6, q6, ce, a1, false_and]
    have idx8 : getIdx h6 (.ref k8) (.int ((0 : Nat) : Int)) = some (.int (fp files e1)) ∧ getIdx h6 (.ref k8) (.int ((1 : Nat) : Int)) = some (.int (fp files e2)) := by simp [getIdx, l8]
    have ce0 : cmpI .eq (fp files e1) (fp files e2) = decide (fp files e1 = fp files e2) := rfl
    have hfe := fkey_iff Ow hf hd1 hd2 (one := c1) (two := c2) (e1 := e1) (e2 := e2) hs1 hs2 hr1 hr2
    by_cases a1 : (∀ s, s < size → c1 s = c2 s) ∧ s1 = s2 ∧ r1 = r2
    · have a1' := decide_eq_true a1
      rw [a1']
      have hfd : decide (fkey T size files s1 r1 e1 c1 = fkey T size files s2 r2 e2 c2) = decide (fp files e1 = fp files e2) := decide_eq_decide.mpr (hfe.trans ⟨fun h => h.2, fun h => ⟨a1, h⟩⟩)
      simp only [exs, exasn, exasn2, exsetattr, exsetidx, exaug, exaugidx, exaugattr, exite, exloop, exret, exexpr, exfail, evlit, evloc, evbin, evneg, evinv, evnot, evand, evor, evcmp, evcmp2, evmem, evite, evcall, evnew, evmeth, evlen, evlistOf, evsorted, evrng1, evrng2, evrng3, evappend, evcount, evattr, evidx, evslTo, evslFrom, evslBt, evrev, evlist, evtup, evcomp, evcompIf, evs, opV_int, t_bool, truthy_int, cmpV_int, cmpV_bool_eq, cmpV_bool_ne, runFn, getA, lookupA, storeA, Option.map_some, List.getElem?_cons_zero, List.getElem?_cons_succ, List.set_cons_zero, List.set_cons_succ, List.cons_append, List.nil_append, vlit, op_add, op_band, op_bor, op_bxor, op_shr, c_eq, c_ne, c_lt, c_le, c_gt, c_ge, List.length_cons, List.length_nil, List.map_cons, List.map_nil, Nat.zero_add, Nat.add_zero, reduceIte, List.replicate_succ, List.replicate_zero, Nat.reduceAdd, Nat.reduceSub, Nat.reduceEqDiff, Nat.sub_self, decide_true, decide_false, eq_self, Bool.not_true, Bool.not_false, beq_self_eq_true, p6, q6, idx8.1, idx8.2, ce0, hfd]
      exact ⟨_, _, rfl, rfl⟩
    · have a1' := decide_eq_false a1
      rw [a1']
      have hfd : decide (fkey T size files s1 r1 e1 c1 = fkey T size files s2 r2 e2 c2) = false := decide_eq_false fun e => a1 (hfe.mp e).1
      simp only [exs, exasn, exasn2, exsetattr, exsetidx, exaug, exaugidx, exaugattr, exite, exloop, exret, exexpr, exfail, evlit, evloc, evbin, evneg, evinv, evnot, evand, evor, evcmp, evcmp2, evmem, evite, evcall, evnew, evmeth, evlen, evlistOf, evsorted, evrng1, evrng2, evrng3, evappend, evcount, evattr, evidx, evslTo, evslFrom, evslBt, evrev, evlist, evtup, evcomp, evcompIf, evs, opV_int, t_bool, truthy_int, cmpV_int, cmpV_bool_eq, cmpV_bool_ne, runFn, getA, lookupA, storeA, Option.map_some, List.getElem?_cons_zero, List.getElem?_cons_succ, List.set_cons_zero, List.set_cons_succ, List.cons_append, List.nil_append, vlit, op_add, op_band, op_bor, op_bxor, op_shr, c_eq, c_ne, c_lt, c_le, c_gt, c_ge, List.length_cons, List.length_nil, List.map_cons, List.map_nil, Nat.zero_add, Nat.add_zero, reduceIte, List.replicate_succ, List.replicate_zero, Nat.reduceAdd, Nat.reduceSub, Nat.reduceEqDiff, Nat.sub_self, decide_true, decide_false, eq_self, Bool.not_true, Bool.not_false, beq_self_eq_true, p6, q6, idx8.1, idx8.2, hfd]
      exact ⟨_, _, rfl, rfl⟩
  obtain ⟨v, h', e, rfl⟩ := key
  exact ⟨h', e⟩

end Mz
end

section
open PySem PySem.W PyProof.Rows
set_option Elab.async false
set_option autoImplicit false

set_option tactic.hygienic false

namespace Mz

theorem loop_rng1 {f : Loc → Hp → Option (Fl × Loc × Hp)} {x b n : Nat} {l : Loc} {h : Hp} {L : Option (Fl × Loc × Hp)} (hL : loopAll f x (.ref b) l h = L) (I : Nat → Loc → Hp → Prop) (h0 : I 0 l h) (hn : n ≤ 1000) (hb : h[b]? = some (.rng 0 1 n))
    (step : ∀ i l h, i < n → I i l h → ∃ l' h', f (l.set x (some (N i))) h = some (.next, l', h') ∧ I (i + 1) l' h') :
    ∃ l' h', L = some (.next, l', h') ∧ I n l' h' :=
  loop_rng hL I h0 hn hb fun i l h hi hI => by
    have := step i l h hi hI
    rw [show (0 : Int) + (i : Int) * 1 = (i : Int) by first | assumption | exact Nat.le_of_lt ‹_› | exact Nat.lt_succ_of_lt ‹_› | exact Nat.ne_of_lt ‹_› | exact Nat.ne_of_gt ‹_› | exact Nat.le_trans ‹_› (by decide) | exact Nat.lt_of_lt_of_le ‹_› (by decide) | decide | omega]
    exact this

theorem getIdx_list {h : Hp} {k i : Nat} {vs : List V} {v : V} (hk : h[k]? = some (.list vs)) (hv : vs[i]? = some v) (hn : vs.length ≤ 1000) : getIdx h (.ref k) (.int (i : Int)) = some v := by
  have : (0 : Int) ≤ (i : Int) := by first | assumption | exact Nat.le_of_lt ‹_› | exact Nat.lt_succ_of_lt ‹_› | exact Nat.ne_of_lt ‹_› | exact Nat.ne_of_gt ‹_› | exact Nat.le_trans ‹_› (by decide) | exact Nat.lt_of_lt_of_le ‹_› (by decide) | decide | omega
  simp [getIdx, hk, this, hn, hv]

theorem cnt_upd {f f' : Nat → Nat} {j : Nat} (m : Nat) (h : ∀ s, s ≠ j → f' s = f s) : ∀ n, cnt f m n ≤ cnt f' m n + if j < n then 1 else 0
  | 0 => by simp [cnt]
  | n + 1 => by
    have ih := cnt_upd m h n
    rw [cnt_succ, cnt_succ]
    rcases Nat.lt_trichotomy j n with q | q | q
    · rw [if_pos q] at ih
      rw [if_pos (show j < n + 1 by first | assumption | exact Nat.le_of_lt ‹_› | exact Nat.lt_succ_of_lt ‹_› | exact Nat.ne_of_lt ‹_› | exact Nat.ne_of_gt ‹_› | exact Nat.le_trans ‹_› (by decide) | exact Nat.lt_of_lt_of_le ‹_› (by decide) | decide | omega), h n (by first | assumption | exact Nat.le_of_lt ‹_› | exact Nat.lt_succ_of_lt ‹_› | exact Nat.ne_of_lt ‹_› | exact Nat.ne_of_gt ‹_› | exact Nat.le_trans ‹_› (by decide) | exact Nat.lt_of_lt_of_le ‹_› (by decide) | decide | omega)]
      omega
    · subst q
      rw [if_neg (Nat.lt_irrefl _)] at ih
      rw [if_pos (show j < j + 1 by first | assumption | exact Nat.le_of_lt ‹_› | exact Nat.lt_succ_of_lt ‹_› | exact Nat.ne_of_lt ‹_› | exact Nat.ne_of_gt ‹_› | exact Nat.le_trans ‹_› (by decide) | exact Nat.lt_of_lt_of_le ‹_› (by decide) | decide | omega)]
      have : (if f j = m then 1 else 0) ≤ 1 := by split <;> omega
      omega
    · rw [if_neg (show ¬ j < n by first | assumption | exact Nat.le_of_lt ‹_› | exact Nat.lt_succ_of_lt ‹_› | exact Nat.ne_of_lt ‹_› | exact Nat.ne_of_gt ‹_› | exact Nat.le_trans ‹_› (by decide) | exact Nat.lt_of_lt_of_le ‹_› (by decide) | decide | omega)] at ih
      rw [if_neg (show ¬ j < n + 1 by first | assumption | exact Nat.le_of_lt ‹_› | exact Nat.lt_succ_of_lt ‹_› | exact Nat.ne_of_lt ‹_› | exact Nat.ne_of_gt ‹_› | exact Nat.le_trans ‹_› (by decide) | exact Nat.lt_of_lt_of_le ‹_› (by decide) | decide | omega), h n (by first | assumption | exact Nat.le_of_lt ‹_› | exact Nat.lt_succ_of_lt ‹_› | exact Nat.ne_of_lt ‹_› | exact Nat.ne_of_gt ‹_› | exact Nat.le_trans ‹_› (by decide) | exact Nat.lt_of_lt_of_le ‹_› (by decide) | decide | omega)]
      omega
theorem cnt_pos {f : Nat → Nat} {m n : Nat} (h : 0 < cnt f m n) : ∃ s, s < n ∧ f s = m := by
  obtain ⟨s, h1, h2, _⟩ := cnt_find h
  exact ⟨s, h1, h2⟩

theorem reach (n : Int) {size s : Nat} (hs : s < size) : ∃ k, k < size ∧ ((n + (k : Int)).fmod (size : Int)).toNat = s := by
  have h0 : size ≠ 0 := by first | assumption | exact Nat.le_of_lt ‹_› | exact Nat.lt_succ_of_lt ‹_› | exact Nat.ne_of_lt ‹_› | exact Nat.ne_of_gt ‹_› | exact Nat.le_trans ‹_› (by decide) | exact Nat.lt_of_lt_of_le ‹_› (by decide) | decide | omega
  refine ⟨(((s : Int) - n).fmod size).toNat, imod_lt _ h0, ?_⟩
  have e1 : (((((s : Int) - n).fmod size).toNat : Nat) : Int) = ((s : Int) - n).fmod size := Int.toNat_of_nonneg (Int.fmod_nonneg_of_pos _ (by first | assumption | exact Nat.le_of_lt ‹_› | exact Nat.lt_succ_of_lt ‹_› | exact Nat.ne_of_lt ‹_› | exact Nat.ne_of_gt ‹_› | exact Nat.le_trans ‹_› (by decide) | exact Nat.lt_of_lt_of_le ‹_› (by decide) | decide | omega))
  rw [e1, Int.fmod_eq_emod_of_nonneg _ (by first | assumption | exact Nat.le_of_lt ‹_› | exact Nat.lt_succ_of_lt ‹_› | exact Nat.ne_of_lt ‹_› | exact Nat.ne_of_gt ‹_› | exact Nat.le_trans ‹_› (by decide) | exact Nat.lt_of_lt_of_le ‹_› (by decide) | decide | omega), Int.fmod_eq_emod_of_nonneg _ (by first | assumption | exact Nat.le_of_lt ‹_› | exact Nat.lt_succ_of_lt ‹_› | exact Nat.ne_of_lt ‹_› | exact Nat.ne_of_gt ‹_› | exact Nat.le_trans ‹_› (by decide) | exact Nat.lt_of_lt_of_le ‹_› (by decide) | decide | omega), Int.add_emod_emod, show n + ((s : Int) - n) = s by first | assumption | exact Nat.le_of_lt ‹_› | exact Nat.lt_succ_of_lt ‹_› | exact Nat.ne_of_lt ‹_› | exact Nat.ne_of_gt ‹_› | exact Nat.le_trans ‹_› (by decide) | exact Nat.lt_of_lt_of_le ‹_› (by decide) | decide | omega, Int.emod_eq_of_lt (by first | assumption | exact Nat.le_of_lt ‹_› | exact Nat.lt_succ_of_lt ‹_› | exact Nat.ne_of_lt ‹_› | exact Nat.ne_of_gt ‹_› | exact Nat.le_trans ‹_› (by decide) | exact Nat.lt_of_lt_of_le ‹_› (by decide) | decide | omega) (by first | assumption | exact Nat.le_of_lt ‹_› | exact Nat.lt_succ_of_lt ‹_› | exact Nat.ne_of_lt ‹_› | exact Nat.ne_of_gt ‹_› | exact Nat.le_trans ‹_› (by decide) | exact Nat.lt_of_lt_of_le ‹_› (by decide) | decide | omega)]
  rfl

theorem f_law_place (d : Nat) {h : Hp} {m size nm : Nat} {men : List Nat} {xs : List Int} (hm : h[m]? = some (.list (men.map N))) (hx : h[nm]? = some (.list (xs.map V.int))) (hxl : xs.length ≤ 1000) (hs : size ≤ 50) (hl : men.length ≤ size)
    (hc : ∀ c ∈ men, Cell c) : ∃ k h' c, Fd tab (d + 2) 29 [.ref m, N size, .ref nm] h = some (.ref k, h') ∧ h'[k]? = some (LN size c) ∧ Kp h h' ∧ (∀ s, s < size → Cell (c s)) ∧ h.length ≤ k := by
  have hs' : size ≤ 1000 := by first | assumption | exact Nat.le_of_lt ‹_› | exact Nat.lt_succ_of_lt ‹_› | exact Nat.ne_of_lt ‹_› | exact Nat.ne_of_gt ‹_› | exact Nat.le_trans ‹_› (by decide) | exact Nat.lt_of_lt_of_le ‹_› (by decide) | decide | omega
  have key : ∃ v h', Fd tab (d + 2) 29 [.ref m, N size, .ref nm] h = some (v, h') ∧ ∃ k c, v = .ref k ∧ h'[k]? = some (LN size c) ∧ Kp h h' ∧ (∀ s, s < size → Cell (c s)) ∧ h.length ≤ k := by
    refine fd_run rfl rfl ?_
    show Run _ b_law_place _ _ _
    unfold b_law_place
    simp only [List.map_cons, List.map_nil, List.cons_append, List.nil_append, List.replicate_succ, List.replicate_zero, Nat.reduceSub]
    refine Run.cons ?_
    simp only [exs, exasn, exasn2, exsetattr, exsetidx, exaug, exaugidx, exaugattr, exite, exloop, exret, exexpr, exfail, evlit, evloc, evbin, evneg, evinv, evnot, evand, evor, evcmp, evcmp2, evmem, evite, evcall, evnew, evmeth, evlen, evlistOf, evsorted, evrng1, evrng2, evrng3, evappend, evcount, evattr, evidx, evslTo, evslFrom, evslBt, evrev, evlist, evtup, evcomp, evcompIf, evs, opV_int, t_bool, truthy_int, cmpV_int, cmpV_bool_eq, cmpV_bool_ne, runFn, getA, lookupA, storeA, Option.map_some, List.getElem?_cons_zero, List.getElem?_cons_succ, List.set_cons_zero, List.set_cons_succ, List.cons_append, List.nil_append, vlit, op_add, op_band, op_bor, op_bxor, op_shr, c_eq, c_ne, c_lt, c_le, c_gt, c_ge, List.length_cons, List.length_nil, List.map_cons, List.map_nil, Nat.zero_add, Nat.add_zero, reduceIte, List.replicate_succ, List.replicate_zero, Nat.reduceAdd, Nat.reduceSub, Nat.reduceEqDiff, Nat.sub_self, decide_true, decide_false, eq_self, Bool.not_true, Bool.not_false, beq_self_eq_true, mul_list (get_new h (.list [N 0])) (n := size) hs']
    refine ⟨_, _, rfl, Run.cons ?_⟩
    have K1 : Kp h (h ++ [.list [N 0]] ++ [LN size fun _ => 0]) := (Kp.app _ _).trans (Kp.app _ _)
    have c1 := get_new (h ++ [.list [N 0]]) (LN size fun _ => 0)
    have a1 : ∀ {k : Nat} {o : O}, h[k]? = some o → k ≠ (h ++ [O.list [N 0]]).length := fun e => new_apart e (by simp)
    generalize (h ++ [O.list [N 0]] ++ [LN size fun _ => 0]) = h1 at K1 c1
    have lkc : h.length ≤ (h ++ [O.list [N 0]]).length := by simp
    generalize (h ++ [O.list [N 0]]).length = kc at c1 a1 lkc
    have lm := len_list (K1 _ _ hm) (by rw [List.length_map]; omega)
    rw [List.length_map] at lm
    simp only [exs, exasn, exasn2, exsetattr, exsetidx, exaug, exaugidx, exaugattr, exite, exloop, exret, exexpr, exfail, evlit, evloc, evbin, evneg, evinv, evnot, evand, evor, evcmp, evcmp2, evmem, evite, evcall, evnew, evmeth, evlen, evlistOf, evsorted, evrng1, evrng2, evrng3, evappend, evcount, evattr, evidx, evslTo, evslFrom, evslBt, evrev, evlist, evtup, evcomp, evcompIf, evs, opV_int, t_bool, truthy_int, cmpV_int, cmpV_bool_eq, cmpV_bool_ne, runFn, getA, lookupA, storeA, Option.map_some, List.getElem?_cons_zero, List.getElem?_cons_succ, List.set_cons_zero, List.set_cons_succ, List.cons_append, List.nil_append, vlit, op_add, op_band, op_bor, op_bxor, op_shr, c_eq, c_ne, c_lt, c_le, c_gt, c_ge, List.length_cons, List.length_nil, List.map_cons, List.map_nil, Nat.zero_add, Nat.add_zero, reduceIte, List.replicate_succ, List.replicate_zero, Nat.reduceAdd, Nat.reduceSub, Nat.reduceEqDiff, Nat.sub_self, decide_true, decide_false, eq_self, Bool.not_true, Bool.not_false, beq_self_eq_true, lm, mkRng_N h1 (n := men.length) (by first | assumption | exact Nat.le_of_lt ‹_› | exact Nat.lt_succ_of_lt ‹_› | exact Nat.ne_of_lt ‹_› | exact Nat.ne_of_gt ‹_› | exact Nat.le_trans ‹_› (by decide) | exact Nat.lt_of_lt_of_le ‹_› (by decide) | decide | omega)]
    generalize hL : loopAll _ _ _ _ _ = L
    obtain ⟨l', h2, rfl, x, y, c, rfl, K2, c2, q2, _⟩ := loop_rng1 (n := men.length) hL
      (fun i l h' => ∃ x y c, l = [some (.ref m), some (N size), some (.ref nm), some (.ref kc), x, y] ∧ Kp h h' ∧ h'[kc]? = some (LN size c) ∧ (∀ s, s < size → Cell (c s)) ∧ size ≤ cnt c 0 size + i)
      ⟨none, none, fun _ => 0, rfl, K1.trans (Kp.app _ _), get_app c1 _, fun s _ => ⟨by show 0 < 15; decide, by show 0 % 8 ≠ 7; decide, by show 0 ≠ 8; decide⟩, by
        have : ∀ n, cnt (fun _ => 0) 0 n = n := by
          intro n
          induction n with
          | zero => rfl
          | succ n ih => rw [cnt_succ, ih]; rfl
        rw [this]; omega⟩ (by first | assumption | exact Nat.le_of_lt ‹_› | exact Nat.lt_succ_of_lt ‹_› | exact Nat.ne_of_lt ‹_› | exact Nat.ne_of_gt ‹_› | exact Nat.le_trans ‹_› (by decide) | exact Nat.lt_of_lt_of_le ‹_› (by decide) | decide | omega) (get_new _ _) (fun i l h' hi hh => by
        obtain ⟨x, y, c, rfl, K, hc', hce, hz⟩ := hh
        have hat := f_law_at d (K _ _ hx) (k := i) hxl
        obtain ⟨mi, hmi⟩ : ∃ mi, men[i]? = some mi := ⟨men[i], List.getElem?_eq_getElem hi⟩
        have gm := getIdx_list (i := i) (K _ _ hm) (v := N mi) (by rw [List.getElem?_map, hmi]; rfl) (by rw [List.length_map]; omega)
        generalize hn : xs.getD i 0 = n at hat
        simp only [exs, exasn, exasn2, exsetattr, exsetidx, exaug, exaugidx, exaugattr, exite, exloop, exret, exexpr, exfail, evlit, evloc, evbin, evneg, evinv, evnot, evand, evor, evcmp, evcmp2, evmem, evite, evcall, evnew, evmeth, evlen, evlistOf, evsorted, evrng1, evrng2, evrng3, evappend, evcount, evattr, evidx, evslTo, evslFrom, evslBt, evrev, evlist, evtup, evcomp, evcompIf, evs, opV_int, t_bool, truthy_int, cmpV_int, cmpV_bool_eq, cmpV_bool_ne, runFn, getA, lookupA, storeA, Option.map_some, List.getElem?_cons_zero, List.getElem?_cons_succ, List.set_cons_zero, List.set_cons_succ, List.cons_append, List.nil_append, vlit, op_add, op_band, op_bor, op_bxor, op_shr, c_eq, c_ne, c_lt, c_le, c_gt, c_ge, List.length_cons, List.length_nil, List.map_cons, List.map_nil, Nat.zero_add, Nat.add_zero, reduceIte, List.replicate_succ, List.replicate_zero, Nat.reduceAdd, Nat.reduceSub, Nat.reduceEqDiff, Nat.sub_self, decide_true, decide_false, eq_self, Bool.not_true, Bool.not_false, beq_self_eq_true, hat, gm, mkRng_N h' (n := size) (by first | assumption | exact Nat.le_of_lt ‹_› | exact Nat.lt_succ_of_lt ‹_› | exact Nat.ne_of_lt ‹_› | exact Nat.ne_of_gt ‹_› | exact Nat.le_trans ‹_› (by decide) | exact Nat.lt_of_lt_of_le ‹_› (by decide) | decide | omega)]
        generalize hC : compAll _ _ _ = C
        obtain ⟨k6, h3, rfl, l6, K3, -⟩ := comp_one hC (fun k : Nat => if c ((n + (k : Int)).fmod (size : Int)).toNat = 0 then some (N ((n + (k : Int)).fmod (size : Int)).toNat) else none) hs' (fun hx' Kx k hk => by
          have ai : opI .add n (k : Int) = some (n + (k : Int)) := rfl
          have hlt : ((n + (k : Int)).fmod (size : Int)).toNat < size := imod_lt _ (by first | assumption | exact Nat.le_of_lt ‹_› | exact Nat.lt_succ_of_lt ‹_› | exact Nat.ne_of_lt ‹_› | exact Nat.ne_of_gt ‹_› | exact Nat.le_trans ‹_› (by decide) | exact Nat.lt_of_lt_of_le ‹_› (by decide) | decide | omega)
          have mi := op_imod (a := n + (k : Int)) (b := size) (by first | assumption | exact Nat.le_of_lt ‹_› | exact Nat.lt_succ_of_lt ‹_› | exact Nat.ne_of_lt ‹_› | exact Nat.ne_of_gt ‹_› | exact Nat.le_trans ‹_› (by decide) | exact Nat.lt_of_lt_of_le ‹_› (by decide) | decide | omega)
          have i1 := getIdx_LV (Kx _ _ hc') hlt hs'
          by_cases h0 : c ((n + (k : Int)).fmod (size : Int)).toNat = 0 <;> simp only [exs, exasn, exasn2, exsetattr, exsetidx, exaug, exaugidx, exaugattr, exite, exloop, exret, exexpr, exfail, evlit, evloc, evbin, evneg, evinv, evnot, evand, evor, evcmp, evcmp2, evmem, evite, evcall, evnew, evmeth, evlen, evlistOf, evsorted, evrng1, evrng2, evrng3, evappend, evcount, evattr, evidx, evslTo, evslFrom, evslBt, evrev, evlist, evtup, evcomp, evcompIf, evs, opV_int, t_bool, truthy_int, cmpV_int, cmpV_bool_eq, cmpV_bool_ne, runFn, getA, lookupA, storeA, Option.map_some, List.getElem?_cons_zero, List.getElem?_cons_succ, List.set_cons_zero, List.set_cons_succ, List.cons_append, List.nil_append, vlit, op_add, op_band, op_bor, op_bxor, op_shr, c_eq, c_ne, c_lt, c_le, c_gt, c_ge, List.length_cons, List.length_nil, List.map_cons, List.map_nil, Nat.zero_add, Nat.add_zero, reduceIte, List.replicate_succ, List.replicate_zero, Nat.reduceAdd, Nat.reduceSub, Nat.reduceEqDiff, Nat.sub_self, decide_true, decide_false, eq_self, Bool.not_true, Bool.not_false, beq_self_eq_true, ai, mi, i1, h0])
        clear hC
        -- a free place
        have hfree : ∃ j, j < size ∧ c j = 0 ∧ ((List.range size).filterMap fun k : Nat => if c ((n + (k : Int)).fmod (size : Int)).toNat = 0 then some (N ((n + (k : Int)).fmod (size : Int)).toNat) else none)[0]? = some (N j) := by
          obtain ⟨s, hs1, hs2⟩ := cnt_pos (f := c) (m := 0) (n := size) (by first | assumption | exact Nat.le_of_lt ‹_› | exact Nat.lt_succ_of_lt ‹_› | exact Nat.ne_of_lt ‹_› | exact Nat.ne_of_gt ‹_› | exact Nat.le_trans ‹_› (by decide) | exact Nat.lt_of_lt_of_le ‹_› (by decide) | decide | omega)
          obtain ⟨k, hk1, hk2⟩ := reach n hs1
          have hmem : N s ∈ (List.range size).filterMap fun k : Nat => if c ((n + (k : Int)).fmod (size : Int)).toNat = 0 then some (N ((n + (k : Int)).fmod (size : Int)).toNat) else none := by
            rw [List.mem_filterMap]
            refine ⟨k, List.mem_range.mpr hk1, ?_⟩
            rw [hk2, if_pos hs2]
          have hpos := List.length_pos_of_mem hmem
          refine (?_ : ∃ j, j < size ∧ c j = 0 ∧ _)
          have hv := List.getElem?_eq_getElem hpos
          have hin := List.getElem_mem hpos
          generalize ((List.range size).filterMap fun k : Nat => if c ((n + (k : Int)).fmod (size : Int)).toNat = 0 then some (N ((n + (k : Int)).fmod (size : Int)).toNat) else none)[0] = v at hv hin
          rw [List.mem_filterMap] at hin
          obtain ⟨k', hk', e⟩ := hin
          by_cases h0 : c ((n + (k' : Int)).fmod (size : Int)).toNat = 0
          · rw [if_pos h0] at e
            cases e
            exact ⟨_, imod_lt _ (by first | assumption | exact Nat.le_of_lt ‹_› | exact Nat.lt_succ_of_lt ‹_› | exact Nat.ne_of_lt ‹_› | exact Nat.ne_of_gt ‹_› | exact Nat.le_trans ‹_› (by decide) | exact Nat.lt_of_lt_of_le ‹_› (by decide) | decide | omega), h0, hv⟩
          · rw [if_neg h0] at e; cases e
        obtain ⟨j, hj1, hj2, hj3⟩ := hfree
        have g6 := getIdx_list l6 hj3 (by have := List.length_filterMap_le (fun k : Nat => if c ((n + (k : Int)).fmod (size : Int)).toNat = 0 then some (N ((n + (k : Int)).fmod (size : Int)).toNat) else none) (List.range size); rw [List.length_range] at this; omega)
        have st := setIdx_LN (x := mi) (K3 _ _ hc') hj1 hs'
        simp only [exs, exasn, exasn2, exsetattr, exsetidx, exaug, exaugidx, exaugattr, exite, exloop, exret, exexpr, exfail, evlit, evloc, evbin, evneg, evinv, evnot, evand, evor, evcmp, evcmp2, evmem, evite, evcall, evnew, evmeth, evlen, evlistOf, evsorted, evrng1, evrng2, evrng3, evappend, evcount, evattr, evidx, evslTo, evslFrom, evslBt, evrev, evlist, evtup, evcomp, evcompIf, evs, opV_int, t_bool, truthy_int, cmpV_int, cmpV_bool_eq, cmpV_bool_ne, runFn, getA, lookupA, storeA, Option.map_some, List.getElem?_cons_zero, List.getElem?_cons_succ, List.set_cons_zero, List.set_cons_succ, List.cons_append, List.nil_append, vlit, op_add, op_band, op_bor, op_bxor, op_shr, c_eq, c_ne, c_lt, c_le, c_gt, c_ge, List.length_cons, List.length_nil, List.map_cons, List.map_nil, Nat.zero_add, Nat.add_zero, reduceIte, List.replicate_succ, List.replicate_zero, Nat.reduceAdd, Nat.reduceSub, Nat.reduceEqDiff, Nat.sub_self, decide_true, decide_false, eq_self, Bool.not_true, Bool.not_false, beq_self_eq_true, g6, st]
        refine ⟨_, _, rfl, _, _, _, rfl, fun k o e => get_set_ne (K3 _ _ (K _ _ e)) (a1 e), get_set (K3 _ _ hc'), fun s hs => ?_, ?_⟩
        · by_cases e : s = j
          · simp only [e, if_true]; exact hc mi (List.mem_of_getElem? hmi)
          · simp only [e, if_false]; exact hce s hs
        · have := cnt_upd (f := c) (f' := fun s => if s = j then mi else c s) (j := j) 0 (fun s hs => by simp [hs]) size
          rw [if_pos hj1] at this
          omega)
    clear hL
    refine ⟨_, _, rfl, Run.ret ?_⟩
    simp only [exs, exasn, exasn2, exsetattr, exsetidx, exaug, exaugidx, exaugattr, exite, exloop, exret, exexpr, exfail, evlit, evloc, evbin, evneg, evinv, evnot, evand, evor, evcmp, evcmp2, evmem, evite, evcall, evnew, evmeth, evlen, evlistOf, evsorted, evrng1, evrng2, evrng3, evappend, evcount, evattr, evidx, evslTo, evslFrom, evslBt, evrev, evlist, evtup, evcomp, evcompIf, evs, opV_int, t_bool, truthy_int, cmpV_int, cmpV_bool_eq, cmpV_bool_ne, runFn, getA, lookupA, storeA, Option.map_some, List.getElem?_cons_zero, List.getElem?_cons_succ, List.set_cons_zero, List.set_cons_succ, List.cons_append, List.nil_append, vlit, op_add, op_band, op_bor, op_bxor, op_shr, c_eq, c_ne, c_lt, c_le, c_gt, c_ge, List.length_cons, List.length_nil, List.map_cons, List.map_nil, Nat.zero_add, Nat.add_zero, reduceIte, List.replicate_succ, List.replicate_zero, Nat.reduceAdd, Nat.reduceSub, Nat.reduceEqDiff, Nat.sub_self, decide_true, decide_false, eq_self, Bool.not_true, Bool.not_false, beq_self_eq_true]
    exact ⟨_, _, rfl, _, _, rfl, c2, K2, q2, lkc⟩
  obtain ⟨v, h', e, k, c, rfl, q⟩ := key
  exact ⟨k, h', c, e, q⟩

end Mz
end

section
open PySem PySem.W PyProof.Rows
set_option Elab.async false
set_option autoImplicit false

set_option tactic.hygienic false
namespace Mz

theorem setA_of {h : Hp} {k c a : Nat} {fs : List (Nat × V)} {v : V} (hk : h[k]? = some (.inst c fs)) (hl : fs.length ≤ 100) : setA h (.ref k) a v = some (h.set k (.inst c (storeA a v fs))) := by
  simp only [setA, hk, hl, if_true]

theorem Run.field {F : FnT} {e : X} {b : B} {a k c : Nat} {l : Loc} {h h1 : Hp} {fs : List (Nat × V)} {v : V} {Q : V → Hp → Prop} (he : ev tab F e l h = some (v, h1)) (hs : l[0]? = some (some (.ref k))) (hk : h1[k]? = some (.inst c fs)) (hl : fs.length ≤ 100)
    (r : ∀ h2, h2[k]? = some (.inst c (storeA a v fs)) → Kx k h1 h2 → Run F b l h2 Q) : Run F (.cons (.setattr (.loc 0) a e) b) l h Q :=
  Run.cons ⟨l, _, by simp only [exasn, exasn2, exsetattr, exsetidx, exaug, exaugidx, exaugattr, exite, exloop, exret, exexpr, exfail, he, evlit, evloc, evbin, evneg, evinv, evnot, evand, evor, evcmp, evcmp2, evmem, evite, evcall, evnew, evmeth, evlen, evlistOf, evsorted, evrng1, evrng2, evrng3, evappend, evcount, evattr, evidx, evslTo, evslFrom, evslBt, evrev, evlist, evtup, evcomp, evcompIf, hs, setA_of hk hl, Option.map_some], r _ (get_set hk) (Kx.set _ _ _)⟩

theorem f_pos_init (d : Nat) {h : Hp} {k g z size files : Nat} (hk : h[k]? = some (.inst 4 [])) (hg : GeoAt h g size files) (hs : size ≤ 1000) :
    ∃ h', Fd tab (d + 1) 22 [.ref k, .ref g, .ref z] h = some (.none, h') ∧ Kx k h h' ∧ ∃ b ks ss hi, h'[k]? = some (posO g z b ks ss hi 0 0 (-1) 0) ∧ h'[b]? = some (LN size fun _ => 0) ∧ h'[ks]? = some (LN 7 fun _ => 0) ∧ h'[ss]? = some (LN 2 fun _ => 0) ∧
      h.length ≤ b ∧ b < ks ∧ ks < ss := by
  have key : ∃ v h', Fd tab (d + 1) 22 [.ref k, .ref g, .ref z] h = some (v, h') ∧ (v = .none ∧ Kx k h h' ∧ ∃ b ks ss hi, h'[k]? = some (posO g z b ks ss hi 0 0 (-1) 0) ∧ h'[b]? = some (LN size fun _ => 0) ∧ h'[ks]? = some (LN 7 fun _ => 0) ∧ h'[ss]? = some (LN 2 fun _ => 0) ∧
      h.length ≤ b ∧ b < ks ∧ ks < ss) := by
    refine fd_run rfl rfl ?_
    show Run _ b_Position_init _ _ _
    unfold b_Position_init
    simp only [List.map_cons, List.map_nil, List.cons_append, List.nil_append, List.replicate_succ, List.replicate_zero, Nat.reduceSub]
    refine Run.field (v := .ref g) (h1 := h) (by simp only [exs, exasn, exasn2, exsetattr, exsetidx, exaug, exaugidx, exaugattr, exite, exloop, exret, exexpr, exfail, evlit, evloc, evbin, evneg, evinv, evnot, evand, evor, evcmp, evcmp2, evmem, evite, evcall, evnew, evmeth, evlen, evlistOf, evsorted, evrng1, evrng2, evrng3, evappend, evcount, evattr, evidx, evslTo, evslFrom, evslBt, evrev, evlist, evtup, evcomp, evcompIf, evs, opV_int, t_bool, truthy_int, cmpV_int, cmpV_bool_eq, cmpV_bool_ne, runFn, getA, lookupA, storeA, Option.map_some, List.getElem?_cons_zero, List.getElem?_cons_succ, List.set_cons_zero, List.set_cons_succ, List.cons_append, List.nil_append, vlit, op_add, op_band, op_bor, op_bxor, op_shr, c_eq, c_ne, c_lt, c_le, c_gt, c_ge, List.length_cons, List.length_nil, List.map_cons, List.map_nil, Nat.zero_add, Nat.add_zero, reduceIte, List.replicate_succ, List.replicate_zero, Nat.reduceAdd, Nat.reduceSub, Nat.reduceEqDiff, Nat.sub_self, decide_true, decide_false, eq_self, Bool.not_true, Bool.not_false, beq_self_eq_true]) rfl hk (by simp) fun h1 p1 K1 => ?_
    refine Run.field (v := .ref z) (h1 := h1) (by simp only [exs, exasn, exasn2, exsetattr, exsetidx, exaug, exaugidx, exaugattr, exite, exloop, exret, exexpr, exfail, evlit, evloc, evbin, evneg, evinv, evnot, evand, evor, evcmp, evcmp2, evmem, evite, evcall, evnew, evmeth, evlen, evlistOf, evsorted, evrng1, evrng2, evrng3, evappend, evcount, evattr, evidx, evslTo, evslFrom, evslBt, evrev, evlist, evtup, evcomp, evcompIf, evs, opV_int, t_bool, truthy_int, cmpV_int, cmpV_bool_eq, cmpV_bool_ne, runFn, getA, lookupA, storeA, Option.map_some, List.getElem?_cons_zero, List.getElem?_cons_succ, List.set_cons_zero, List.set_cons_succ, List.cons_append, List.nil_append, vlit, op_add, op_band, op_bor, op_bxor, op_shr, c_eq, c_ne, c_lt, c_le, c_gt, c_ge, List.length_cons, List.length_nil, List.map_cons, List.map_nil, Nat.zero_add, Nat.add_zero, reduceIte, List.replicate_succ, List.replicate_zero, Nat.reduceAdd, Nat.reduceSub, Nat.reduceEqDiff, Nat.sub_self, decide_true, decide_false, eq_self, Bool.not_true, Bool.not_false, beq_self_eq_true]) rfl p1 (by simp [storeA]) fun h2 p2 K2 => ?_
    have K02 := K1.trans K2
    obtain ⟨fs, g1, g2, g3⟩ := hg
    by_cases hgk : g = k
    · subst hgk; rw [hk] at g1; cases g1
    have g1' := K02 _ _ hgk g1
    have m1 := mul_list (get_new h2 (.list [N 0])) (n := size) hs
    refine Run.field (v := .ref (h2 ++ [O.list [N 0]]).length) (h1 := h2 ++ [.list [N 0]] ++ [LN size fun _ => 0]) (by simp only [exs, exasn, exasn2, exsetattr, exsetidx, exaug, exaugidx, exaugattr, exite, exloop, exret, exexpr, exfail, evlit, evloc, evbin, evneg, evinv, evnot, evand, evor, evcmp, evcmp2, evmem, evite, evcall, evnew, evmeth, evlen, evlistOf, evsorted, evrng1, evrng2, evrng3, evappend, evcount, evattr, evidx, evslTo, evslFrom, evslBt, evrev, evlist, evtup, evcomp, evcompIf, evs, opV_int, t_bool, truthy_int, cmpV_int, cmpV_bool_eq, cmpV_bool_ne, runFn, getA, lookupA, storeA, Option.map_some, List.getElem?_cons_zero, List.getElem?_cons_succ, List.set_cons_zero, List.set_cons_succ, List.cons_append, List.nil_append, vlit, op_add, op_band, op_bor, op_bxor, op_shr, c_eq, c_ne, c_lt, c_le, c_gt, c_ge, List.length_cons, List.length_nil, List.map_cons, List.map_nil, Nat.zero_add, Nat.add_zero, reduceIte, List.replicate_succ, List.replicate_zero, Nat.reduceAdd, Nat.reduceSub, Nat.reduceEqDiff, Nat.sub_self, decide_true, decide_false, eq_self, Bool.not_true, Bool.not_false, beq_self_eq_true, get_app g1', g3, m1]) rfl (get_app (get_app p2 _) _) (by simp [storeA]) fun h3 p3 K3 => ?_
    have n3 := get_new (h2 ++ [.list [N 0]]) (LN size fun _ => 0)
    have b3 := K3 _ _ (ne_of n3 (get_app (get_app p2 _) _) (by simp)) n3
    have L02 : h.length ≤ h2.length := by
      have a1 : h.length = h.length := rfl
      rcases Nat.lt_or_ge h2.length h.length with q | q
      · have e1 : h[h2.length]? = some h[h2.length] := List.getElem?_eq_getElem q
        by_cases qk : h2.length = k
        · have := lt_of p2; omega
        · have := lt_of (K02 _ _ qk e1); omega
      · exact q
    have hb3 : h.length ≤ (h2 ++ [O.list [N 0]]).length := by rw [List.length_append]; omega
    have K03 : Kx k h h3 := (K02.trans (((Kp.app _ _).trans (Kp.app _ _)).x k)).trans K3
    generalize (h2 ++ [O.list [N 0]]).length = b at p3 b3 hb3
    -- kinds
    have m2 := mul_list (get_new h3 (.list [N 0])) (n := 7) (by decide)
    refine Run.field (v := .ref (h3 ++ [O.list [N 0]]).length) (h1 := h3 ++ [.list [N 0]] ++ [LN 7 fun _ => 0]) (by simp only [exs, exasn, exasn2, exsetattr, exsetidx, exaug, exaugidx, exaugattr, exite, exloop, exret, exexpr, exfail, evlit, evloc, evbin, evneg, evinv, evnot, evand, evor, evcmp, evcmp2, evmem, evite, evcall, evnew, evmeth, evlen, evlistOf, evsorted, evrng1, evrng2, evrng3, evappend, evcount, evattr, evidx, evslTo, evslFrom, evslBt, evrev, evlist, evtup, evcomp, evcompIf, evs, opV_int, t_bool, truthy_int, cmpV_int, cmpV_bool_eq, cmpV_bool_ne, runFn, getA, lookupA, storeA, Option.map_some, List.getElem?_cons_zero, List.getElem?_cons_succ, List.set_cons_zero, List.set_cons_succ, List.cons_append, List.nil_append, vlit, op_add, op_band, op_bor, op_bxor, op_shr, c_eq, c_ne, c_lt, c_le, c_gt, c_ge, List.length_cons, List.length_nil, List.map_cons, List.map_nil, Nat.zero_add, Nat.add_zero, reduceIte, List.replicate_succ, List.replicate_zero, Nat.reduceAdd, Nat.reduceSub, Nat.reduceEqDiff, Nat.sub_self, decide_true, decide_false, eq_self, Bool.not_true, Bool.not_false, beq_self_eq_true, m2]) rfl (get_app (get_app p3 _) _) (by simp [storeA]) fun h4 p4 K4 => ?_
    have n4 := get_new (h3 ++ [.list [N 0]]) (LN 7 fun _ => 0)
    have k4 := K4 _ _ (ne_of n4 (get_app (get_app p3 _) _) (by simp)) n4
    have b3' := get_app (get_app b3 [O.list [N 0]]) [LN 7 fun _ => 0]
    have b4 := K4 _ _ (ne_of b3' (get_app (get_app p3 _) _) (by simp)) b3'
    have hk4 : b < (h3 ++ [O.list [N 0]]).length := by have := lt_of b3; rw [List.length_append]; omega
    have K04 : Kx k h h4 := (K03.trans (((Kp.app _ _).trans (Kp.app _ _)).x k)).trans K4
    generalize (h3 ++ [O.list [N 0]]).length = ks at p4 k4 hk4
    -- sides
    refine Run.field (v := .ref h4.length) (h1 := h4 ++ [LN 2 fun _ => 0]) (by simp only [exs, exasn, exasn2, exsetattr, exsetidx, exaug, exaugidx, exaugattr, exite, exloop, exret, exexpr, exfail, evlit, evloc, evbin, evneg, evinv, evnot, evand, evor, evcmp, evcmp2, evmem, evite, evcall, evnew, evmeth, evlen, evlistOf, evsorted, evrng1, evrng2, evrng3, evappend, evcount, evattr, evidx, evslTo, evslFrom, evslBt, evrev, evlist, evtup, evcomp, evcompIf, evs, opV_int, t_bool, truthy_int, cmpV_int, cmpV_bool_eq, cmpV_bool_ne, runFn, getA, lookupA, storeA, Option.map_some, List.getElem?_cons_zero, List.getElem?_cons_succ, List.set_cons_zero, List.set_cons_succ, List.cons_append, List.nil_append, vlit, op_add, op_band, op_bor, op_bxor, op_shr, c_eq, c_ne, c_lt, c_le, c_gt, c_ge, List.length_cons, List.length_nil, List.map_cons, List.map_nil, Nat.zero_add, Nat.add_zero, reduceIte, List.replicate_succ, List.replicate_zero, Nat.reduceAdd, Nat.reduceSub, Nat.reduceEqDiff, Nat.sub_self, decide_true, decide_false, eq_self, Bool.not_true, Bool.not_false, beq_self_eq_true]; rfl) rfl (get_app p4 _) (by simp [storeA]) fun h5 p5 K5 => ?_
    have n5 := get_new h4 (LN 2 fun _ => 0)
    have s5 := K5 _ _ (ne_of n5 (get_app p4 _) (by simp)) n5
    have b4' := get_app b4 [LN 2 fun _ => 0]
    have b5 := K5 _ _ (ne_of b4' (get_app p4 _) (by simp)) b4'
    have k4' := get_app k4 [LN 2 fun _ => 0]
    have k5 := K5 _ _ (ne_of k4' (get_app p4 _) (by simp)) k4'
    clear n3 n4 n5 b3' b4' k4'
    have hs5 : ks < h4.length := lt_of k4
    have K05 : Kx k h h5 := (K04.trans ((Kp.app _ _).x k)).trans K5
    generalize h4.length = ss at p5 s5 hs5
    -- the rest
    refine Run.field (v := N 0) (h1 := h5) (by simp only [exs, exasn, exasn2, exsetattr, exsetidx, exaug, exaugidx, exaugattr, exite, exloop, exret, exexpr, exfail, evlit, evloc, evbin, evneg, evinv, evnot, evand, evor, evcmp, evcmp2, evmem, evite, evcall, evnew, evmeth, evlen, evlistOf, evsorted, evrng1, evrng2, evrng3, evappend, evcount, evattr, evidx, evslTo, evslFrom, evslBt, evrev, evlist, evtup, evcomp, evcompIf, evs, opV_int, t_bool, truthy_int, cmpV_int, cmpV_bool_eq, cmpV_bool_ne, runFn, getA, lookupA, storeA, Option.map_some, List.getElem?_cons_zero, List.getElem?_cons_succ, List.set_cons_zero, List.set_cons_succ, List.cons_append, List.nil_append, vlit, op_add, op_band, op_bor, op_bxor, op_shr, c_eq, c_ne, c_lt, c_le, c_gt, c_ge, List.length_cons, List.length_nil, List.map_cons, List.map_nil, Nat.zero_add, Nat.add_zero, reduceIte, List.replicate_succ, List.replicate_zero, Nat.reduceAdd, Nat.reduceSub, Nat.reduceEqDiff, Nat.sub_self, decide_true, decide_false, eq_self, Bool.not_true, Bool.not_false, beq_self_eq_true]) rfl p5 (by simp [storeA]) fun h6 p6 K6 => ?_
    refine Run.field (v := N 0) (h1 := h6) (by simp only [exs, exasn, exasn2, exsetattr, exsetidx, exaug, exaugidx, exaugattr, exite, exloop, exret, exexpr, exfail, evlit, evloc, evbin, evneg, evinv, evnot, evand, evor, evcmp, evcmp2, evmem, evite, evcall, evnew, evmeth, evlen, evlistOf, evsorted, evrng1, evrng2, evrng3, evappend, evcount, evattr, evidx, evslTo, evslFrom, evslBt, evrev, evlist, evtup, evcomp, evcompIf, evs, opV_int, t_bool, truthy_int, cmpV_int, cmpV_bool_eq, cmpV_bool_ne, runFn, getA, lookupA, storeA, Option.map_some, List.getElem?_cons_zero, List.getElem?_cons_succ, List.set_cons_zero, List.set_cons_succ, List.cons_append, List.nil_append, vlit, op_add, op_band, op_bor, op_bxor, op_shr, c_eq, c_ne, c_lt, c_le, c_gt, c_ge, List.length_cons, List.length_nil, List.map_cons, List.map_nil, Nat.zero_add, Nat.add_zero, reduceIte, List.replicate_succ, List.replicate_zero, Nat.reduceAdd, Nat.reduceSub, Nat.reduceEqDiff, Nat.sub_self, decide_true, decide_false, eq_self, Bool.not_true, Bool.not_false, beq_self_eq_true]) rfl p6 (by simp [storeA]) fun h7 p7 K7 => ?_
    refine Run.field (v := .int (-((1 : Nat) : Int))) (h1 := h7) (by simp only [exs, exasn, exasn2, exsetattr, exsetidx, exaug, exaugidx, exaugattr, exite, exloop, exret, exexpr, exfail, evlit, evloc, evbin, evneg, evinv, evnot, evand, evor, evcmp, evcmp2, evmem, evite, evcall, evnew, evmeth, evlen, evlistOf, evsorted, evrng1, evrng2, evrng3, evappend, evcount, evattr, evidx, evslTo, evslFrom, evslBt, evrev, evlist, evtup, evcomp, evcompIf, evs, opV_int, t_bool, truthy_int, cmpV_int, cmpV_bool_eq, cmpV_bool_ne, runFn, getA, lookupA, storeA, Option.map_some, List.getElem?_cons_zero, List.getElem?_cons_succ, List.set_cons_zero, List.set_cons_succ, List.cons_append, List.nil_append, vlit, op_add, op_band, op_bor, op_bxor, op_shr, c_eq, c_ne, c_lt, c_le, c_gt, c_ge, List.length_cons, List.length_nil, List.map_cons, List.map_nil, Nat.zero_add, Nat.add_zero, reduceIte, List.replicate_succ, List.replicate_zero, Nat.reduceAdd, Nat.reduceSub, Nat.reduceEqDiff, Nat.sub_self, decide_true, decide_false, eq_self, Bool.not_true, Bool.not_false, beq_self_eq_true]) rfl p7 (by simp [storeA]) fun h8 p8 K8 => ?_
    refine Run.field (v := N 0) (h1 := h8) (by simp only [exs, exasn, exasn2, exsetattr, exsetidx, exaug, exaugidx, exaugattr, exite, exloop, exret, exexpr, exfail, evlit, evloc, evbin, evneg, evinv, evnot, evand, evor, evcmp, evcmp2, evmem, evite, evcall, evnew, evmeth, evlen, evlistOf, evsorted, evrng1, evrng2, evrng3, evappend, evcount, evattr, evidx, evslTo, evslFrom, evslBt, evrev, evlist, evtup, evcomp, evcompIf, evs, opV_int, t_bool, truthy_int, cmpV_int, cmpV_bool_eq, cmpV_bool_ne, runFn, getA, lookupA, storeA, Option.map_some, List.getElem?_cons_zero, List.getElem?_cons_succ, List.set_cons_zero, List.set_cons_succ, List.cons_append, List.nil_append, vlit, op_add, op_band, op_bor, op_bxor, op_shr, c_eq, c_ne, c_lt, c_le, c_gt, c_ge, List.length_cons, List.length_nil, List.map_cons, List.map_nil, Nat.zero_add, Nat.add_zero, reduceIte, List.replicate_succ, List.replicate_zero, Nat.reduceAdd, Nat.reduceSub, Nat.reduceEqDiff, Nat.sub_self, decide_true, decide_false, eq_self, Bool.not_true, Bool.not_false, beq_self_eq_true]) rfl p8 (by simp [storeA]) fun h9 p9 K9 => ?_
    refine Run.field (v := N 1) (h1 := h9) (by simp only [exs, exasn, exasn2, exsetattr, exsetidx, exaug, exaugidx, exaugattr, exite, exloop, exret, exexpr, exfail, evlit, evloc, evbin, evneg, evinv, evnot, evand, evor, evcmp, evcmp2, evmem, evite, evcall, evnew, evmeth, evlen, evlistOf, evsorted, evrng1, evrng2, evrng3, evappend, evcount, evattr, evidx, evslTo, evslFrom, evslBt, evrev, evlist, evtup, evcomp, evcompIf, evs, opV_int, t_bool, truthy_int, cmpV_int, cmpV_bool_eq, cmpV_bool_ne, runFn, getA, lookupA, storeA, Option.map_some, List.getElem?_cons_zero, List.getElem?_cons_succ, List.set_cons_zero, List.set_cons_succ, List.cons_append, List.nil_append, vlit, op_add, op_band, op_bor, op_bxor, op_shr, c_eq, c_ne, c_lt, c_le, c_gt, c_ge, List.length_cons, List.length_nil, List.map_cons, List.map_nil, Nat.zero_add, Nat.add_zero, reduceIte, List.replicate_succ, List.replicate_zero, Nat.reduceAdd, Nat.reduceSub, Nat.reduceEqDiff, Nat.sub_self, decide_true, decide_false, eq_self, Bool.not_true, Bool.not_false, beq_self_eq_true]) rfl p9 (by simp [storeA]) fun h10 p10 K10 => ?_
    refine Run.field (v := N 0) (h1 := h10) (by simp only [exs, exasn, exasn2, exsetattr, exsetidx, exaug, exaugidx, exaugattr, exite, exloop, exret, exexpr, exfail, evlit, evloc, evbin, evneg, evinv, evnot, evand, evor, evcmp, evcmp2, evmem, evite, evcall, evnew, evmeth, evlen, evlistOf, evsorted, evrng1, evrng2, evrng3, evappend, evcount, evattr, evidx, evslTo, evslFrom, evslBt, evrev, evlist, evtup, evcomp, evcompIf, evs, opV_int, t_bool, truthy_int, cmpV_int, cmpV_bool_eq, cmpV_bool_ne, runFn, getA, lookupA, storeA, Option.map_some, List.getElem?_cons_zero, List.getElem?_cons_succ, List.set_cons_zero, List.set_cons_succ, List.cons_append, List.nil_append, vlit, op_add, op_band, op_bor, op_bxor, op_shr, c_eq, c_ne, c_lt, c_le, c_gt, c_ge, List.length_cons, List.length_nil, List.map_cons, List.map_nil, Nat.zero_add, Nat.add_zero, reduceIte, List.replicate_succ, List.replicate_zero, Nat.reduceAdd, Nat.reduceSub, Nat.reduceEqDiff, Nat.sub_self, decide_true, decide_false, eq_self, Bool.not_true, Bool.not_false, beq_self_eq_true]) rfl p10 (by simp [storeA]) fun h11 p11 K11 => ?_
    refine Run.field (v := .ref h11.length) (h1 := h11 ++ [.list []]) (by simp only [exs, exasn, exasn2, exsetattr, exsetidx, exaug, exaugidx, exaugattr, exite, exloop, exret, exexpr, exfail, evlit, evloc, evbin, evneg, evinv, evnot, evand, evor, evcmp, evcmp2, evmem, evite, evcall, evnew, evmeth, evlen, evlistOf, evsorted, evrng1, evrng2, evrng3, evappend, evcount, evattr, evidx, evslTo, evslFrom, evslBt, evrev, evlist, evtup, evcomp, evcompIf, evs, opV_int, t_bool, truthy_int, cmpV_int, cmpV_bool_eq, cmpV_bool_ne, runFn, getA, lookupA, storeA, Option.map_some, List.getElem?_cons_zero, List.getElem?_cons_succ, List.set_cons_zero, List.set_cons_succ, List.cons_append, List.nil_append, vlit, op_add, op_band, op_bor, op_bxor, op_shr, c_eq, c_ne, c_lt, c_le, c_gt, c_ge, List.length_cons, List.length_nil, List.map_cons, List.map_nil, Nat.zero_add, Nat.add_zero, reduceIte, List.replicate_succ, List.replicate_zero, Nat.reduceAdd, Nat.reduceSub, Nat.reduceEqDiff, Nat.sub_self, decide_true, decide_false, eq_self, Bool.not_true, Bool.not_false, beq_self_eq_true]) rfl (get_app p11 _) (by simp [storeA]) fun h12 p12 K12 => ?_
    have K511 : Kx k h5 h12 := ((((((K6.trans K7).trans K8).trans K9).trans K10).trans K11).trans ((Kp.app _ _).x k)).trans K12
    refine Run.nil ⟨rfl, K05.trans K511, b, ks, ss, h11.length, ?_, K511 _ _ (ne_of b5 p5 (by simp)) b5, K511 _ _ (ne_of k5 p5 (by simp)) k5, K511 _ _ (ne_of s5 p5 (by simp)) s5, hb3, hk4, hs5⟩
    rw [p12]
    simp [storeA, posO]
  obtain ⟨v, h', e, rfl, q⟩ := key
  exact ⟨h', e, q⟩

end Mz
end

section
open PySem PySem.W PyProof.Rows
set_option Elab.async false
set_option autoImplicit false

set_option tactic.hygienic false

namespace Mz

theorem f_put_piece (d : Nat) {h : Hp} {p g z b ks ss hi size files side rights key c s : Nat} {T : Tb} {ep : Int} {bd kd sd : Nat → Nat} {h0 : Hp} (hz : ZobAt h0 z size files T) (K0 : Kp h0 h) (f1 : h0.length ≤ b) (f2 : h0.length ≤ ks) (f3 : h0.length ≤ ss) (hp : h[p]? = some (posO g z b ks ss hi side rights ep key))
    (hb : h[b]? = some (LN size bd)) (hk : h[ks]? = some (LN 7 kd)) (hss : h[ss]? = some (LN 2 sd)) (n1 : b ≠ ks) (n2 : b ≠ ss) (n3 : ks ≠ ss) (hs : s < size) (hsz : size ≤ 50) (hc : Cell c) (hc0 : c ≠ 0) :
    ∃ h' kd' sd', Fd tab (d + 2) 23 [.ref p, N c, N s] h = some (.none, h') ∧ h'[p]? = some (posO g z b ks ss hi side rights ep (key ^^^ T.P c s)) ∧ h'[b]? = some (LN size fun j => if j = s then c else bd j) ∧
      h'[ks]? = some (LN 7 kd') ∧ h'[ss]? = some (LN 2 sd') ∧ ∀ (k : Nat) (o : O), k ≠ p → k ≠ b → k ≠ ks → k ≠ ss → h[k]? = some o → h'[k]? = some o := by
  have hs' : size ≤ 1000 := by first | assumption | exact Nat.le_of_lt ‹_› | exact Nat.lt_succ_of_lt ‹_› | exact Nat.ne_of_lt ‹_› | exact Nat.ne_of_gt ‹_› | exact Nat.le_trans ‹_› (by decide) | exact Nat.lt_of_lt_of_le ‹_› (by decide) | decide | omega
  have key : ∃ v h', Fd tab (d + 2) 23 [.ref p, N c, N s] h = some (v, h') ∧ (v = .none ∧ ∃ kd' sd', h'[p]? = some (posO g z b ks ss hi side rights ep (key ^^^ T.P c s)) ∧ h'[b]? = some (LN size fun j => if j = s then c else bd j) ∧
      h'[ks]? = some (LN 7 kd') ∧ h'[ss]? = some (LN 2 sd') ∧ ∀ (k : Nat) (o : O), k ≠ p → k ≠ b → k ≠ ks → k ≠ ss → h[k]? = some o → h'[k]? = some o) := by
    refine fd_run rfl rfl ?_
    show Run _ b_put_piece _ _ _
    unfold b_put_piece
    simp only [List.map_cons, List.map_nil, List.cons_append, List.nil_append, List.replicate_succ, List.replicate_zero, Nat.reduceSub]
    refine Run.cons ?_
    have sh := op_shl (a := 1) (b := s) (by decide) (by first | assumption | exact Nat.le_of_lt ‹_› | exact Nat.lt_succ_of_lt ‹_› | exact Nat.ne_of_lt ‹_› | exact Nat.ne_of_gt ‹_› | exact Nat.le_trans ‹_› (by decide) | exact Nat.lt_of_lt_of_le ‹_› (by decide) | decide | omega)
    simp only [exs, exasn, exasn2, exsetattr, exsetidx, exaug, exaugidx, exaugattr, exite, exloop, exret, exexpr, exfail, evlit, evloc, evbin, evneg, evinv, evnot, evand, evor, evcmp, evcmp2, evmem, evite, evcall, evnew, evmeth, evlen, evlistOf, evsorted, evrng1, evrng2, evrng3, evappend, evcount, evattr, evidx, evslTo, evslFrom, evslBt, evrev, evlist, evtup, evcomp, evcompIf, evs, opV_int, t_bool, truthy_int, cmpV_int, cmpV_bool_eq, cmpV_bool_ne, runFn, getA, lookupA, storeA, Option.map_some, List.getElem?_cons_zero, List.getElem?_cons_succ, List.set_cons_zero, List.set_cons_succ, List.cons_append, List.nil_append, vlit, op_add, op_band, op_bor, op_bxor, op_shr, c_eq, c_ne, c_lt, c_le, c_gt, c_ge, List.length_cons, List.length_nil, List.map_cons, List.map_nil, Nat.zero_add, Nat.add_zero, reduceIte, List.replicate_succ, List.replicate_zero, Nat.reduceAdd, Nat.reduceSub, Nat.reduceEqDiff, Nat.sub_self, decide_true, decide_false, eq_self, Bool.not_true, Bool.not_false, beq_self_eq_true, sh]
    refine ⟨_, _, rfl, Run.cons ?_⟩
    have hp0 := hp
    unfold posO at hp0
    have st := setIdx_LN (x := c) hb hs hs'
    simp only [exs, exasn, exasn2, exsetattr, exsetidx, exaug, exaugidx, exaugattr, exite, exloop, exret, exexpr, exfail, evlit, evloc, evbin, evneg, evinv, evnot, evand, evor, evcmp, evcmp2, evmem, evite, evcall, evnew, evmeth, evlen, evlistOf, evsorted, evrng1, evrng2, evrng3, evappend, evcount, evattr, evidx, evslTo, evslFrom, evslBt, evrev, evlist, evtup, evcomp, evcompIf, evs, opV_int, t_bool, truthy_int, cmpV_int, cmpV_bool_eq, cmpV_bool_ne, runFn, getA, lookupA, storeA, Option.map_some, List.getElem?_cons_zero, List.getElem?_cons_succ, List.set_cons_zero, List.set_cons_succ, List.cons_append, List.nil_append, vlit, op_add, op_band, op_bor, op_bxor, op_shr, c_eq, c_ne, c_lt, c_le, c_gt, c_ge, List.length_cons, List.length_nil, List.map_cons, List.map_nil, Nat.zero_add, Nat.add_zero, reduceIte, List.replicate_succ, List.replicate_zero, Nat.reduceAdd, Nat.reduceSub, Nat.reduceEqDiff, Nat.sub_self, decide_true, decide_false, eq_self, Bool.not_true, Bool.not_false, beq_self_eq_true, hp0, st]
    refine ⟨_, _, rfl, Run.cons ?_⟩
    -- board set
    have P1 := get_set_ne hp (j := b) (o := LN size fun j => if j = s then c else bd j) (ne_of hp hb (by simp [posO]))
    have B1 := get_set hb (o := LN size fun j => if j = s then c else bd j)
    have k1 := get_set_ne hk (j := b) (o := LN size fun j => if j = s then c else bd j) (Ne.symm n1)
    have s1 := get_set_ne hss (j := b) (o := LN size fun j => if j = s then c else bd j) (Ne.symm n2)
    have X1 : Kx b h (h.set b (LN size fun j => if j = s then c else bd j)) := Kx.set _ _ _
    generalize h.set b (LN size fun j => if j = s then c else bd j) = h1 at P1 B1 k1 s1 X1
    have P1' := P1
    unfold posO at P1'
    have c7 : c % 8 < 7 := by have := hc.2.1; omega
    have g1 := getIdx_LV k1 c7 (by decide)
    have t1 := fun x => setIdx_LN (x := x) k1 c7 (by decide)
    simp only [exs, exasn, exasn2, exsetattr, exsetidx, exaug, exaugidx, exaugattr, exite, exloop, exret, exexpr, exfail, evlit, evloc, evbin, evneg, evinv, evnot, evand, evor, evcmp, evcmp2, evmem, evite, evcall, evnew, evmeth, evlen, evlistOf, evsorted, evrng1, evrng2, evrng3, evappend, evcount, evattr, evidx, evslTo, evslFrom, evslBt, evrev, evlist, evtup, evcomp, evcompIf, evs, opV_int, t_bool, truthy_int, cmpV_int, cmpV_bool_eq, cmpV_bool_ne, runFn, getA, lookupA, storeA, Option.map_some, List.getElem?_cons_zero, List.getElem?_cons_succ, List.set_cons_zero, List.set_cons_succ, List.cons_append, List.nil_append, vlit, op_add, op_band, op_bor, op_bxor, op_shr, c_eq, c_ne, c_lt, c_le, c_gt, c_ge, List.length_cons, List.length_nil, List.map_cons, List.map_nil, Nat.zero_add, Nat.add_zero, reduceIte, List.replicate_succ, List.replicate_zero, Nat.reduceAdd, Nat.reduceSub, Nat.reduceEqDiff, Nat.sub_self, decide_true, decide_false, eq_self, Bool.not_true, Bool.not_false, beq_self_eq_true, P1', f_kind_of, g1, t1]
    refine ⟨_, _, rfl, Run.cons ?_⟩
    have P2 := fun o => get_set_ne P1 (j := ks) (o := o) (ne_of P1 k1 (by simp [posO]))
    have B2 := fun o => get_set_ne B1 (j := ks) (o := o) n1
    have k2 := fun o => get_set k1 (o := o)
    have s2 := fun o => get_set_ne s1 (j := ks) (o := o) (Ne.symm n3)
    have X2 : ∀ o, Kx ks h1 (h1.set ks o) := fun o => Kx.set _ _ _
    generalize hkd : (fun j => if j = c % 8 then kd (c % 8) ||| 1 * 2 ^ s else kd j) = kd'
    replace P2 := P2 (LN 7 kd')
    replace B2 := B2 (LN 7 kd')
    replace k2 := k2 (LN 7 kd')
    replace s2 := s2 (LN 7 kd')
    replace X2 := X2 (LN 7 kd')
    generalize h1.set ks (LN 7 kd') = h2 at P2 B2 k2 s2 X2
    have P2' := P2
    unfold posO at P2'
    have c2 : c / 8 < 2 := by have := hc.1; omega
    have g2 := getIdx_LV s2 c2 (by decide)
    have t2 := fun x => setIdx_LN (x := x) s2 c2 (by decide)
    simp only [exs, exasn, exasn2, exsetattr, exsetidx, exaug, exaugidx, exaugattr, exite, exloop, exret, exexpr, exfail, evlit, evloc, evbin, evneg, evinv, evnot, evand, evor, evcmp, evcmp2, evmem, evite, evcall, evnew, evmeth, evlen, evlistOf, evsorted, evrng1, evrng2, evrng3, evappend, evcount, evattr, evidx, evslTo, evslFrom, evslBt, evrev, evlist, evtup, evcomp, evcompIf, evs, opV_int, t_bool, truthy_int, cmpV_int, cmpV_bool_eq, cmpV_bool_ne, runFn, getA, lookupA, storeA, Option.map_some, List.getElem?_cons_zero, List.getElem?_cons_succ, List.set_cons_zero, List.set_cons_succ, List.cons_append, List.nil_append, vlit, op_add, op_band, op_bor, op_bxor, op_shr, c_eq, c_ne, c_lt, c_le, c_gt, c_ge, List.length_cons, List.length_nil, List.map_cons, List.map_nil, Nat.zero_add, Nat.add_zero, reduceIte, List.replicate_succ, List.replicate_zero, Nat.reduceAdd, Nat.reduceSub, Nat.reduceEqDiff, Nat.sub_self, decide_true, decide_false, eq_self, Bool.not_true, Bool.not_false, beq_self_eq_true, P2', f_side_of, g2, t2]
    refine ⟨_, _, rfl, Run.cons ?_⟩
    generalize hsd : (fun j => if j = c / 8 then sd (c / 8) ||| 1 * 2 ^ s else sd j) = sd'
    have P3 := get_set_ne P2 (j := ss) (o := LN 2 sd') (ne_of P2 s2 (by simp [posO]))
    have B3 := get_set_ne B2 (j := ss) (o := LN 2 sd') n2
    have k3 := get_set_ne k2 (j := ss) (o := LN 2 sd') n3
    have s3 := get_set s2 (o := LN 2 sd')
    have X3 : Kx ss h2 (h2.set ss (LN 2 sd')) := Kx.set _ _ _
    generalize h2.set ss (LN 2 sd') = h3 at P3 B3 k3 s3 X3
    -- the numbers stand
    have X03 : ∀ (k : Nat) (o : O), k ≠ b → k ≠ ks → k ≠ ss → h[k]? = some o → h3[k]? = some o := fun k o a1 a2 a3 e => X3 _ _ a3 (X2 _ _ a2 (X1 _ _ a1 e))
    have K03 : Kp h0 h3 := fun k o e => X03 k o (new_apart e f1) (new_apart e f2) (new_apart e f3) (K0 _ _ e)
    obtain ⟨a, e, r, rs, z1, z2, z3, z4, z5⟩ := hz.mono K03
    have P3' := P3
    unfold posO at P3'
    have i1 := getIdx_LV z2 hc.1 (by decide)
    have i2 := getIdx_LV (z5 _ hc.1) (i := s) (by rw [hc.rl (hc.ne hc0)]; exact hs) (by rw [hc.rl (hc.ne hc0)]; exact hs')
    have sa : setA h3 (.ref p) 26 (N (key ^^^ T.P c s)) = some (h3.set p (posO g z b ks ss hi side rights ep (key ^^^ T.P c s))) := by
      simp [setA, P3', posO, storeA]
    simp only [exs, exasn, exasn2, exsetattr, exsetidx, exaug, exaugidx, exaugattr, exite, exloop, exret, exexpr, exfail, evlit, evloc, evbin, evneg, evinv, evnot, evand, evor, evcmp, evcmp2, evmem, evite, evcall, evnew, evmeth, evlen, evlistOf, evsorted, evrng1, evrng2, evrng3, evappend, evcount, evattr, evidx, evslTo, evslFrom, evslBt, evrev, evlist, evtup, evcomp, evcompIf, evs, opV_int, t_bool, truthy_int, cmpV_int, cmpV_bool_eq, cmpV_bool_ne, runFn, getA, lookupA, storeA, Option.map_some, List.getElem?_cons_zero, List.getElem?_cons_succ, List.set_cons_zero, List.set_cons_succ, List.cons_append, List.nil_append, vlit, op_add, op_band, op_bor, op_bxor, op_shr, c_eq, c_ne, c_lt, c_le, c_gt, c_ge, List.length_cons, List.length_nil, List.map_cons, List.map_nil, Nat.zero_add, Nat.add_zero, reduceIte, List.replicate_succ, List.replicate_zero, Nat.reduceAdd, Nat.reduceSub, Nat.reduceEqDiff, Nat.sub_self, decide_true, decide_false, eq_self, Bool.not_true, Bool.not_false, beq_self_eq_true, P3', z1, i1, i2, sa]
    refine ⟨_, _, rfl, Run.nil ⟨rfl, kd', sd', get_set P3, get_set_ne B3 (ne_of B3 P3 (by simp [posO])), get_set_ne k3 (ne_of k3 P3 (by simp [posO])), get_set_ne s3 (ne_of s3 P3 (by simp [posO])), fun k o a1 a2 a3 a4 e => get_set_ne (X03 k o a2 a3 a4 e) a1⟩⟩
  obtain ⟨v, h', e, rfl, kd', sd', q⟩ := key
  exact ⟨h', kd', sd', e, q⟩


/-! ### a position -/

theorem kx_front (f : Nat → Nat) : ∀ n, kx f (n + 1) = f 0 ^^^ kx (fun s => f (s + 1)) n
  | 0 => by simp [kx]
  | n + 1 => by
    have h := kx_front f n
    rw [kx_succ, h, kx_succ, Nat.xor_assoc]
theorem kx_rev : ∀ (n : Nat) (f : Nat → Nat), kx (fun j => f (n - 1 - j)) n = kx f n
  | 0, f => rfl
  | n + 1, f => by
    have ih := kx_rev n (fun s => f (s + 1))
    rw [kx_succ, kx_front f n, ← ih, Nat.xor_comm]
    have e1 : n + 1 - 1 - n = 0 := by first | assumption | exact Nat.le_of_lt ‹_› | exact Nat.lt_succ_of_lt ‹_› | exact Nat.ne_of_lt ‹_› | exact Nat.ne_of_gt ‹_› | exact Nat.le_trans ‹_› (by decide) | exact Nat.lt_of_lt_of_le ‹_› (by decide) | decide | omega
    rw [e1]
    congr 1
    refine kx_congr fun s hs => ?_
    have e2 : n + 1 - 1 - s = n - 1 - s + 1 := by first | assumption | exact Nat.le_of_lt ‹_› | exact Nat.lt_succ_of_lt ‹_› | exact Nat.ne_of_lt ‹_› | exact Nat.ne_of_gt ‹_› | exact Nat.le_trans ‹_› (by decide) | exact Nat.lt_of_lt_of_le ‹_› (by decide) | decide | omega
    rw [e2]

theorem rev_range (n : Nat) : ((List.range n).map N).reverse = (List.range n).map fun i => N (n - 1 - i) := by
  apply List.ext_getElem
  · simp
  · intro k h1 h2
    simp

theorem mkList_rng {h : Hp} {k n : Nat} (hk : h[k]? = some (.rng 0 1 n)) (hn : n ≤ 1000) : mkList h (.ref k) = some (.ref h.length, h ++ [LV n N]) := by
  have e : (fun i : Nat => V.int (0 + (i : Int) * 1)) = N := by
    funext i
    rw [show (0 : Int) + (i : Int) * 1 = (i : Int) by first | assumption | exact Nat.le_of_lt ‹_› | exact Nat.lt_succ_of_lt ‹_› | exact Nat.ne_of_lt ‹_› | exact Nat.ne_of_gt ‹_› | exact Nat.le_trans ‹_› (by decide) | exact Nat.lt_of_lt_of_le ‹_› (by decide) | decide | omega]
  simp only [mkList, hk, hn, if_true, e]

noncomputable def allk (T : Tb) (cells : Nat → Nat) (size : Nat) : Nat := kx (fun s => if cells s ≠ 0 then T.P (cells s) s else 0) size

section
variable {h : Hp} {p g z b ks ss hi side rights key : Nat} {ep : Int}
theorem setA_side (x : h[p]? = some (posO g z b ks ss hi side rights ep key)) (n : Nat) : setA h (.ref p) 4 (N n) = some (h.set p (posO g z b ks ss hi n rights ep key)) := by
  simp [setA, x, posO, storeA]
theorem setA_rights (x : h[p]? = some (posO g z b ks ss hi side rights ep key)) (n : Nat) : setA h (.ref p) 3 (N n) = some (h.set p (posO g z b ks ss hi side n ep key)) := by
  simp [setA, x, posO, storeA]
theorem setA_ep (x : h[p]? = some (posO g z b ks ss hi side rights ep key)) (n : Int) : setA h (.ref p) 2 (.int n) = some (h.set p (posO g z b ks ss hi side rights n key)) := by
  simp [setA, x, posO, storeA]
theorem ne_posO {n : Nat} {f : Nat → Nat} : LN n f ≠ posO g z b ks ss hi side rights ep key := fun x => by unfold posO at x; cases x
end
theorem posn_end {F : FnT} {h : Hp} {p g z b ks ss hi key cl size : Nat} {n : Int} {cells : Nat → Nat} {a0 a1 a4 a6 a7 : Option V} {Q : V → Hp → Prop} (pp : h[p]? = some (posO g z b ks ss hi 0 0 (-1) key)) (hcl : h[cl]? = some (LN size cells)) (hs : size ≤ 1000)
    (q : ∀ h1, Kx p h h1 → h1[p]? = some (posO g z b ks ss hi (n.fmod ((2 : Nat) : Int)).toNat ((n.fdiv ((2 : Nat) : Int)).fmod ((16 : Nat) : Int)).toNat (((((n.fdiv ((32 : Nat) : Int)).fmod ((size + 1 : Nat) : Int)).toNat : Nat) : Int) - ((1 : Nat) : Int)) key) → Q (.ref p) h1) :
    Run F b_law_position.tl.tl.tl.tl [a0, a1, some (.ref cl), some (.int n), a4, some (.ref p), a6, a7] h Q := by
  refine Run.step (xsetattr (ebin (eloc rfl) elit (vop (op_imod (b := 2) (by decide)))) (eloc rfl) (setA_side pp _)) ?_
  have X1 := Kx.set h p (posO g z b ks ss hi (n.fmod ((2 : Nat) : Int)).toNat 0 (-1) key)
  have p1 := get_set pp (o := posO g z b ks ss hi (n.fmod ((2 : Nat) : Int)).toNat 0 (-1) key)
  generalize h.set p (posO g z b ks ss hi (n.fmod ((2 : Nat) : Int)).toNat 0 (-1) key) = h1 at X1 p1
  refine Run.step (xsetattr (ebin (ebin (eloc rfl) elit (vop (op_idiv (b := 2) (by decide) (by decide)))) elit (vop (op_imod (b := 16) (by decide)))) (eloc rfl) (setA_rights p1 _)) ?_
  have X2 := X1.trans (Kx.set h1 p (posO g z b ks ss hi (n.fmod ((2 : Nat) : Int)).toNat ((n.fdiv ((2 : Nat) : Int)).fmod ((16 : Nat) : Int)).toNat (-1) key))
  have p2 := get_set p1 (o := posO g z b ks ss hi (n.fmod ((2 : Nat) : Int)).toNat ((n.fdiv ((2 : Nat) : Int)).fmod ((16 : Nat) : Int)).toNat (-1) key)
  generalize h1.set p (posO g z b ks ss hi (n.fmod ((2 : Nat) : Int)).toNat ((n.fdiv ((2 : Nat) : Int)).fmod ((16 : Nat) : Int)).toNat (-1) key) = h2 at X2 p2
  have l2 := len_list (X2 _ _ (ne_of hcl pp ne_posO) hcl) (by rw [LV_len]; exact hs)
  rw [LV_len] at l2
  refine Run.step (xsetattr (ebin (ebin (ebin (eloc rfl) elit (vop (op_idiv (b := 32) (by decide) (by decide)))) (ebin (elen (eloc rfl) l2) elit (vop (op_add size 1))) (vop (op_imod (b := size + 1) (Nat.succ_ne_zero _)))) elit (vop (op := .sub) rfl)) (eloc rfl) (setA_ep p2 _)) ?_
  exact Run.out (eloc rfl) (q _ (X2.trans (Kx.set _ _ _)) (get_set p2))
theorem posn_order {F : FnT} {h : Hp} {ko size : Nat} {bw : Bool} {a0 a1 a2 a3 a5 a7 : Option V} (o : h[ko]? = some (LV size N)) (hs : size ≤ 1000) :
    ∃ k6 h3 ord, ex tab F (.ite (.loc 4) (.cons (.asn 6 (.rev (.loc 6))) .nil) .nil) [a0, a1, a2, a3, some (.bool bw), a5, some (.ref ko), a7] h = some (.next, [a0, a1, a2, a3, some (.bool bw), a5, some (.ref k6), a7], h3) ∧
      h3[k6]? = some (LN size ord) ∧ Kp h h3 ∧ ko ≤ k6 ∧ (∀ i, i < size → ord i < size) ∧ (∀ i j, i < j → j < size → ord i ≠ ord j) ∧ (∀ s, s < size → ∃ j, j < size ∧ ord j = s) ∧ ∀ f : Nat → Nat, kx (fun j => f (ord j)) size = kx f size := by
  cases bw with
  | false => exact ⟨ko, h, fun i => i, xiteF (eloc rfl) rfl exs_nil, o, Kp.refl _, Nat.le_refl _, fun i h => h, fun i j h1 h2 => Nat.ne_of_lt h1, fun s h => ⟨s, h, rfl⟩, fun f => rfl⟩
  | true =>
    refine ⟨h.length, h ++ [.list ((List.range size).map N).reverse], fun i => size - 1 - i, xiteT (eloc rfl) rfl (exs_one (xasn (erev (eloc rfl) (getL_LV o) (by rw [LV_len]; exact hs)))), ?_, Kp.app _ _, Nat.le_of_lt (lt_of o), fun i h => by dsimp only; omega, fun i j h1 h2 => by dsimp only; omega, fun s h => ⟨size - 1 - s, by omega, by dsimp only; omega⟩, kx_rev size⟩
    rw [rev_range]
    exact get_new _ _
theorem posn_turn (d : Nat) {h h1 : Hp} {p g z b ks ss hi key cl size files s : Nat} {T : Tb} {cells bd kd sd : Nat → Nat} {a0 a1 a3 a4 a6 : Option V} (hz : ZobAt h z size files T) (K : Kp h h1) (hcl : h[cl]? = some (LN size cells)) (hs : size ≤ 50) (hi1 : s < size) (hc : Cell (cells s))
    (o1 : h.length ≤ b) (o2 : b < ks) (o3 : ks < ss) (pp : h1[p]? = some (posO g z b ks ss hi 0 0 (-1) key)) (bb : h1[b]? = some (LN size bd)) (kk : h1[ks]? = some (LN 7 kd)) (sss : h1[ss]? = some (LN 2 sd)) (b0 : bd s = 0) :
    ∃ h5 kd' sd', exs tab (Fd tab (d + 2)) (.cons (.ite (.cmp .ne (.idx (.loc 2) (.loc 7)) (.lit (.int 0))) (.cons (.expr (.call 23 (.cons (.loc 5) (.cons (.idx (.loc 2) (.loc 7)) (.cons (.loc 7) .nil))))) .nil) .nil) .nil) [a0, a1, some (.ref cl), a3, a4, some (.ref p), a6, some (N s)] h1 = some (.next, [a0, a1, some (.ref cl), a3, a4, some (.ref p), a6, some (N s)], h5) ∧
      h5[p]? = some (posO g z b ks ss hi 0 0 (-1) (key ^^^ (if cells s ≠ 0 then T.P (cells s) s else 0))) ∧ h5[b]? = some (LN size fun j => if j = s then cells s else bd j) ∧ h5[ks]? = some (LN 7 kd') ∧ h5[ss]? = some (LN 2 sd') ∧
      ∀ (k : Nat) (o : O), k ≠ p → k ≠ b → k ≠ ks → k ≠ ss → h1[k]? = some o → h5[k]? = some o := by
  have i1 := getIdx_LN (K _ _ hcl) hi1 (Nat.le_trans hs (by decide))
  by_cases h0 : cells s = 0
  · have e : (fun j => if j = s then cells s else bd j) = bd := by
      funext j
      by_cases q : j = s
      · rw [if_pos q, q, h0, b0]
      · rw [if_neg q]
    rw [if_neg (fun q => q h0), Nat.xor_zero, e]
    exact ⟨h1, kd, sd, exs_one (xiteF (ecmp (eidx (eloc rfl) (eloc rfl) i1) elit (vne _ 0)) (fnt h0) exs_nil), pp, bb, kk, sss, fun k o _ _ _ _ e => e⟩
  · have o12 := Nat.le_trans o1 (Nat.le_of_lt o2)
    obtain ⟨h5, kd', sd', e5, p5, b5, k5, s5, X5⟩ := f_put_piece d hz K o1 o12 (Nat.le_trans o12 (Nat.le_of_lt o3)) pp bb kk sss (Nat.ne_of_lt o2) (Nat.ne_of_lt (Nat.lt_trans o2 o3)) (Nat.ne_of_lt o3) hi1 hs hc h0
    rw [if_pos h0]
    exact ⟨h5, kd', sd', exs_one (xiteT (ecmp (eidx (eloc rfl) (eloc rfl) i1) elit (vne _ 0)) (tnf h0) (exs_one (xexpr (ecall (econs (eloc rfl) (econs (eidx (eloc rfl) (eloc rfl) i1) (econs (eloc rfl) enil))) e5)))), p5, b5, k5, s5, X5⟩
theorem posn_loop (d : Nat) {h h2 : Hp} {p g z b ks ss hi cl size files k6 : Nat} {T : Tb} {cells ord : Nat → Nat} {a0 a1 a3 a4 : Option V} (hz : ZobAt h z size files T) (K : Kp h h2) (hcl : h[cl]? = some (LN size cells)) (hs : size ≤ 50) (hc : ∀ s, s < size → Cell (cells s))
    (o0 : h.length ≤ p) (o1 : p < b) (o2 : b < ks) (o3 : ks < ss) (o4 : ss < k6) (pp : h2[p]? = some (posO g z b ks ss hi 0 0 (-1) 0)) (bb : h2[b]? = some (LN size fun _ => 0)) (kk : h2[ks]? = some (LN 7 fun _ => 0)) (sss : h2[ss]? = some (LN 2 fun _ => 0)) (oo : h2[k6]? = some (LN size ord))
    (q1 : ∀ i, i < size → ord i < size) (q2 : ∀ i j, i < j → j < size → ord i ≠ ord j) (q3 : ∀ s, s < size → ∃ j, j < size ∧ ord j = s) :
    ∃ x h4, ex tab (Fd tab (d + 2)) (.loop 7 (.loc 6) (.cons (.ite (.cmp .ne (.idx (.loc 2) (.loc 7)) (.lit (.int 0))) (.cons (.expr (.call 23 (.cons (.loc 5) (.cons (.idx (.loc 2) (.loc 7)) (.cons (.loc 7) .nil))))) .nil) .nil) .nil)) [a0, a1, some (.ref cl), a3, a4, some (.ref p), some (.ref k6), none] h2 = some (.next, [a0, a1, some (.ref cl), a3, a4, some (.ref p), some (.ref k6), x], h4) ∧ Kp h h4 ∧
      h4[p]? = some (posO g z b ks ss hi 0 0 (-1) (kx (fun j => if cells (ord j) ≠ 0 then T.P (cells (ord j)) (ord j) else 0) size)) ∧ h4[b]? = some (LN size cells) := by
  have o1' := Nat.le_trans o0 (Nat.le_of_lt o1)
  have o2' := Nat.le_trans o1' (Nat.le_of_lt o2)
  have o3' := Nat.le_trans o2' (Nat.le_of_lt o3)
  have n3 := Nat.ne_of_gt o4
  have n2 := Nat.ne_of_gt (Nat.lt_trans o3 o4)
  have n1 := Nat.ne_of_gt (Nat.lt_trans (Nat.lt_trans o2 o3) o4)
  have n0 := Nat.ne_of_gt (Nat.lt_trans o1 (Nat.lt_trans (Nat.lt_trans o2 o3) o4))
  obtain ⟨l', h4, e4, x, bd, kd, sd, rfl, K4, p4, b4, -, -, t1, -, -⟩ := loop_LV (n := size) (g := fun i => N (ord i)) (f := fun l h => exs tab (Fd tab (d + 2)) (.cons (.ite (.cmp .ne (.idx (.loc 2) (.loc 7)) (.lit (.int 0))) (.cons (.expr (.call 23 (.cons (.loc 5) (.cons (.idx (.loc 2) (.loc 7)) (.cons (.loc 7) .nil))))) .nil) .nil) .nil) l h) (x := 7) (l := [a0, a1, some (.ref cl), a3, a4, some (.ref p), some (.ref k6), none]) rfl
    (fun i l h' => ∃ x bd kd sd, l = [a0, a1, some (.ref cl), a3, a4, some (.ref p), some (.ref k6), x] ∧ Kp h h' ∧
      h'[p]? = some (posO g z b ks ss hi 0 0 (-1) (kx (fun j => if cells (ord j) ≠ 0 then T.P (cells (ord j)) (ord j) else 0) i)) ∧ h'[b]? = some (LN size bd) ∧ h'[ks]? = some (LN 7 kd) ∧ h'[ss]? = some (LN 2 sd) ∧
      (∀ j, j < i → bd (ord j) = cells (ord j)) ∧ (∀ s, s < size → (∀ j, j < i → ord j ≠ s) → bd s = 0) ∧ h'[k6]? = some (LN size ord))
    ⟨none, fun _ => 0, fun _ => 0, fun _ => 0, rfl, K, pp, bb, kk, sss, fun j hj => absurd hj (Nat.not_lt_zero _), fun _ _ _ => rfl, oo⟩ (Nat.le_trans hs (by decide)) (fun i l h' hh => by obtain ⟨x, bd, kd, sd, _, _, _, _, _, _, _, _, q⟩ := hh; exact q) (fun i l h' hi' hh => by
      obtain ⟨x, bd, kd, sd, rfl, K, pp, bb, kk, sss, t1, t2, oo⟩ := hh
      obtain ⟨h5, kd', sd', e5, p5, b5, k5, s5, X5⟩ := posn_turn d (a0 := a0) (a1 := a1) (a3 := a3) (a4 := a4) (a6 := some (.ref k6)) hz K hcl hs (q1 i hi') (hc _ (q1 i hi')) o1' o2 o3 pp bb kk sss (t2 _ (q1 i hi') fun j hj => q2 j i hj hi')
      refine ⟨_, _, e5, _, _, kd', sd', rfl, fun k o e => ?_, p5, b5, k5, s5, fun j hj => ?_, fun s hs1 hs2 => ?_, X5 _ _ n0 n1 n2 n3 oo⟩
      · exact X5 _ _ (new_apart e o0) (new_apart e o1') (new_apart e o2') (new_apart e o3') (K _ _ e)
      · by_cases c : ord j = ord i
        · rw [if_pos c, c]
        · rw [if_neg c]
          exact t1 j (Nat.lt_of_le_of_ne (Nat.le_of_lt_succ hj) fun q => c (by rw [q]))
      · rw [if_neg fun q => hs2 i (Nat.lt_succ_self i) q.symm]
        exact t2 s hs1 fun j hj => hs2 j (Nat.lt_succ_of_lt hj))
  refine ⟨x, h4, xloop (eloc rfl) e4, K4, p4, ?_⟩
  rw [b4]
  have e : (List.range size).map (fun s => N (bd s)) = (List.range size).map fun s => N (cells s) := List.map_congr_left fun s hs => by
    obtain ⟨j, j1, j2⟩ := q3 s (List.mem_range.mp hs)
    rw [← j2, t1 j j1]
  exact congrArg (fun x => some (O.list x)) e

theorem f_law_position (d : Nat) {h : Hp} {g z cl size files : Nat} {T : Tb} {cells : Nat → Nat} {n : Int} {bw : Bool} (hz : ZobAt h z size files T) (hg : GeoAt h g size files) (hcl : h[cl]? = some (LN size cells)) (hs : size ≤ 50) (hc : ∀ s, s < size → Cell (cells s)) :
    ∃ p h', Fd tab (d + 3) 30 [.ref g, .ref z, .ref cl, .int n, .bool bw] h = some (.ref p, h') ∧ Kp h h' ∧ h.length ≤ p ∧
      PosAt h' p g z size cells (n.fmod ((2 : Nat) : Int)).toNat ((n.fdiv ((2 : Nat) : Int)).fmod ((16 : Nat) : Int)).toNat (((((n.fdiv ((32 : Nat) : Int)).fmod ((size + 1 : Nat) : Int)).toNat : Nat) : Int) - ((1 : Nat) : Int)) (allk T cells size) := by
  have hs' : size ≤ 1000 := Nat.le_trans hs (by decide)
  have key : ∃ v h', Fd tab (d + 3) 30 [.ref g, .ref z, .ref cl, .int n, .bool bw] h = some (v, h') ∧ (∃ p, v = .ref p ∧ Kp h h' ∧ h.length ≤ p ∧ PosAt h' p g z size cells (n.fmod ((2 : Nat) : Int)).toNat ((n.fdiv ((2 : Nat) : Int)).fmod ((16 : Nat) : Int)).toNat (((((n.fdiv ((32 : Nat) : Int)).fmod ((size + 1 : Nat) : Int)).toNat : Nat) : Int) - ((1 : Nat) : Int)) (allk T cells size)) := by
    refine fd_run rfl rfl ?_
    show Run _ b_law_position [some (.ref g), some (.ref z), some (.ref cl), some (.int n), some (.bool bw), none, none, none] _ _
    obtain ⟨h1, e1, X1, b, ks, ss, hi, p1, b1, k1, s1, hb, hbk, hks⟩ := f_pos_init (d + 1) (z := z) (get_new h (.inst 4 [])) (hg.mono (Kp.app _ _)) hs'
    have en : ev tab (Fd tab (d + 2)) (.new 4 (.cons (.loc 0) (.cons (.loc 1) .nil))) [some (.ref g), some (.ref z), some (.ref cl), some (.int n), some (.bool bw), none, none, none] h = some (.ref h.length, h1) := enew (econs (eloc rfl) (econs (eloc rfl) enil)) (f := 22) rfl e1
    refine Run.step (xasn en) ?_
    rw [List.length_append] at hb
    have K1 : Kp h h1 := fun k o e => X1 _ _ (new_apart e (Nat.le_refl _)) (get_app e _)
    have ll := len_list (K1 _ _ hcl) (by rw [LV_len]; exact hs')
    rw [LV_len] at ll
    refine Run.step (xasn (elistOf (erngN (elen (eloc rfl) ll) hs') (mkList_rng (get_new h1 (.rng 0 1 size)) hs'))) ?_
    have K2 : Kp h1 (h1 ++ [.rng 0 1 size] ++ [LV size N]) := (Kp.app _ _).trans (Kp.app _ _)
    obtain ⟨k6, h3, ord, eo, o3, K3, lk6, q1, q2, q3, q4⟩ := posn_order (F := Fd tab (d + 2)) (bw := bw) (a0 := some (.ref g)) (a1 := some (.ref z)) (a2 := some (.ref cl)) (a3 := some (.int n)) (a5 := some (.ref h.length)) (a7 := none) (get_new (h1 ++ [.rng 0 1 size]) (LV size N)) hs'
    refine Run.step eo ?_
    have K13 := K2.trans K3
    have lo : ss < k6 := Nat.lt_of_lt_of_le (lt_of s1) (Nat.le_trans (by rw [List.length_append]; exact Nat.le_add_right _ _) lk6)
    obtain ⟨x, h4, e4, K4, p4, b4⟩ := posn_loop d (a0 := some (.ref g)) (a1 := some (.ref z)) (a3 := some (.int n)) (a4 := some (.bool bw)) hz (K1.trans K13) hcl hs hc (Nat.le_refl _) hb hbk hks lo (K13 _ _ p1) (K13 _ _ b1) (K13 _ _ k1) (K13 _ _ s1) o3 q1 q2 q3
    rw [q4 fun s => if cells s ≠ 0 then T.P (cells s) s else 0] at p4
    refine Run.step e4 (posn_end p4 (K4 _ _ hcl) hs' fun h5 X5 p5 => ⟨_, rfl, fun k o e => X5 _ _ (new_apart e (Nat.le_refl _)) (K4 _ _ e), Nat.le_refl _, b, ks, ss, hi, p5, X5 _ _ (ne_of b4 p4 ne_posO) b4⟩)
  obtain ⟨v, h', e, p, rfl, q⟩ := key
  exact ⟨p, h', e, q⟩

end Mz
end

section
open PySem PySem.W PyProof.Rows
set_option Elab.async false
set_option autoImplicit false

set_option tactic.hygienic false

namespace Mz

/-! ### the stream -/

noncomputable def nx (s : Nat) : Nat :=
  ((s ^^^ s / 2 ^ 12) ^^^ (s ^^^ s / 2 ^ 12) * 2 ^ 25 % 2 ^ 64) ^^^ ((s ^^^ s / 2 ^ 12) ^^^ (s ^^^ s / 2 ^ 12) * 2 ^ 25 % 2 ^ 64) / 2 ^ 27
noncomputable def outp (s : Nat) : Nat := s * 2685821657736338717 % 2 ^ 64
noncomputable def st (s : Nat) : Nat → Nat
  | 0 => s
  | n + 1 => nx (st s n)
theorem st_succ (s n : Nat) : st s (n + 1) = nx (st s n) := rfl
theorem st_add (s a : Nat) : ∀ b, st (st s a) b = st s (a + b)
  | 0 => rfl
  | b + 1 => by rw [st_succ, st_add s a b]; rfl
theorem nx1 {s : Nat} (h : s < 2 ^ 64) : s ^^^ s / 2 ^ 12 < 2 ^ 64 := Nat.xor_lt_two_pow h (Nat.lt_of_le_of_lt (Nat.div_le_self _ _) h)
theorem nx2 {s : Nat} (h : s < 2 ^ 64) : (s ^^^ s / 2 ^ 12) ^^^ (s ^^^ s / 2 ^ 12) * 2 ^ 25 % 2 ^ 64 < 2 ^ 64 := Nat.xor_lt_two_pow (nx1 h) (Nat.mod_lt _ (by decide))
theorem nx_lt {s : Nat} (h : s < 2 ^ 64) : nx s < 2 ^ 64 := Nat.xor_lt_two_pow (nx2 h) (Nat.lt_of_le_of_lt (Nat.div_le_self _ _) (nx2 h))
theorem st_lt {s : Nat} (h : s < 2 ^ 64) : ∀ n, st s n < 2 ^ 64
  | 0 => h
  | n + 1 => nx_lt (st_lt h n)
theorem outp_lt (s : Nat) : outp s < 2 ^ 64 := Nat.mod_lt _ (by decide)
noncomputable def sd (seed : Int) : Nat := if (seed.fmod ((18446744073709551616 : Nat) : Int)).toNat = 0 then 1 else (seed.fmod ((18446744073709551616 : Nat) : Int)).toNat
theorem sd_lt (seed : Int) : sd seed < 2 ^ 64 := by
  unfold sd
  split
  · decide
  · exact imod_lt _ (by decide)
theorem word_mask (a : Nat) : a &&& 18446744073709551615 = a % 2 ^ 64 := Nat.and_two_pow_sub_one_eq_mod (n := 64) a
theorem word_imask (a : Int) : opI .band a ((18446744073709551615 : Nat) : Int) = some (((a.fmod ((18446744073709551616 : Nat) : Int)).toNat : Nat) : Int) := by
  have h := kbt_maskF a 64
  have e1 : (2 : Int) ^ 64 - 1 = ((18446744073709551615 : Nat) : Int) := by decide
  have e2 : (2 : Int) ^ 64 = ((18446744073709551616 : Nat) : Int) := by decide
  rw [e1, e2] at h
  simp only [opI, h]
  rw [Int.toNat_of_nonneg (Int.fmod_nonneg_of_pos _ (by decide))]

theorem f_random_init (d : Nat) {h : Hp} {k : Nat} {seed : Int} (hk : h[k]? = some (.inst 0 [])) :
    ∃ h', Fd tab (d + 1) 2 [.ref k, .int seed] h = some (.none, h') ∧ h'[k]? = some (.inst 0 [(0, N (sd seed))]) ∧ Kx k h h' := by
  have key : ∃ v h', Fd tab (d + 1) 2 [.ref k, .int seed] h = some (v, h') ∧ (v = .none ∧ h'[k]? = some (.inst 0 [(0, N (sd seed))]) ∧ Kx k h h') := by
    refine fd_run rfl rfl ?_
    show Run _ b_Random_init _ _ _
    unfold b_Random_init
    simp only [List.map_cons, List.map_nil, List.cons_append, List.nil_append, List.replicate_succ, List.replicate_zero, Nat.reduceSub]
    have wm := word_imask seed
    refine Run.field (v := N (seed.fmod ((18446744073709551616 : Nat) : Int)).toNat) (h1 := h) (by simp only [exs, exasn, exasn2, exsetattr, exsetidx, exaug, exaugidx, exaugattr, exite, exloop, exret, exexpr, exfail, evlit, evloc, evbin, evneg, evinv, evnot, evand, evor, evcmp, evcmp2, evmem, evite, evcall, evnew, evmeth, evlen, evlistOf, evsorted, evrng1, evrng2, evrng3, evappend, evcount, evattr, evidx, evslTo, evslFrom, evslBt, evrev, evlist, evtup, evcomp, evcompIf, evs, opV_int, t_bool, truthy_int, cmpV_int, cmpV_bool_eq, cmpV_bool_ne, runFn, getA, lookupA, storeA, Option.map_some, List.getElem?_cons_zero, List.getElem?_cons_succ, List.set_cons_zero, List.set_cons_succ, List.cons_append, List.nil_append, vlit, op_add, op_band, op_bor, op_bxor, op_shr, c_eq, c_ne, c_lt, c_le, c_gt, c_ge, List.length_cons, List.length_nil, List.map_cons, List.map_nil, Nat.zero_add, Nat.add_zero, reduceIte, List.replicate_succ, List.replicate_zero, Nat.reduceAdd, Nat.reduceSub, Nat.reduceEqDiff, Nat.sub_self, decide_true, decide_false, eq_self, Bool.not_true, Bool.not_false, beq_self_eq_true, wm]) rfl hk (by simp) fun h1 p1 K1 => ?_
    simp only [storeA] at p1
    refine Run.cons ?_
    have sa := setA_of p1 (a := 0) (v := N 1) (by simp)
    unfold sd
    by_cases h0 : (seed.fmod ((18446744073709551616 : Nat) : Int)).toNat = 0
    · simp only [exs, exasn, exasn2, exsetattr, exsetidx, exaug, exaugidx, exaugattr, exite, exloop, exret, exexpr, exfail, evlit, evloc, evbin, evneg, evinv, evnot, evand, evor, evcmp, evcmp2, evmem, evite, evcall, evnew, evmeth, evlen, evlistOf, evsorted, evrng1, evrng2, evrng3, evappend, evcount, evattr, evidx, evslTo, evslFrom, evslBt, evrev, evlist, evtup, evcomp, evcompIf, evs, opV_int, t_bool, truthy_int, cmpV_int, cmpV_bool_eq, cmpV_bool_ne, runFn, getA, lookupA, storeA, Option.map_some, List.getElem?_cons_zero, List.getElem?_cons_succ, List.set_cons_zero, List.set_cons_succ, List.cons_append, List.nil_append, vlit, op_add, op_band, op_bor, op_bxor, op_shr, c_eq, c_ne, c_lt, c_le, c_gt, c_ge, List.length_cons, List.length_nil, List.map_cons, List.map_nil, Nat.zero_add, Nat.add_zero, reduceIte, List.replicate_succ, List.replicate_zero, Nat.reduceAdd, Nat.reduceSub, Nat.reduceEqDiff, Nat.sub_self, decide_true, decide_false, eq_self, Bool.not_true, Bool.not_false, beq_self_eq_true, p1, h0, sa]
      rw [h0] at p1
      exact ⟨_, _, rfl, Run.nil ⟨rfl, get_set p1, K1.trans (Kx.set _ _ _)⟩⟩
    · simp only [exs, exasn, exasn2, exsetattr, exsetidx, exaug, exaugidx, exaugattr, exite, exloop, exret, exexpr, exfail, evlit, evloc, evbin, evneg, evinv, evnot, evand, evor, evcmp, evcmp2, evmem, evite, evcall, evnew, evmeth, evlen, evlistOf, evsorted, evrng1, evrng2, evrng3, evappend, evcount, evattr, evidx, evslTo, evslFrom, evslBt, evrev, evlist, evtup, evcomp, evcompIf, evs, opV_int, t_bool, truthy_int, cmpV_int, cmpV_bool_eq, cmpV_bool_ne, runFn, getA, lookupA, storeA, Option.map_some, List.getElem?_cons_zero, List.getElem?_cons_succ, List.set_cons_zero, List.set_cons_succ, List.cons_append, List.nil_append, vlit, op_add, op_band, op_bor, op_bxor, op_shr, c_eq, c_ne, c_lt, c_le, c_gt, c_ge, List.length_cons, List.length_nil, List.map_cons, List.map_nil, Nat.zero_add, Nat.add_zero, reduceIte, List.replicate_succ, List.replicate_zero, Nat.reduceAdd, Nat.reduceSub, Nat.reduceEqDiff, Nat.sub_self, decide_true, decide_false, eq_self, Bool.not_true, Bool.not_false, beq_self_eq_true, p1, h0, sa]
      exact ⟨_, _, rfl, Run.nil ⟨rfl, p1, K1⟩⟩
  obtain ⟨v, h', e, rfl, q⟩ := key
  exact ⟨h', e, q⟩

theorem f_next (d : Nat) {h : Hp} {r s : Nat} (hr : h[r]? = some (.inst 0 [(0, N s)])) (hs : s < 2 ^ 64) : Fd tab (d + 1) 3 [.ref r] h = some (N (outp (nx s)), h.set r (.inst 0 [(0, N (nx s))])) := by
  have s1 := op_shl (a := s ^^^ s / 2 ^ 12) (b := 25) (nx1 hs) (by decide)
  have m1 := op_mul (a := nx s) (b := 2685821657736338717) (nx_lt hs)
  have sa : setA h (.ref r) 0 (N (nx s)) = some (h.set r (.inst 0 [(0, N (nx s))])) := by
    rw [setA_of hr (by simp)]; simp [storeA]
  rw [Fd_of (f := 3) rfl]
  unfold nx at m1 sa
  unfold outp nx
  simp only [exs, exasn, exasn2, exsetattr, exsetidx, exaug, exaugidx, exaugattr, exite, exloop, exret, exexpr, exfail, evlit, evloc, evbin, evneg, evinv, evnot, evand, evor, evcmp, evcmp2, evmem, evite, evcall, evnew, evmeth, evlen, evlistOf, evsorted, evrng1, evrng2, evrng3, evappend, evcount, evattr, evidx, evslTo, evslFrom, evslBt, evrev, evlist, evtup, evcomp, evcompIf, evs, opV_int, t_bool, truthy_int, cmpV_int, cmpV_bool_eq, cmpV_bool_ne, runFn, getA, lookupA, storeA, Option.map_some, List.getElem?_cons_zero, List.getElem?_cons_succ, List.set_cons_zero, List.set_cons_succ, List.cons_append, List.nil_append, vlit, op_add, op_band, op_bor, op_bxor, op_shr, c_eq, c_ne, c_lt, c_le, c_gt, c_ge, List.length_cons, List.length_nil, List.map_cons, List.map_nil, Nat.zero_add, Nat.add_zero, reduceIte, List.replicate_succ, List.replicate_zero, Nat.reduceAdd, Nat.reduceSub, Nat.reduceEqDiff, Nat.sub_self, decide_true, decide_false, eq_self, Bool.not_true, Bool.not_false, beq_self_eq_true, b_Random_next, hr, s1, word_mask, m1, sa]

theorem f_draw_row (d : Nat) {h : Hp} {r s len : Nat} (hr : h[r]? = some (.inst 0 [(0, N s)])) (hs : s < 2 ^ 64) (hl : len ≤ 1000) :
    ∃ k h', Fd tab (d + 2) 5 [.ref r, N len] h = some (.ref k, h') ∧ h'[k]? = some (LN len fun i => outp (st s (i + 1))) ∧ h'[r]? = some (.inst 0 [(0, N (st s len))]) ∧ Kx r h h' ∧ h.length ≤ k := by
  have key : ∃ v h', Fd tab (d + 2) 5 [.ref r, N len] h = some (v, h') ∧ (∃ k, v = .ref k ∧ h'[k]? = some (LN len fun i => outp (st s (i + 1))) ∧ h'[r]? = some (.inst 0 [(0, N (st s len))]) ∧ Kx r h h' ∧ h.length ≤ k) := by
    refine fd_run rfl rfl ?_
    show Run _ b_draw_row _ _ _
    unfold b_draw_row
    simp only [List.map_cons, List.map_nil, List.cons_append, List.nil_append, List.replicate_succ, List.replicate_zero, Nat.reduceSub]
    refine Run.cons ?_
    simp only [exs, exasn, exasn2, exsetattr, exsetidx, exaug, exaugidx, exaugattr, exite, exloop, exret, exexpr, exfail, evlit, evloc, evbin, evneg, evinv, evnot, evand, evor, evcmp, evcmp2, evmem, evite, evcall, evnew, evmeth, evlen, evlistOf, evsorted, evrng1, evrng2, evrng3, evappend, evcount, evattr, evidx, evslTo, evslFrom, evslBt, evrev, evlist, evtup, evcomp, evcompIf, evs, opV_int, t_bool, truthy_int, cmpV_int, cmpV_bool_eq, cmpV_bool_ne, runFn, getA, lookupA, storeA, Option.map_some, List.getElem?_cons_zero, List.getElem?_cons_succ, List.set_cons_zero, List.set_cons_succ, List.cons_append, List.nil_append, vlit, op_add, op_band, op_bor, op_bxor, op_shr, c_eq, c_ne, c_lt, c_le, c_gt, c_ge, List.length_cons, List.length_nil, List.map_cons, List.map_nil, Nat.zero_add, Nat.add_zero, reduceIte, List.replicate_succ, List.replicate_zero, Nat.reduceAdd, Nat.reduceSub, Nat.reduceEqDiff, Nat.sub_self, decide_true, decide_false, eq_self, Bool.not_true, Bool.not_false, beq_self_eq_true]
    refine ⟨_, _, rfl, Run.cons ?_⟩
    simp only [exs, exasn, exasn2, exsetattr, exsetidx, exaug, exaugidx, exaugattr, exite, exloop, exret, exexpr, exfail, evlit, evloc, evbin, evneg, evinv, evnot, evand, evor, evcmp, evcmp2, evmem, evite, evcall, evnew, evmeth, evlen, evlistOf, evsorted, evrng1, evrng2, evrng3, evappend, evcount, evattr, evidx, evslTo, evslFrom, evslBt, evrev, evlist, evtup, evcomp, evcompIf, evs, opV_int, t_bool, truthy_int, cmpV_int, cmpV_bool_eq, cmpV_bool_ne, runFn, getA, lookupA, storeA, Option.map_some, List.getElem?_cons_zero, List.getElem?_cons_succ, List.set_cons_zero, List.set_cons_succ, List.cons_append, List.nil_append, vlit, op_add, op_band, op_bor, op_bxor, op_shr, c_eq, c_ne, c_lt, c_le, c_gt, c_ge, List.length_cons, List.length_nil, List.map_cons, List.map_nil, Nat.zero_add, Nat.add_zero, reduceIte, List.replicate_succ, List.replicate_zero, Nat.reduceAdd, Nat.reduceSub, Nat.reduceEqDiff, Nat.sub_self, decide_true, decide_false, eq_self, Bool.not_true, Bool.not_false, beq_self_eq_true, mkRng_N (h ++ [.list []]) (n := len) (by first | assumption | exact Nat.le_of_lt ‹_› | exact Nat.lt_succ_of_lt ‹_› | exact Nat.ne_of_lt ‹_› | exact Nat.ne_of_gt ‹_› | exact Nat.le_trans ‹_› (by decide) | exact Nat.lt_of_lt_of_le ‹_› (by decide) | decide | omega)]
    generalize hL : loopAll _ _ _ _ _ = L
    have hmt : methOf 0 5 = some 3 := rfl
    have hlr := lt_of hr
    obtain ⟨l', h2, rfl, x, rfl, k2, r2, K2⟩ := loop_rng1 (n := len) hL
      (fun i l h' => ∃ x, l = [some (.ref r), some (N len), some (.ref h.length), x] ∧ h'[h.length]? = some (LN i fun i => outp (st s (i + 1))) ∧ h'[r]? = some (.inst 0 [(0, N (st s i))]) ∧ Kx r h h')
      ⟨none, rfl, get_app (get_new h (.list [])) _, get_app (get_app hr _) _, ((Kp.app _ _).trans (Kp.app _ _)).x r⟩ hl (get_new _ _) (fun i l h' hi hh => by
        obtain ⟨x, rfl, kk, rr, K⟩ := hh
        have nxt := f_next d rr (st_lt hs i)
        have kk1 := get_set_ne kk (j := r) (o := .inst 0 [(0, N (nx (st s i)))]) (by first | assumption | exact Nat.le_of_lt ‹_› | exact Nat.lt_succ_of_lt ‹_› | exact Nat.ne_of_lt ‹_› | exact Nat.ne_of_gt ‹_› | exact Nat.le_trans ‹_› (by decide) | exact Nat.lt_of_lt_of_le ‹_› (by decide) | decide | omega)
        have ap := append_LN kk1 (v := outp (nx (st s i))) (by first | assumption | exact Nat.le_of_lt ‹_› | exact Nat.lt_succ_of_lt ‹_› | exact Nat.ne_of_lt ‹_› | exact Nat.ne_of_gt ‹_› | exact Nat.le_trans ‹_› (by decide) | exact Nat.lt_of_lt_of_le ‹_› (by decide) | decide | omega) rfl
        simp only [exs, exasn, exasn2, exsetattr, exsetidx, exaug, exaugidx, exaugattr, exite, exloop, exret, exexpr, exfail, evlit, evloc, evbin, evneg, evinv, evnot, evand, evor, evcmp, evcmp2, evmem, evite, evcall, evnew, evmeth, evlen, evlistOf, evsorted, evrng1, evrng2, evrng3, evappend, evcount, evattr, evidx, evslTo, evslFrom, evslBt, evrev, evlist, evtup, evcomp, evcompIf, evs, opV_int, t_bool, truthy_int, cmpV_int, cmpV_bool_eq, cmpV_bool_ne, runFn, getA, lookupA, storeA, Option.map_some, List.getElem?_cons_zero, List.getElem?_cons_succ, List.set_cons_zero, List.set_cons_succ, List.cons_append, List.nil_append, vlit, op_add, op_band, op_bor, op_bxor, op_shr, c_eq, c_ne, c_lt, c_le, c_gt, c_ge, List.length_cons, List.length_nil, List.map_cons, List.map_nil, Nat.zero_add, Nat.add_zero, reduceIte, List.replicate_succ, List.replicate_zero, Nat.reduceAdd, Nat.reduceSub, Nat.reduceEqDiff, Nat.sub_self, decide_true, decide_false, eq_self, Bool.not_true, Bool.not_false, beq_self_eq_true, getL_LV kk, rr, hmt, nxt, ap]
        exact ⟨_, _, rfl, _, rfl, get_set kk1, get_set_ne (get_set rr) (by first | assumption | exact Nat.le_of_lt ‹_› | exact Nat.lt_succ_of_lt ‹_› | exact Nat.ne_of_lt ‹_› | exact Nat.ne_of_gt ‹_› | exact Nat.le_trans ‹_› (by decide) | exact Nat.lt_of_lt_of_le ‹_› (by decide) | decide | omega), fun k o a e => get_set_ne (get_set_ne (K _ _ a e) a) (new_apart e (Nat.le_refl _))⟩)
    clear hL
    refine ⟨_, _, rfl, Run.ret ?_⟩
    simp only [exs, exasn, exasn2, exsetattr, exsetidx, exaug, exaugidx, exaugattr, exite, exloop, exret, exexpr, exfail, evlit, evloc, evbin, evneg, evinv, evnot, evand, evor, evcmp, evcmp2, evmem, evite, evcall, evnew, evmeth, evlen, evlistOf, evsorted, evrng1, evrng2, evrng3, evappend, evcount, evattr, evidx, evslTo, evslFrom, evslBt, evrev, evlist, evtup, evcomp, evcompIf, evs, opV_int, t_bool, truthy_int, cmpV_int, cmpV_bool_eq, cmpV_bool_ne, runFn, getA, lookupA, storeA, Option.map_some, List.getElem?_cons_zero, List.getElem?_cons_succ, List.set_cons_zero, List.set_cons_succ, List.cons_append, List.nil_append, vlit, op_add, op_band, op_bor, op_bxor, op_shr, c_eq, c_ne, c_lt, c_le, c_gt, c_ge, List.length_cons, List.length_nil, List.map_cons, List.map_nil, Nat.zero_add, Nat.add_zero, reduceIte, List.replicate_succ, List.replicate_zero, Nat.reduceAdd, Nat.reduceSub, Nat.reduceEqDiff, Nat.sub_self, decide_true, decide_false, eq_self, Bool.not_true, Bool.not_false, beq_self_eq_true]
    exact ⟨_, _, rfl, _, rfl, k2, r2, K2, Nat.le_refl _⟩
  obtain ⟨v, h', e, k, rfl, q⟩ := key
  exact ⟨k, h', e, q⟩

noncomputable def rx (sg : Nat → Nat) (r : Nat) : Nat := kx (fun i => if r.testBit i then sg i else 0) 4
theorem bit_a : ∀ r, r < 16 → ∀ i, i < 4 → decide (r &&& 1 * 2 ^ i ≠ 0) = r.testBit i := by decide
theorem bit_b : ∀ r, r < 16 → ∀ i, i < 4 → decide (r / 2 ^ i &&& 1 ≠ 0) = r.testBit i := by decide

theorem f_rights_row (d : Nat) {h : Hp} {s : Nat} {sg : Nat → Nat} (hs : h[s]? = some (LN 4 sg)) :
    ∃ k h', Fd tab (d + 1) 6 [.ref s] h = some (.ref k, h') ∧ h'[k]? = some (LN 16 (rx sg)) ∧ Kp h h' ∧ h.length ≤ k := by
  have key : ∃ v h', Fd tab (d + 1) 6 [.ref s] h = some (v, h') ∧ (∃ k, v = .ref k ∧ h'[k]? = some (LN 16 (rx sg)) ∧ Kp h h' ∧ h.length ≤ k) := by
    refine fd_run rfl rfl ?_
    show Run _ b_rights_row _ _ _
    unfold b_rights_row
    simp only [List.map_cons, List.map_nil, List.cons_append, List.nil_append, List.replicate_succ, List.replicate_zero, Nat.reduceSub]
    refine Run.cons ?_
    simp only [exs, exasn, exasn2, exsetattr, exsetidx, exaug, exaugidx, exaugattr, exite, exloop, exret, exexpr, exfail, evlit, evloc, evbin, evneg, evinv, evnot, evand, evor, evcmp, evcmp2, evmem, evite, evcall, evnew, evmeth, evlen, evlistOf, evsorted, evrng1, evrng2, evrng3, evappend, evcount, evattr, evidx, evslTo, evslFrom, evslBt, evrev, evlist, evtup, evcomp, evcompIf, evs, opV_int, t_bool, truthy_int, cmpV_int, cmpV_bool_eq, cmpV_bool_ne, runFn, getA, lookupA, storeA, Option.map_some, List.getElem?_cons_zero, List.getElem?_cons_succ, List.set_cons_zero, List.set_cons_succ, List.cons_append, List.nil_append, vlit, op_add, op_band, op_bor, op_bxor, op_shr, c_eq, c_ne, c_lt, c_le, c_gt, c_ge, List.length_cons, List.length_nil, List.map_cons, List.map_nil, Nat.zero_add, Nat.add_zero, reduceIte, List.replicate_succ, List.replicate_zero, Nat.reduceAdd, Nat.reduceSub, Nat.reduceEqDiff, Nat.sub_self, decide_true, decide_false, eq_self, Bool.not_true, Bool.not_false, beq_self_eq_true]
    refine ⟨_, _, rfl, Run.cons ?_⟩
    simp only [exs, exasn, exasn2, exsetattr, exsetidx, exaug, exaugidx, exaugattr, exite, exloop, exret, exexpr, exfail, evlit, evloc, evbin, evneg, evinv, evnot, evand, evor, evcmp, evcmp2, evmem, evite, evcall, evnew, evmeth, evlen, evlistOf, evsorted, evrng1, evrng2, evrng3, evappend, evcount, evattr, evidx, evslTo, evslFrom, evslBt, evrev, evlist, evtup, evcomp, evcompIf, evs, opV_int, t_bool, truthy_int, cmpV_int, cmpV_bool_eq, cmpV_bool_ne, runFn, getA, lookupA, storeA, Option.map_some, List.getElem?_cons_zero, List.getElem?_cons_succ, List.set_cons_zero, List.set_cons_succ, List.cons_append, List.nil_append, vlit, op_add, op_band, op_bor, op_bxor, op_shr, c_eq, c_ne, c_lt, c_le, c_gt, c_ge, List.length_cons, List.length_nil, List.map_cons, List.map_nil, Nat.zero_add, Nat.add_zero, reduceIte, List.replicate_succ, List.replicate_zero, Nat.reduceAdd, Nat.reduceSub, Nat.reduceEqDiff, Nat.sub_self, decide_true, decide_false, eq_self, Bool.not_true, Bool.not_false, beq_self_eq_true, mkRng_N (h ++ [.list []]) (n := 16) (by first | assumption | exact Nat.le_of_lt ‹_› | exact Nat.lt_succ_of_lt ‹_› | exact Nat.ne_of_lt ‹_› | exact Nat.ne_of_gt ‹_› | exact Nat.le_trans ‹_› (by decide) | exact Nat.lt_of_lt_of_le ‹_› (by decide) | decide | omega)]
    generalize hL : loopAll _ _ _ _ _ = L
    obtain ⟨l', h2, rfl, x, y, z, rfl, k2, K2⟩ := loop_rng1 (n := 16) hL
      (fun i l h' => ∃ x y z, l = [some (.ref s), some (.ref h.length), x, y, z] ∧ h'[h.length]? = some (LN i (rx sg)) ∧ Kp h h')
      ⟨none, none, none, rfl, get_app (get_new h (.list [])) _, (Kp.app _ _).trans (Kp.app _ _)⟩ (by decide) (get_new _ _) (fun i l h' hi hh => by
        obtain ⟨x, y, z, rfl, kk, K⟩ := hh
        simp only [exs, exasn, exasn2, exsetattr, exsetidx, exaug, exaugidx, exaugattr, exite, exloop, exret, exexpr, exfail, evlit, evloc, evbin, evneg, evinv, evnot, evand, evor, evcmp, evcmp2, evmem, evite, evcall, evnew, evmeth, evlen, evlistOf, evsorted, evrng1, evrng2, evrng3, evappend, evcount, evattr, evidx, evslTo, evslFrom, evslBt, evrev, evlist, evtup, evcomp, evcompIf, evs, opV_int, t_bool, truthy_int, cmpV_int, cmpV_bool_eq, cmpV_bool_ne, runFn, getA, lookupA, storeA, Option.map_some, List.getElem?_cons_zero, List.getElem?_cons_succ, List.set_cons_zero, List.set_cons_succ, List.cons_append, List.nil_append, vlit, op_add, op_band, op_bor, op_bxor, op_shr, c_eq, c_ne, c_lt, c_le, c_gt, c_ge, List.length_cons, List.length_nil, List.map_cons, List.map_nil, Nat.zero_add, Nat.add_zero, reduceIte, List.replicate_succ, List.replicate_zero, Nat.reduceAdd, Nat.reduceSub, Nat.reduceEqDiff, Nat.sub_self, decide_true, decide_false, eq_self, Bool.not_true, Bool.not_false, beq_self_eq_true, mkRng_N h' (n := 4) (by first | assumption | exact Nat.le_of_lt ‹_› | exact Nat.lt_succ_of_lt ‹_› | exact Nat.ne_of_lt ‹_› | exact Nat.ne_of_gt ‹_› | exact Nat.le_trans ‹_› (by decide) | exact Nat.lt_of_lt_of_le ‹_› (by decide) | decide | omega)]
        generalize hL' : loopAll _ _ _ _ _ = L'
        obtain ⟨l', h3, rfl, z', rfl, rfl⟩ := loop_rng1 (n := 4) hL'
          (fun j l h'' => ∃ z, l = [some (.ref s), some (.ref h.length), some (N i), some (N (kx (fun j => if i.testBit j then sg j else 0) j)), z] ∧ h'' = h' ++ [.rng 0 1 4])
          ⟨z, rfl, rfl⟩ (by decide) (get_new _ _) (fun j l h'' hj hh => by
            obtain ⟨z, rfl, rfl⟩ := hh
            have sh := op_shl (a := 1) (b := j) (by decide) (by first | assumption | exact Nat.le_of_lt ‹_› | exact Nat.lt_succ_of_lt ‹_› | exact Nat.ne_of_lt ‹_› | exact Nat.ne_of_gt ‹_› | exact Nat.le_trans ‹_› (by decide) | exact Nat.lt_of_lt_of_le ‹_› (by decide) | decide | omega)
            have i1 := getIdx_LV (get_app (K _ _ hs) [.rng 0 1 4]) hj (by decide)
            have bb := bit_a i hi j hj
            cases hb : i.testBit j with
            | true =>
              rw [hb] at bb
              simp only [exs, exasn, exasn2, exsetattr, exsetidx, exaug, exaugidx, exaugattr, exite, exloop, exret, exexpr, exfail, evlit, evloc, evbin, evneg, evinv, evnot, evand, evor, evcmp, evcmp2, evmem, evite, evcall, evnew, evmeth, evlen, evlistOf, evsorted, evrng1, evrng2, evrng3, evappend, evcount, evattr, evidx, evslTo, evslFrom, evslBt, evrev, evlist, evtup, evcomp, evcompIf, evs, opV_int, t_bool, truthy_int, cmpV_int, cmpV_bool_eq, cmpV_bool_ne, runFn, getA, lookupA, storeA, Option.map_some, List.getElem?_cons_zero, List.getElem?_cons_succ, List.set_cons_zero, List.set_cons_succ, List.cons_append, List.nil_append, vlit, op_add, op_band, op_bor, op_bxor, op_shr, c_eq, c_ne, c_lt, c_le, c_gt, c_ge, List.length_cons, List.length_nil, List.map_cons, List.map_nil, Nat.zero_add, Nat.add_zero, reduceIte, List.replicate_succ, List.replicate_zero, Nat.reduceAdd, Nat.reduceSub, Nat.reduceEqDiff, Nat.sub_self, decide_true, decide_false, eq_self, Bool.not_true, Bool.not_false, beq_self_eq_true, sh, bb, i1]
              exact ⟨_, _, rfl, some (N j), by rw [kx_succ, hb]; rfl, rfl⟩
            | false =>
              rw [hb] at bb
              simp only [exs, exasn, exasn2, exsetattr, exsetidx, exaug, exaugidx, exaugattr, exite, exloop, exret, exexpr, exfail, evlit, evloc, evbin, evneg, evinv, evnot, evand, evor, evcmp, evcmp2, evmem, evite, evcall, evnew, evmeth, evlen, evlistOf, evsorted, evrng1, evrng2, evrng3, evappend, evcount, evattr, evidx, evslTo, evslFrom, evslBt, evrev, evlist, evtup, evcomp, evcompIf, evs, opV_int, t_bool, truthy_int, cmpV_int, cmpV_bool_eq, cmpV_bool_ne, runFn, getA, lookupA, storeA, Option.map_some, List.getElem?_cons_zero, List.getElem?_cons_succ, List.set_cons_zero, List.set_cons_succ, List.cons_append, List.nil_append, vlit, op_add, op_band, op_bor, op_bxor, op_shr, c_eq, c_ne, c_lt, c_le, c_gt, c_ge, List.length_cons, List.length_nil, List.map_cons, List.map_nil, Nat.zero_add, Nat.add_zero, reduceIte, List.replicate_succ, List.replicate_zero, Nat.reduceAdd, Nat.reduceSub, Nat.reduceEqDiff, Nat.sub_self, decide_true, decide_false, eq_self, Bool.not_true, Bool.not_false, beq_self_eq_true, sh, bb, i1]
              exact ⟨_, _, rfl, some (N j), by rw [kx_succ, hb]; simp, rfl⟩)
        clear hL'
        have ap := append_LN (get_app kk [.rng 0 1 4]) (v := rx sg i) (by first | assumption | exact Nat.le_of_lt ‹_› | exact Nat.lt_succ_of_lt ‹_› | exact Nat.ne_of_lt ‹_› | exact Nat.ne_of_gt ‹_› | exact Nat.le_trans ‹_› (by decide) | exact Nat.lt_of_lt_of_le ‹_› (by decide) | decide | omega) rfl
        unfold rx at ap
        simp only [exs, exasn, exasn2, exsetattr, exsetidx, exaug, exaugidx, exaugattr, exite, exloop, exret, exexpr, exfail, evlit, evloc, evbin, evneg, evinv, evnot, evand, evor, evcmp, evcmp2, evmem, evite, evcall, evnew, evmeth, evlen, evlistOf, evsorted, evrng1, evrng2, evrng3, evappend, evcount, evattr, evidx, evslTo, evslFrom, evslBt, evrev, evlist, evtup, evcomp, evcompIf, evs, opV_int, t_bool, truthy_int, cmpV_int, cmpV_bool_eq, cmpV_bool_ne, runFn, getA, lookupA, storeA, Option.map_some, List.getElem?_cons_zero, List.getElem?_cons_succ, List.set_cons_zero, List.set_cons_succ, List.cons_append, List.nil_append, vlit, op_add, op_band, op_bor, op_bxor, op_shr, c_eq, c_ne, c_lt, c_le, c_gt, c_ge, List.length_cons, List.length_nil, List.map_cons, List.map_nil, Nat.zero_add, Nat.add_zero, reduceIte, List.replicate_succ, List.replicate_zero, Nat.reduceAdd, Nat.reduceSub, Nat.reduceEqDiff, Nat.sub_self, decide_true, decide_false, eq_self, Bool.not_true, Bool.not_false, beq_self_eq_true, getL_LV (get_app kk [.rng 0 1 4]), ap]
        exact ⟨_, _, rfl, _, _, _, rfl, get_set (get_app kk _), fun k o e => get_set_ne (get_app (K _ _ e) _) (new_apart e (Nat.le_refl _))⟩)
    clear hL
    refine ⟨_, _, rfl, Run.ret ?_⟩
    simp only [exs, exasn, exasn2, exsetattr, exsetidx, exaug, exaugidx, exaugattr, exite, exloop, exret, exexpr, exfail, evlit, evloc, evbin, evneg, evinv, evnot, evand, evor, evcmp, evcmp2, evmem, evite, evcall, evnew, evmeth, evlen, evlistOf, evsorted, evrng1, evrng2, evrng3, evappend, evcount, evattr, evidx, evslTo, evslFrom, evslBt, evrev, evlist, evtup, evcomp, evcompIf, evs, opV_int, t_bool, truthy_int, cmpV_int, cmpV_bool_eq, cmpV_bool_ne, runFn, getA, lookupA, storeA, Option.map_some, List.getElem?_cons_zero, List.getElem?_cons_succ, List.set_cons_zero, List.set_cons_succ, List.cons_append, List.nil_append, vlit, op_add, op_band, op_bor, op_bxor, op_shr, c_eq, c_ne, c_lt, c_le, c_gt, c_ge, List.length_cons, List.length_nil, List.map_cons, List.map_nil, Nat.zero_add, Nat.add_zero, reduceIte, List.replicate_succ, List.replicate_zero, Nat.reduceAdd, Nat.reduceSub, Nat.reduceEqDiff, Nat.sub_self, decide_true, decide_false, eq_self, Bool.not_true, Bool.not_false, beq_self_eq_true]
    exact ⟨_, _, rfl, _, rfl, k2, K2, Nat.le_refl _⟩
  obtain ⟨v, h', e, k, rfl, q⟩ := key
  exact ⟨k, h', e, q⟩

end Mz
end

section
open PySem PySem.W PyProof.Rows
set_option Elab.async false
set_option autoImplicit false

set_option tactic.hygienic false

namespace Mz

noncomputable def mi : Nat → Nat
  | 0 => 0
  | c + 1 => mi c + if c % 8 = 0 ∨ c % 8 = 7 then 0 else 1
theorem rl_mi (size c : Nat) : size * mi c + rl size c = size * mi (c + 1) := by
  unfold rl
  show _ = size * (mi c + _)
  split
  · simp
  · rw [Nat.mul_add, Nat.mul_one]

noncomputable def T0 (s size files : Nat) : Tb where
  P := fun c j => outp (st s (size * mi c + j + 1))
  E := fun f => outp (st s (size * 12 + f + 1))
  R := rx fun i => outp (st s (size * 12 + files + i + 1))
  S := outp (st s (size * 12 + files + 4 + 1))

theorem f_zob_init (d : Nat) {h : Hp} {k a e r x : Nat} (hk : h[k]? = some (.inst 1 [])) :
    ∃ h', Fd tab (d + 1) 4 [.ref k, .ref a, .ref e, .ref r, N x] h = some (.none, h') ∧ h'[k]? = some (.inst 1 [(1, .ref a), (2, .ref e), (3, .ref r), (4, N x)]) ∧ Kx k h h' := by
  have key : ∃ v h', Fd tab (d + 1) 4 [.ref k, .ref a, .ref e, .ref r, N x] h = some (v, h') ∧ (v = .none ∧ h'[k]? = some (.inst 1 [(1, .ref a), (2, .ref e), (3, .ref r), (4, N x)]) ∧ Kx k h h') := by
    refine fd_run rfl rfl ?_
    show Run _ b_Zobrist_init _ _ _
    unfold b_Zobrist_init
    simp only [List.map_cons, List.map_nil, List.cons_append, List.nil_append, List.replicate_succ, List.replicate_zero, Nat.reduceSub]
    refine Run.field (v := .ref a) (h1 := h) (by simp only [exs, exasn, exasn2, exsetattr, exsetidx, exaug, exaugidx, exaugattr, exite, exloop, exret, exexpr, exfail, evlit, evloc, evbin, evneg, evinv, evnot, evand, evor, evcmp, evcmp2, evmem, evite, evcall, evnew, evmeth, evlen, evlistOf, evsorted, evrng1, evrng2, evrng3, evappend, evcount, evattr, evidx, evslTo, evslFrom, evslBt, evrev, evlist, evtup, evcomp, evcompIf, evs, opV_int, t_bool, truthy_int, cmpV_int, cmpV_bool_eq, cmpV_bool_ne, runFn, getA, lookupA, storeA, Option.map_some, List.getElem?_cons_zero, List.getElem?_cons_succ, List.set_cons_zero, List.set_cons_succ, List.cons_append, List.nil_append, vlit, op_add, op_band, op_bor, op_bxor, op_shr, c_eq, c_ne, c_lt, c_le, c_gt, c_ge, List.length_cons, List.length_nil, List.map_cons, List.map_nil, Nat.zero_add, Nat.add_zero, reduceIte, List.replicate_succ, List.replicate_zero, Nat.reduceAdd, Nat.reduceSub, Nat.reduceEqDiff, Nat.sub_self, decide_true, decide_false, eq_self, Bool.not_true, Bool.not_false, beq_self_eq_true]) rfl hk (by simp) fun h1 p1 K1 => ?_
    refine Run.field (v := .ref e) (h1 := h1) (by simp only [exs, exasn, exasn2, exsetattr, exsetidx, exaug, exaugidx, exaugattr, exite, exloop, exret, exexpr, exfail, evlit, evloc, evbin, evneg, evinv, evnot, evand, evor, evcmp, evcmp2, evmem, evite, evcall, evnew, evmeth, evlen, evlistOf, evsorted, evrng1, evrng2, evrng3, evappend, evcount, evattr, evidx, evslTo, evslFrom, evslBt, evrev, evlist, evtup, evcomp, evcompIf, evs, opV_int, t_bool, truthy_int, cmpV_int, cmpV_bool_eq, cmpV_bool_ne, runFn, getA, lookupA, storeA, Option.map_some, List.getElem?_cons_zero, List.getElem?_cons_succ, List.set_cons_zero, List.set_cons_succ, List.cons_append, List.nil_append, vlit, op_add, op_band, op_bor, op_bxor, op_shr, c_eq, c_ne, c_lt, c_le, c_gt, c_ge, List.length_cons, List.length_nil, List.map_cons, List.map_nil, Nat.zero_add, Nat.add_zero, reduceIte, List.replicate_succ, List.replicate_zero, Nat.reduceAdd, Nat.reduceSub, Nat.reduceEqDiff, Nat.sub_self, decide_true, decide_false, eq_self, Bool.not_true, Bool.not_false, beq_self_eq_true]) rfl p1 (by simp [storeA]) fun h2 p2 K2 => ?_
    refine Run.field (v := .ref r) (h1 := h2) (by simp only [exs, exasn, exasn2, exsetattr, exsetidx, exaug, exaugidx, exaugattr, exite, exloop, exret, exexpr, exfail, evlit, evloc, evbin, evneg, evinv, evnot, evand, evor, evcmp, evcmp2, evmem, evite, evcall, evnew, evmeth, evlen, evlistOf, evsorted, evrng1, evrng2, evrng3, evappend, evcount, evattr, evidx, evslTo, evslFrom, evslBt, evrev, evlist, evtup, evcomp, evcompIf, evs, opV_int, t_bool, truthy_int, cmpV_int, cmpV_bool_eq, cmpV_bool_ne, runFn, getA, lookupA, storeA, Option.map_some, List.getElem?_cons_zero, List.getElem?_cons_succ, List.set_cons_zero, List.set_cons_succ, List.cons_append, List.nil_append, vlit, op_add, op_band, op_bor, op_bxor, op_shr, c_eq, c_ne, c_lt, c_le, c_gt, c_ge, List.length_cons, List.length_nil, List.map_cons, List.map_nil, Nat.zero_add, Nat.add_zero, reduceIte, List.replicate_succ, List.replicate_zero, Nat.reduceAdd, Nat.reduceSub, Nat.reduceEqDiff, Nat.sub_self, decide_true, decide_false, eq_self, Bool.not_true, Bool.not_false, beq_self_eq_true]) rfl p2 (by simp [storeA]) fun h3 p3 K3 => ?_
    refine Run.field (v := N x) (h1 := h3) (by simp only [exs, exasn, exasn2, exsetattr, exsetidx, exaug, exaugidx, exaugattr, exite, exloop, exret, exexpr, exfail, evlit, evloc, evbin, evneg, evinv, evnot, evand, evor, evcmp, evcmp2, evmem, evite, evcall, evnew, evmeth, evlen, evlistOf, evsorted, evrng1, evrng2, evrng3, evappend, evcount, evattr, evidx, evslTo, evslFrom, evslBt, evrev, evlist, evtup, evcomp, evcompIf, evs, opV_int, t_bool, truthy_int, cmpV_int, cmpV_bool_eq, cmpV_bool_ne, runFn, getA, lookupA, storeA, Option.map_some, List.getElem?_cons_zero, List.getElem?_cons_succ, List.set_cons_zero, List.set_cons_succ, List.cons_append, List.nil_append, vlit, op_add, op_band, op_bor, op_bxor, op_shr, c_eq, c_ne, c_lt, c_le, c_gt, c_ge, List.length_cons, List.length_nil, List.map_cons, List.map_nil, Nat.zero_add, Nat.add_zero, reduceIte, List.replicate_succ, List.replicate_zero, Nat.reduceAdd, Nat.reduceSub, Nat.reduceEqDiff, Nat.sub_self, decide_true, decide_false, eq_self, Bool.not_true, Bool.not_false, beq_self_eq_true]) rfl p3 (by simp [storeA]) fun h4 p4 K4 => ?_
    exact Run.nil ⟨rfl, by rw [p4]; simp [storeA], ((K1.trans K2).trans K3).trans K4⟩
  obtain ⟨v, h', e, rfl, q⟩ := key
  exact ⟨h', e, q⟩

theorem f_make_zobrist (d : Nat) {h : Hp} {g size files : Nat} {seed : Int} (hg : GeoAt h g size files) (hs : size ≤ 50) (hf : files ≤ 50) :
    ∃ z h', Fd tab (d + 3) 7 [.ref g, .int seed] h = some (.ref z, h') ∧ ZobAt h' z size files (T0 (sd seed) size files) ∧ Kp h h' := by
  have key : ∃ v h', Fd tab (d + 3) 7 [.ref g, .int seed] h = some (v, h') ∧ (∃ z, v = .ref z ∧ ZobAt h' z size files (T0 (sd seed) size files) ∧ Kp h h') := by
    refine fd_run rfl rfl ?_
    show Run _ b_make_zobrist _ _ _
    unfold b_make_zobrist
    simp only [List.map_cons, List.map_nil, List.cons_append, List.nil_append, List.replicate_succ, List.replicate_zero, Nat.reduceSub]
    refine Run.cons ?_
    obtain ⟨h1, e1, r1, X1⟩ := f_random_init (d + 1) (seed := seed) (get_new h (.inst 0 []))
    have hti : initOf 0 = some 2 := rfl
    simp only [exs, exasn, exasn2, exsetattr, exsetidx, exaug, exaugidx, exaugattr, exite, exloop, exret, exexpr, exfail, evlit, evloc, evbin, evneg, evinv, evnot, evand, evor, evcmp, evcmp2, evmem, evite, evcall, evnew, evmeth, evlen, evlistOf, evsorted, evrng1, evrng2, evrng3, evappend, evcount, evattr, evidx, evslTo, evslFrom, evslBt, evrev, evlist, evtup, evcomp, evcompIf, evs, opV_int, t_bool, truthy_int, cmpV_int, cmpV_bool_eq, cmpV_bool_ne, runFn, getA, lookupA, storeA, Option.map_some, List.getElem?_cons_zero, List.getElem?_cons_succ, List.set_cons_zero, List.set_cons_succ, List.cons_append, List.nil_append, vlit, op_add, op_band, op_bor, op_bxor, op_shr, c_eq, c_ne, c_lt, c_le, c_gt, c_ge, List.length_cons, List.length_nil, List.map_cons, List.map_nil, Nat.zero_add, Nat.add_zero, reduceIte, List.replicate_succ, List.replicate_zero, Nat.reduceAdd, Nat.reduceSub, Nat.reduceEqDiff, Nat.sub_self, decide_true, decide_false, eq_self, Bool.not_true, Bool.not_false, beq_self_eq_true, hti, e1]
    refine ⟨_, _, rfl, Run.cons ?_⟩
    have K1 : Kp h h1 := fun k o e => X1 _ _ (new_apart e (Nat.le_refl _)) (get_app e _)
    have hls := sd_lt seed
    generalize sd seed = s at r1 hls
    have lr := lt_of r1
    generalize hrr : h.length = r at r1 lr e1 X1
    simp only [exs, exasn, exasn2, exsetattr, exsetidx, exaug, exaugidx, exaugattr, exite, exloop, exret, exexpr, exfail, evlit, evloc, evbin, evneg, evinv, evnot, evand, evor, evcmp, evcmp2, evmem, evite, evcall, evnew, evmeth, evlen, evlistOf, evsorted, evrng1, evrng2, evrng3, evappend, evcount, evattr, evidx, evslTo, evslFrom, evslBt, evrev, evlist, evtup, evcomp, evcompIf, evs, opV_int, t_bool, truthy_int, cmpV_int, cmpV_bool_eq, cmpV_bool_ne, runFn, getA, lookupA, storeA, Option.map_some, List.getElem?_cons_zero, List.getElem?_cons_succ, List.set_cons_zero, List.set_cons_succ, List.cons_append, List.nil_append, vlit, op_add, op_band, op_bor, op_bxor, op_shr, c_eq, c_ne, c_lt, c_le, c_gt, c_ge, List.length_cons, List.length_nil, List.map_cons, List.map_nil, Nat.zero_add, Nat.add_zero, reduceIte, List.replicate_succ, List.replicate_zero, Nat.reduceAdd, Nat.reduceSub, Nat.reduceEqDiff, Nat.sub_self, decide_true, decide_false, eq_self, Bool.not_true, Bool.not_false, beq_self_eq_true]
    refine ⟨_, _, rfl, Run.cons ?_⟩
    simp only [exs, exasn, exasn2, exsetattr, exsetidx, exaug, exaugidx, exaugattr, exite, exloop, exret, exexpr, exfail, evlit, evloc, evbin, evneg, evinv, evnot, evand, evor, evcmp, evcmp2, evmem, evite, evcall, evnew, evmeth, evlen, evlistOf, evsorted, evrng1, evrng2, evrng3, evappend, evcount, evattr, evidx, evslTo, evslFrom, evslBt, evrev, evlist, evtup, evcomp, evcompIf, evs, opV_int, t_bool, truthy_int, cmpV_int, cmpV_bool_eq, cmpV_bool_ne, runFn, getA, lookupA, storeA, Option.map_some, List.getElem?_cons_zero, List.getElem?_cons_succ, List.set_cons_zero, List.set_cons_succ, List.cons_append, List.nil_append, vlit, op_add, op_band, op_bor, op_bxor, op_shr, c_eq, c_ne, c_lt, c_le, c_gt, c_ge, List.length_cons, List.length_nil, List.map_cons, List.map_nil, Nat.zero_add, Nat.add_zero, reduceIte, List.replicate_succ, List.replicate_zero, Nat.reduceAdd, Nat.reduceSub, Nat.reduceEqDiff, Nat.sub_self, decide_true, decide_false, eq_self, Bool.not_true, Bool.not_false, beq_self_eq_true, mkRng_N (h1 ++ [.list []]) (n := 15) (by first | assumption | exact Nat.le_of_lt ‹_› | exact Nat.lt_succ_of_lt ‹_› | exact Nat.ne_of_lt ‹_› | exact Nat.ne_of_gt ‹_› | exact Nat.le_trans ‹_› (by decide) | exact Nat.lt_of_lt_of_le ‹_› (by decide) | decide | omega)]
    generalize hL : loopAll _ _ _ _ _ = L
    have kp1 := get_app (get_new h1 (.list [])) [.rng 0 1 15]
    have hkp : r < h1.length := lr
    generalize hkk : h1.length = kp at hL kp1 hkp
    obtain ⟨l', h2, rfl, x, rs, rfl, K2, r2, k2, q2, _⟩ := loop_rng1 (n := 15) hL
      (fun i l h' => ∃ x rs, l = [some (.ref g), some (.int seed), some (.ref r), some (.ref kp), x, none, none] ∧ Kp h h' ∧ h'[r]? = some (.inst 0 [(0, N (st s (size * mi i)))]) ∧ h'[kp]? = some (LV i fun c => .ref (rs c)) ∧
        (∀ c, c < i → h'[rs c]? = some (LN (rl size c) ((T0 s size files).P c)) ∧ kp < rs c) ∧ kp < h'.length)
      ⟨none, fun _ => 0, rfl, fun k o e => get_app (get_app (K1 _ _ e) _) _, get_app (get_app r1 _) _, kp1, fun c hc => by first | assumption | exact Nat.le_of_lt ‹_› | exact Nat.lt_succ_of_lt ‹_› | exact Nat.ne_of_lt ‹_› | exact Nat.ne_of_gt ‹_› | exact Nat.le_trans ‹_› (by decide) | exact Nat.lt_of_lt_of_le ‹_› (by decide) | decide | omega, by simp; omega⟩ (by decide) (get_new _ _) (fun i l h' hi hh => by
        obtain ⟨x, rs, rfl, K, rr, kk, q, hlen⟩ := hh
        obtain ⟨fs, g1, g2, g3⟩ := hg.mono K
        have g1' := g1
        by_cases hm : i % 8 = 0 ∨ i % 8 = 7
        · have t0 : ¬ (1 ≤ i % 8 ∧ i % 8 ≤ 6) := by first | assumption | exact Nat.le_of_lt ‹_› | exact Nat.lt_succ_of_lt ‹_› | exact Nat.ne_of_lt ‹_› | exact Nat.ne_of_gt ‹_› | exact Nat.le_trans ‹_› (by decide) | exact Nat.lt_of_lt_of_le ‹_› (by decide) | decide | omega
          have ap := append_LV (g' := fun c => .ref (if c = i then h'.length else rs c)) (v := .ref h'.length) (get_app kk [.list []]) (by first | assumption | exact Nat.le_of_lt ‹_› | exact Nat.lt_succ_of_lt ‹_› | exact Nat.ne_of_lt ‹_› | exact Nat.ne_of_gt ‹_› | exact Nat.le_trans ‹_› (by decide) | exact Nat.lt_of_lt_of_le ‹_› (by decide) | decide | omega) (fun c hc => by simp [show c ≠ i by first | assumption | exact Nat.le_of_lt ‹_› | exact Nat.lt_succ_of_lt ‹_› | exact Nat.ne_of_lt ‹_› | exact Nat.ne_of_gt ‹_› | exact Nat.le_trans ‹_› (by decide) | exact Nat.lt_of_lt_of_le ‹_› (by decide) | decide | omega]) (by simp)
          have fin : ∃ l' h'', some (Fl.next, [some (V.ref g), some (.int seed), some (.ref r), some (.ref kp), some (N i), none, none], (h' ++ [O.list []]).set kp (LV (i + 1) fun c => .ref (if c = i then h'.length else rs c))) = some (.next, l', h'') ∧
              ∃ (x : Option V) (rs : Nat → Nat), l' = [some (.ref g), some (.int seed), some (.ref r), some (.ref kp), x, none, none] ∧ Kp h h'' ∧ h''[r]? = some (.inst 0 [(0, N (st s (size * mi (i + 1))))]) ∧ h''[kp]? = some (LV (i + 1) fun c => .ref (rs c)) ∧
                (∀ c, c < i + 1 → h''[rs c]? = some (LN (rl size c) ((T0 s size files).P c)) ∧ kp < rs c) ∧ kp < h''.length := by
            refine ⟨_, _, rfl, _, fun c => if c = i then h'.length else rs c, rfl, fun k o e => get_set_ne (get_app (K _ _ e) _) (by have := lt_of e; omega), ?_, get_set (get_app kk _), fun c hc => ?_, by simp; omega⟩
            · rw [← rl_mi, show rl size i = 0 from if_pos hm, Nat.add_zero]
              exact get_set_ne (get_app rr _) (by first | assumption | exact Nat.le_of_lt ‹_› | exact Nat.lt_succ_of_lt ‹_› | exact Nat.ne_of_lt ‹_› | exact Nat.ne_of_gt ‹_› | exact Nat.le_trans ‹_› (by decide) | exact Nat.lt_of_lt_of_le ‹_› (by decide) | decide | omega)
            · by_cases hci : c = i
              · subst hci
                simp only [if_true]
                rw [show rl size c = 0 from if_pos hm]
                exact ⟨get_set_ne (get_new h' (.list [])) (by first | assumption | exact Nat.le_of_lt ‹_› | exact Nat.lt_succ_of_lt ‹_› | exact Nat.ne_of_lt ‹_› | exact Nat.ne_of_gt ‹_› | exact Nat.le_trans ‹_› (by decide) | exact Nat.lt_of_lt_of_le ‹_› (by decide) | decide | omega), hlen⟩
              · simp only [hci, if_false]
                obtain ⟨u1, u2⟩ := q c (by first | assumption | exact Nat.le_of_lt ‹_› | exact Nat.lt_succ_of_lt ‹_› | exact Nat.ne_of_lt ‹_› | exact Nat.ne_of_gt ‹_› | exact Nat.le_trans ‹_› (by decide) | exact Nat.lt_of_lt_of_le ‹_› (by decide) | decide | omega)
                exact ⟨get_set_ne (get_app u1 _) (by first | assumption | exact Nat.le_of_lt ‹_› | exact Nat.lt_succ_of_lt ‹_› | exact Nat.ne_of_lt ‹_› | exact Nat.ne_of_gt ‹_› | exact Nat.le_trans ‹_› (by decide) | exact Nat.lt_of_lt_of_le ‹_› (by decide) | decide | omega), u2⟩
          by_cases t1 : 1 ≤ i % 8
          · have t2 : ¬ i % 8 ≤ 6 := by first | assumption | exact Nat.le_of_lt ‹_› | exact Nat.lt_succ_of_lt ‹_› | exact Nat.ne_of_lt ‹_› | exact Nat.ne_of_gt ‹_› | exact Nat.le_trans ‹_› (by decide) | exact Nat.lt_of_lt_of_le ‹_› (by decide) | decide | omega
            simp only [exs, exasn, exasn2, exsetattr, exsetidx, exaug, exaugidx, exaugattr, exite, exloop, exret, exexpr, exfail, evlit, evloc, evbin, evneg, evinv, evnot, evand, evor, evcmp, evcmp2, evmem, evite, evcall, evnew, evmeth, evlen, evlistOf, evsorted, evrng1, evrng2, evrng3, evappend, evcount, evattr, evidx, evslTo, evslFrom, evslBt, evrev, evlist, evtup, evcomp, evcompIf, evs, opV_int, t_bool, truthy_int, cmpV_int, cmpV_bool_eq, cmpV_bool_ne, runFn, getA, lookupA, storeA, Option.map_some, List.getElem?_cons_zero, List.getElem?_cons_succ, List.set_cons_zero, List.set_cons_succ, List.cons_append, List.nil_append, vlit, op_add, op_band, op_bor, op_bxor, op_shr, c_eq, c_ne, c_lt, c_le, c_gt, c_ge, List.length_cons, List.length_nil, List.map_cons, List.map_nil, Nat.zero_add, Nat.add_zero, reduceIte, List.replicate_succ, List.replicate_zero, Nat.reduceAdd, Nat.reduceSub, Nat.reduceEqDiff, Nat.sub_self, decide_true, decide_false, eq_self, Bool.not_true, Bool.not_false, beq_self_eq_true, f_kind_of, t1, t2, getL_LV kk, ap]
            exact fin
          · simp only [exs, exasn, exasn2, exsetattr, exsetidx, exaug, exaugidx, exaugattr, exite, exloop, exret, exexpr, exfail, evlit, evloc, evbin, evneg, evinv, evnot, evand, evor, evcmp, evcmp2, evmem, evite, evcall, evnew, evmeth, evlen, evlistOf, evsorted, evrng1, evrng2, evrng3, evappend, evcount, evattr, evidx, evslTo, evslFrom, evslBt, evrev, evlist, evtup, evcomp, evcompIf, evs, opV_int, t_bool, truthy_int, cmpV_int, cmpV_bool_eq, cmpV_bool_ne, runFn, getA, lookupA, storeA, Option.map_some, List.getElem?_cons_zero, List.getElem?_cons_succ, List.set_cons_zero, List.set_cons_succ, List.cons_append, List.nil_append, vlit, op_add, op_band, op_bor, op_bxor, op_shr, c_eq, c_ne, c_lt, c_le, c_gt, c_ge, List.length_cons, List.length_nil, List.map_cons, List.map_nil, Nat.zero_add, Nat.add_zero, reduceIte, List.replicate_succ, List.replicate_zero, Nat.reduceAdd, Nat.reduceSub, Nat.reduceEqDiff, Nat.sub_self, decide_true, decide_false, eq_self, Bool.not_true, Bool.not_false, beq_self_eq_true, f_kind_of, t1, getL_LV kk, ap]
            exact fin
        · have t1 : 1 ≤ i % 8 := by first | assumption | exact Nat.le_of_lt ‹_› | exact Nat.lt_succ_of_lt ‹_› | exact Nat.ne_of_lt ‹_› | exact Nat.ne_of_gt ‹_› | exact Nat.le_trans ‹_› (by decide) | exact Nat.lt_of_lt_of_le ‹_› (by decide) | decide | omega
          have t2 : i % 8 ≤ 6 := by first | assumption | exact Nat.le_of_lt ‹_› | exact Nat.lt_succ_of_lt ‹_› | exact Nat.ne_of_lt ‹_› | exact Nat.ne_of_gt ‹_› | exact Nat.le_trans ‹_› (by decide) | exact Nat.lt_of_lt_of_le ‹_› (by decide) | decide | omega
          obtain ⟨kr, h3, e3, d3, r3, X3, l3⟩ := f_draw_row d rr (st_lt hls _) (len := size) (by first | assumption | exact Nat.le_of_lt ‹_› | exact Nat.lt_succ_of_lt ‹_› | exact Nat.ne_of_lt ‹_› | exact Nat.ne_of_gt ‹_› | exact Nat.le_trans ‹_› (by decide) | exact Nat.lt_of_lt_of_le ‹_› (by decide) | decide | omega)
          have kk3 := X3 _ _ (by first | assumption | exact Nat.le_of_lt ‹_› | exact Nat.lt_succ_of_lt ‹_› | exact Nat.ne_of_lt ‹_› | exact Nat.ne_of_gt ‹_› | exact Nat.le_trans ‹_› (by decide) | exact Nat.lt_of_lt_of_le ‹_› (by decide) | decide | omega) kk
          have ap := append_LV (g' := fun c => .ref (if c = i then kr else rs c)) (v := .ref kr) kk3 (by first | assumption | exact Nat.le_of_lt ‹_› | exact Nat.lt_succ_of_lt ‹_› | exact Nat.ne_of_lt ‹_› | exact Nat.ne_of_gt ‹_› | exact Nat.le_trans ‹_› (by decide) | exact Nat.lt_of_lt_of_le ‹_› (by decide) | decide | omega) (fun c hc => by simp [show c ≠ i by first | assumption | exact Nat.le_of_lt ‹_› | exact Nat.lt_succ_of_lt ‹_› | exact Nat.ne_of_lt ‹_› | exact Nat.ne_of_gt ‹_› | exact Nat.le_trans ‹_› (by decide) | exact Nat.lt_of_lt_of_le ‹_› (by decide) | decide | omega]) (by simp)
          simp only [exs, exasn, exasn2, exsetattr, exsetidx, exaug, exaugidx, exaugattr, exite, exloop, exret, exexpr, exfail, evlit, evloc, evbin, evneg, evinv, evnot, evand, evor, evcmp, evcmp2, evmem, evite, evcall, evnew, evmeth, evlen, evlistOf, evsorted, evrng1, evrng2, evrng3, evappend, evcount, evattr, evidx, evslTo, evslFrom, evslBt, evrev, evlist, evtup, evcomp, evcompIf, evs, opV_int, t_bool, truthy_int, cmpV_int, cmpV_bool_eq, cmpV_bool_ne, runFn, getA, lookupA, storeA, Option.map_some, List.getElem?_cons_zero, List.getElem?_cons_succ, List.set_cons_zero, List.set_cons_succ, List.cons_append, List.nil_append, vlit, op_add, op_band, op_bor, op_bxor, op_shr, c_eq, c_ne, c_lt, c_le, c_gt, c_ge, List.length_cons, List.length_nil, List.map_cons, List.map_nil, Nat.zero_add, Nat.add_zero, reduceIte, List.replicate_succ, List.replicate_zero, Nat.reduceAdd, Nat.reduceSub, Nat.reduceEqDiff, Nat.sub_self, decide_true, decide_false, eq_self, Bool.not_true, Bool.not_false, beq_self_eq_true, f_kind_of, t1, t2, getL_LV kk, g1', g3, e3, ap]
          have hl3 := lt_of kk3
          refine ⟨_, _, rfl, _, fun c => if c = i then kr else rs c, rfl, fun k o e => get_set_ne (X3 _ _ (by have := lt_of e; omega) (K _ _ e)) (by have := lt_of e; omega), ?_, get_set kk3, fun c hc => ?_, by simpa using hl3⟩
          · rw [← rl_mi, show rl size i = size from if_neg hm, ← st_add]
            exact get_set_ne r3 (by first | assumption | exact Nat.le_of_lt ‹_› | exact Nat.lt_succ_of_lt ‹_› | exact Nat.ne_of_lt ‹_› | exact Nat.ne_of_gt ‹_› | exact Nat.le_trans ‹_› (by decide) | exact Nat.lt_of_lt_of_le ‹_› (by decide) | decide | omega)
          · by_cases hci : c = i
            · subst hci
              simp only [if_true]
              rw [show rl size c = size from if_neg hm]
              refine ⟨get_set_ne ?_ (by first | assumption | exact Nat.le_of_lt ‹_› | exact Nat.lt_succ_of_lt ‹_› | exact Nat.ne_of_lt ‹_› | exact Nat.ne_of_gt ‹_› | exact Nat.le_trans ‹_› (by decide) | exact Nat.lt_of_lt_of_le ‹_› (by decide) | decide | omega), by first | assumption | exact Nat.le_of_lt ‹_› | exact Nat.lt_succ_of_lt ‹_› | exact Nat.ne_of_lt ‹_› | exact Nat.ne_of_gt ‹_› | exact Nat.le_trans ‹_› (by decide) | exact Nat.lt_of_lt_of_le ‹_› (by decide) | decide | omega⟩
              rw [d3]
              have : (fun i => outp (st (st s (size * mi c)) (i + 1))) = (T0 s size files).P c := by
                funext j
                rw [st_add]; rfl
              rw [this]
            · simp only [hci, if_false]
              obtain ⟨u1, u2⟩ := q c (by first | assumption | exact Nat.le_of_lt ‹_› | exact Nat.lt_succ_of_lt ‹_› | exact Nat.ne_of_lt ‹_› | exact Nat.ne_of_gt ‹_› | exact Nat.le_trans ‹_› (by decide) | exact Nat.lt_of_lt_of_le ‹_› (by decide) | decide | omega)
              exact ⟨get_set_ne (X3 _ _ (by first | assumption | exact Nat.le_of_lt ‹_› | exact Nat.lt_succ_of_lt ‹_› | exact Nat.ne_of_lt ‹_› | exact Nat.ne_of_gt ‹_› | exact Nat.le_trans ‹_› (by decide) | exact Nat.lt_of_lt_of_le ‹_› (by decide) | decide | omega) u1) (by first | assumption | exact Nat.le_of_lt ‹_› | exact Nat.lt_succ_of_lt ‹_› | exact Nat.ne_of_lt ‹_› | exact Nat.ne_of_gt ‹_› | exact Nat.le_trans ‹_› (by decide) | exact Nat.lt_of_lt_of_le ‹_› (by decide) | decide | omega), u2⟩)
    clear hL
    refine ⟨_, _, rfl, Run.cons ?_⟩
    have m15 : mi 15 = 12 := rfl
    rw [m15] at r2
    -- ep
    obtain ⟨fs, g1, g2, g3⟩ := hg.mono K2
    obtain ⟨ke, h3, e3, d3, r3, X3, l3⟩ := f_draw_row d r2 (st_lt hls _) (len := files) (by first | assumption | exact Nat.le_of_lt ‹_› | exact Nat.lt_succ_of_lt ‹_› | exact Nat.ne_of_lt ‹_› | exact Nat.ne_of_gt ‹_› | exact Nat.le_trans ‹_› (by decide) | exact Nat.lt_of_lt_of_le ‹_› (by decide) | decide | omega)
    simp only [exs, exasn, exasn2, exsetattr, exsetidx, exaug, exaugidx, exaugattr, exite, exloop, exret, exexpr, exfail, evlit, evloc, evbin, evneg, evinv, evnot, evand, evor, evcmp, evcmp2, evmem, evite, evcall, evnew, evmeth, evlen, evlistOf, evsorted, evrng1, evrng2, evrng3, evappend, evcount, evattr, evidx, evslTo, evslFrom, evslBt, evrev, evlist, evtup, evcomp, evcompIf, evs, opV_int, t_bool, truthy_int, cmpV_int, cmpV_bool_eq, cmpV_bool_ne, runFn, getA, lookupA, storeA, Option.map_some, List.getElem?_cons_zero, List.getElem?_cons_succ, List.set_cons_zero, List.set_cons_succ, List.cons_append, List.nil_append, vlit, op_add, op_band, op_bor, op_bxor, op_shr, c_eq, c_ne, c_lt, c_le, c_gt, c_ge, List.length_cons, List.length_nil, List.map_cons, List.map_nil, Nat.zero_add, Nat.add_zero, reduceIte, List.replicate_succ, List.replicate_zero, Nat.reduceAdd, Nat.reduceSub, Nat.reduceEqDiff, Nat.sub_self, decide_true, decide_false, eq_self, Bool.not_true, Bool.not_false, beq_self_eq_true, g1, g2, e3]
    refine ⟨_, _, rfl, Run.cons ?_⟩
    have hl2 := lt_of k2
    have k3 := X3 _ _ (by first | assumption | exact Nat.le_of_lt ‹_› | exact Nat.lt_succ_of_lt ‹_› | exact Nat.ne_of_lt ‹_› | exact Nat.ne_of_gt ‹_› | exact Nat.le_trans ‹_› (by decide) | exact Nat.lt_of_lt_of_le ‹_› (by decide) | decide | omega) k2
    have q3 : ∀ c, c < 15 → h3[rs c]? = some (LN (rl size c) ((T0 s size files).P c)) := fun c hc => X3 _ _ (by have := (q2 c hc).2; omega) (q2 c hc).1
    have K3 : Kp h h3 := fun k o e => X3 _ _ (by have := lt_of e; omega) (K2 _ _ e)
    rw [st_add] at r3
    have d3 : h3[ke]? = some (LN files (T0 s size files).E) := by
      rw [d3]
      have : (fun i => outp (st (st s (size * 12)) (i + 1))) = (T0 s size files).E := by
        funext j
        rw [st_add]; rfl
      rw [this]
    -- rights
    obtain ⟨k4, h4, e4, d4, r4, X4, l4⟩ := f_draw_row d r3 (st_lt hls _) (len := 4) (by first | assumption | exact Nat.le_of_lt ‹_› | exact Nat.lt_succ_of_lt ‹_› | exact Nat.ne_of_lt ‹_› | exact Nat.ne_of_gt ‹_› | exact Nat.le_trans ‹_› (by decide) | exact Nat.lt_of_lt_of_le ‹_› (by decide) | decide | omega)
    obtain ⟨k5, h5, e5, d5, K5, l5⟩ := f_rights_row (d + 1) d4
    simp only [exs, exasn, exasn2, exsetattr, exsetidx, exaug, exaugidx, exaugattr, exite, exloop, exret, exexpr, exfail, evlit, evloc, evbin, evneg, evinv, evnot, evand, evor, evcmp, evcmp2, evmem, evite, evcall, evnew, evmeth, evlen, evlistOf, evsorted, evrng1, evrng2, evrng3, evappend, evcount, evattr, evidx, evslTo, evslFrom, evslBt, evrev, evlist, evtup, evcomp, evcompIf, evs, opV_int, t_bool, truthy_int, cmpV_int, cmpV_bool_eq, cmpV_bool_ne, runFn, getA, lookupA, storeA, Option.map_some, List.getElem?_cons_zero, List.getElem?_cons_succ, List.set_cons_zero, List.set_cons_succ, List.cons_append, List.nil_append, vlit, op_add, op_band, op_bor, op_bxor, op_shr, c_eq, c_ne, c_lt, c_le, c_gt, c_ge, List.length_cons, List.length_nil, List.map_cons, List.map_nil, Nat.zero_add, Nat.add_zero, reduceIte, List.replicate_succ, List.replicate_zero, Nat.reduceAdd, Nat.reduceSub, Nat.reduceEqDiff, Nat.sub_self, decide_true, decide_false, eq_self, Bool.not_true, Bool.not_false, beq_self_eq_true, e4, e5]
    refine ⟨_, _, rfl, Run.ret ?_⟩
    have X35 : Kx r h3 h5 := X4.trans (K5.x r)
    have k6 := X35 _ _ (by first | assumption | exact Nat.le_of_lt ‹_› | exact Nat.lt_succ_of_lt ‹_› | exact Nat.ne_of_lt ‹_› | exact Nat.ne_of_gt ‹_› | exact Nat.le_trans ‹_› (by decide) | exact Nat.lt_of_lt_of_le ‹_› (by decide) | decide | omega) k3
    have q6 : ∀ c, c < 15 → h5[rs c]? = some (LN (rl size c) ((T0 s size files).P c)) := fun c hc => X35 _ _ (by have := (q2 c hc).2; omega) (q3 c hc)
    have K6 : Kp h h5 := fun k o e => X35 _ _ (by have := lt_of e; omega) (K3 _ _ e)
    have hke : r < ke := by first | assumption | exact Nat.le_of_lt ‹_› | exact Nat.lt_succ_of_lt ‹_› | exact Nat.ne_of_lt ‹_› | exact Nat.ne_of_gt ‹_› | exact Nat.le_trans ‹_› (by decide) | exact Nat.lt_of_lt_of_le ‹_› (by decide) | decide | omega
    have d6 := X35 _ _ (by first | assumption | exact Nat.le_of_lt ‹_› | exact Nat.lt_succ_of_lt ‹_› | exact Nat.ne_of_lt ‹_› | exact Nat.ne_of_gt ‹_› | exact Nat.le_trans ‹_› (by decide) | exact Nat.lt_of_lt_of_le ‹_› (by decide) | decide | omega) d3
    have d5 : h5[k5]? = some (LN 16 (T0 s size files).R) := by
      rw [d5]
      have : (fun i => outp (st (st s (size * 12 + files)) (i + 1))) = fun i => outp (st s (size * 12 + files + i + 1)) := by
        funext j
        rw [st_add]; rfl
      rw [this]; rfl
    rw [st_add] at r4
    have r6 := K5 _ _ r4
    have hk5 : r < k5 := by have := lt_of r4; omega
    -- the mover, the whole
    have hmt : methOf 0 5 = some 3 := rfl
    have nxt := f_next (d + 1) r6 (st_lt hls _)
    have nS : outp (nx (st s (size * 12 + files + 4))) = (T0 s size files).S := rfl
    rw [nS] at nxt
    have X7 := Kx.set h5 r (.inst 0 [(0, N (nx (st s (size * 12 + files + 4))))])
    generalize h5.set r (.inst 0 [(0, N (nx (st s (size * 12 + files + 4))))]) = h7 at nxt X7
    have hti : initOf 1 = some 4 := rfl
    obtain ⟨h8, e8, z8, X8⟩ := f_zob_init (d + 1) (a := kp) (e := ke) (r := k5) (x := (T0 s size files).S) (get_new h7 (.inst 1 []))
    simp only [exs, exasn, exasn2, exsetattr, exsetidx, exaug, exaugidx, exaugattr, exite, exloop, exret, exexpr, exfail, evlit, evloc, evbin, evneg, evinv, evnot, evand, evor, evcmp, evcmp2, evmem, evite, evcall, evnew, evmeth, evlen, evlistOf, evsorted, evrng1, evrng2, evrng3, evappend, evcount, evattr, evidx, evslTo, evslFrom, evslBt, evrev, evlist, evtup, evcomp, evcompIf, evs, opV_int, t_bool, truthy_int, cmpV_int, cmpV_bool_eq, cmpV_bool_ne, runFn, getA, lookupA, storeA, Option.map_some, List.getElem?_cons_zero, List.getElem?_cons_succ, List.set_cons_zero, List.set_cons_succ, List.cons_append, List.nil_append, vlit, op_add, op_band, op_bor, op_bxor, op_shr, c_eq, c_ne, c_lt, c_le, c_gt, c_ge, List.length_cons, List.length_nil, List.map_cons, List.map_nil, Nat.zero_add, Nat.add_zero, reduceIte, List.replicate_succ, List.replicate_zero, Nat.reduceAdd, Nat.reduceSub, Nat.reduceEqDiff, Nat.sub_self, decide_true, decide_false, eq_self, Bool.not_true, Bool.not_false, beq_self_eq_true, r6, hmt, nxt, hti, e8]
    have X : ∀ (k : Nat) (o : O), k ≠ r → h5[k]? = some o → h8[k]? = some o := fun k o a e => X8 _ _ (new_apart (X7 _ _ a e) (Nat.le_refl _)) (get_app (X7 _ _ a e) _)
    refine ⟨_, _, rfl, _, rfl, ⟨kp, ke, k5, rs, z8, X _ _ (by first | assumption | exact Nat.le_of_lt ‹_› | exact Nat.lt_succ_of_lt ‹_› | exact Nat.ne_of_lt ‹_› | exact Nat.ne_of_gt ‹_› | exact Nat.le_trans ‹_› (by decide) | exact Nat.lt_of_lt_of_le ‹_› (by decide) | decide | omega) k6, X _ _ (by first | assumption | exact Nat.le_of_lt ‹_› | exact Nat.lt_succ_of_lt ‹_› | exact Nat.ne_of_lt ‹_› | exact Nat.ne_of_gt ‹_› | exact Nat.le_trans ‹_› (by decide) | exact Nat.lt_of_lt_of_le ‹_› (by decide) | decide | omega) d6, X _ _ (by first | assumption | exact Nat.le_of_lt ‹_› | exact Nat.lt_succ_of_lt ‹_› | exact Nat.ne_of_lt ‹_› | exact Nat.ne_of_gt ‹_› | exact Nat.le_trans ‹_› (by decide) | exact Nat.lt_of_lt_of_le ‹_› (by decide) | decide | omega) d5, fun c hc => X _ _ (by have := (q2 c hc).2; omega) (q6 c hc)⟩, fun k o e => X _ _ (by have := lt_of e; omega) (K6 _ _ e)⟩
  obtain ⟨v, h', e, z, rfl, q⟩ := key
  exact ⟨z, h', e, q⟩

end Mz
end

section
open PySem PySem.W PyProof.Rows
set_option Elab.async false
set_option autoImplicit false

set_option tactic.hygienic false

namespace Mz

theorem drop_map (n a : Nat) (g : Nat → V) : ((List.range n).map g).drop a = (List.range (n - a)).map fun i => g (a + i) := by
  apply List.ext_getElem
  · simp
  · intro k h1 h2
    simp
theorem cut_bt {h : Hp} {k n a b : Nat} {g : Nat → V} (hk : h[k]? = some (LV n g)) (hb : b ≤ n) (hn : n ≤ 1000) : cut h (.ref k) (some (a : Int)) (some (b : Int)) = some (.ref h.length, h ++ [LV (b - a) fun i => g (a + i)]) := by
  have h0 : (0 : Int) ≤ (a : Int) := by first | assumption | exact Nat.le_of_lt ‹_› | exact Nat.lt_succ_of_lt ‹_› | exact Nat.ne_of_lt ‹_› | exact Nat.ne_of_gt ‹_› | exact Nat.le_trans ‹_› (by decide) | exact Nat.lt_of_lt_of_le ‹_› (by decide) | decide | omega
  have h1 : (0 : Int) ≤ (b : Int) := by first | assumption | exact Nat.le_of_lt ‹_› | exact Nat.lt_succ_of_lt ‹_› | exact Nat.ne_of_lt ‹_› | exact Nat.ne_of_gt ‹_› | exact Nat.le_trans ‹_› (by decide) | exact Nat.lt_of_lt_of_le ‹_› (by decide) | decide | omega
  simp only [cut, getR, hk, cutL, Option.elim_some, Int.toNat_natCast, take_map n b g hb, drop_map, List.length_map, List.length_range, hn, h0, h1, decide_true, Option.all_some, Bool.and_self, if_true]
theorem cut_from {h : Hp} {k n a : Nat} {g : Nat → V} (hk : h[k]? = some (LV n g)) (hn : n ≤ 1000) : cut h (.ref k) (some (a : Int)) none = some (.ref h.length, h ++ [LV (n - a) fun i => g (a + i)]) := by
  have h0 : (0 : Int) ≤ (a : Int) := by first | assumption | exact Nat.le_of_lt ‹_› | exact Nat.lt_succ_of_lt ‹_› | exact Nat.ne_of_lt ‹_› | exact Nat.ne_of_gt ‹_› | exact Nat.le_trans ‹_› (by decide) | exact Nat.lt_of_lt_of_le ‹_› (by decide) | decide | omega
  simp only [cut, getR, hk, cutL, Option.elim_some, Option.elim_none, Int.toNat_natCast, drop_map, List.length_map, List.length_range, hn, h0, decide_true, Option.all_some, Option.all_none, Bool.and_self, if_true]

theorem data_refs {h : Hp} {rs : Nat → Nat} {D : Nat → PyData} {m : Nat} : ∀ (L : List Nat) (n : Nat), (∀ c ∈ L, ∀ n, m ≤ n → dataOf n h (.ref (rs c)) = some (D c)) → L.length + m < n → dataAll n h (L.map fun c => V.ref (rs c)) = some (L.map D)
  | [], n + 1, _, _ => rfl
  | c :: r, n + 1, hd, hn => by
    rw [List.length_cons] at hn
    have e1 := hd c List.mem_cons_self n (by first | assumption | exact Nat.le_of_lt ‹_› | exact Nat.lt_succ_of_lt ‹_› | exact Nat.ne_of_lt ‹_› | exact Nat.ne_of_gt ‹_› | exact Nat.le_trans ‹_› (by decide) | exact Nat.lt_of_lt_of_le ‹_› (by decide) | decide | omega)
    have e2 := data_refs r n (fun c hc => hd c (List.mem_cons_of_mem _ hc)) (by first | assumption | exact Nat.le_of_lt ‹_› | exact Nat.lt_succ_of_lt ‹_› | exact Nat.ne_of_lt ‹_› | exact Nat.ne_of_gt ‹_› | exact Nat.le_trans ‹_› (by decide) | exact Nat.lt_of_lt_of_le ‹_› (by decide) | decide | omega)
    simp only [List.map_cons, dataAll, e1, e2]
theorem data_LN {h : Hp} {k len : Nat} {f : Nat → Nat} (hk : h[k]? = some (LN len f)) (n : Nat) (hn : len + 2 ≤ n) : dataOf n h (.ref k) = some (.list (((List.range len).map f).map fun x : Nat => PyData.int x)) := by
  obtain ⟨m, rfl⟩ : ∃ m, n = m + 1 := ⟨n - 1, by first | assumption | exact Nat.le_of_lt ‹_› | exact Nat.lt_succ_of_lt ‹_› | exact Nat.ne_of_lt ‹_› | exact Nat.ne_of_gt ‹_› | exact Nat.le_trans ‹_› (by decide) | exact Nat.lt_of_lt_of_le ‹_› (by decide) | decide | omega⟩
  rw [LN_map] at hk
  exact data_list hk (by simp; omega)
theorem data_rows {h : Hp} {k size : Nat} {rs : Nat → Nat} {P : Nat → Nat → Nat} (hk : h[k]? = some (LV 15 fun c => .ref (rs c))) (hr : ∀ c, c < 15 → h[rs c]? = some (LN (rl size c) (P c))) (hs : size ≤ 20) (n : Nat) (hn : 40 ≤ n) :
    dataOf n h (.ref k) = some (.list ((List.range 15).map fun c => PyData.list (((List.range (rl size c)).map (P c)).map fun x : Nat => PyData.int x))) := by
  obtain ⟨m, rfl⟩ : ∃ m, n = m + 1 := ⟨n - 1, by first | assumption | exact Nat.le_of_lt ‹_› | exact Nat.lt_succ_of_lt ‹_› | exact Nat.ne_of_lt ‹_› | exact Nat.ne_of_gt ‹_› | exact Nat.le_trans ‹_› (by decide) | exact Nat.lt_of_lt_of_le ‹_› (by decide) | decide | omega⟩
  have := data_refs (h := h) (rs := rs) (D := fun c => PyData.list (((List.range (rl size c)).map (P c)).map fun x : Nat => PyData.int x)) (m := 23) (List.range 15) m (fun c hc n hn => by
    refine data_LN (hr c (List.mem_range.mp hc)) n ?_
    have : rl size c ≤ size := by unfold rl; split <;> omega
    omega) (by simp; omega)
  simp only [dataOf, hk, this, Option.map_some]
theorem four_data {h : Hp} {k x : Nat} {v1 v2 v3 : V} {d1 d2 d3 : PyData} (hk : h[k]? = some (.list [v1, v2, v3, N x])) (e1 : dataOf 58 h v1 = some d1) (e2 : dataOf 57 h v2 = some d2) (e3 : dataOf 56 h v3 = some d3) :
    dataOf 60 h (.ref k) = some (.list [d1, d2, d3, .int x]) := by
  have e4 : dataAll 56 h [v3, N x] = none ∨ True := .inr trivial
  have a5 : dataAll 55 h [] = some [] := rfl
  have a4 : dataAll 56 h [N x] = some [.int x] := rfl
  have a3 : dataAll 57 h [v3, N x] = some [d3, .int x] := by
    rw [show (57 : Nat) = 56 + 1 from rfl, dataAll, e3, a4]
  have a2 : dataAll 58 h [v2, v3, N x] = some [d2, d3, .int x] := by
    rw [show (58 : Nat) = 57 + 1 from rfl, dataAll, e2, a3]
  have a1 : dataAll 59 h [v1, v2, v3, N x] = some [d1, d2, d3, .int x] := by
    rw [show (59 : Nat) = 58 + 1 from rfl, dataAll, e1, a2]
  rw [show (60 : Nat) = 59 + 1 from rfl, dataOf]
  simp only [hk, a1, Option.map_some]

theorem lay_map {α : Type} (f : α → PyData) (hf : ∀ x, (f x).canLay0 = true) : ∀ L : List α, PyData.canLayAll0 (L.map f) = true
  | [] => by simp [PyData.canLayAll0]
  | x :: r => by
    rw [List.map_cons, PyData.canLayAll0, hf x, lay_map f hf r]
    rfl
theorem lay_ints (xs : List Nat) : (PyData.list (xs.map fun x : Nat => PyData.int x)).canLay0 = true := by
  rw [PyData.canLay0]
  exact lay_map _ (fun x => by simp [PyData.canLay0]) xs

theorem pw64 : opI .pow ((2 : Nat) : Int) ((64 : Nat) : Int) = some ((18446744073709551616 : Nat) : Int) := by decide
theorem pw25 : opI .pow ((2 : Nat) : Int) ((25 : Nat) : Int) = some ((33554432 : Nat) : Int) := by decide
theorem pw27 : opI .pow ((2 : Nat) : Int) ((27 : Nat) : Int) = some ((134217728 : Nat) : Int) := by decide

theorem mi_man : ∀ i, i < 15 → ¬ (i % 8 = 0 ∨ i % 8 = 7) → (i < 8 → i - 1 = mi i) ∧ (¬ i < 8 → i - 3 = mi i) ∧ 1 ≤ i ∧ (¬ i < 8 → 3 ≤ i) ∧ mi i < 12 := by decide
theorem mem07 : ∀ i, i < 15 → ([0, 7] : List Int).contains ((i % 8 : Nat) : Int) = decide (i % 8 = 0 ∨ i % 8 = 7) := by decide

theorem f_law_drawn (d : Nat) {h : Hp} {z size files : Nat} {seed : Int} (hz : ZobAt h z size files (T0 (sd seed) size files)) (hs : size ≤ 20) (hf : files ≤ 20) :
    ∃ h', Fd tab (d + 2) 28 [.ref z, .int seed, N size, N files] h = some (.bool true, h') ∧ Kp h h' := by
  have key : ∃ v h', Fd tab (d + 2) 28 [.ref z, .int seed, N size, N files] h = some (v, h') ∧ (v = .bool true ∧ Kp h h') := by
    refine fd_run rfl rfl ?_
    show Run _ b_law_drawn _ _ _
    unfold b_law_drawn
    simp only [List.map_cons, List.map_nil, List.cons_append, List.nil_append, List.replicate_succ, List.replicate_zero, Nat.reduceSub]
    refine Run.cons ?_
    have im := op_imod (a := seed) (b := 18446744073709551616) (by decide)
    simp only [exs, exasn, exasn2, exsetattr, exsetidx, exaug, exaugidx, exaugattr, exite, exloop, exret, exexpr, exfail, evlit, evloc, evbin, evneg, evinv, evnot, evand, evor, evcmp, evcmp2, evmem, evite, evcall, evnew, evmeth, evlen, evlistOf, evsorted, evrng1, evrng2, evrng3, evappend, evcount, evattr, evidx, evslTo, evslFrom, evslBt, evrev, evlist, evtup, evcomp, evcompIf, evs, opV_int, t_bool, truthy_int, cmpV_int, cmpV_bool_eq, cmpV_bool_ne, runFn, getA, lookupA, storeA, Option.map_some, List.getElem?_cons_zero, List.getElem?_cons_succ, List.set_cons_zero, List.set_cons_succ, List.cons_append, List.nil_append, vlit, op_add, op_band, op_bor, op_bxor, op_shr, c_eq, c_ne, c_lt, c_le, c_gt, c_ge, List.length_cons, List.length_nil, List.map_cons, List.map_nil, Nat.zero_add, Nat.add_zero, reduceIte, List.replicate_succ, List.replicate_zero, Nat.reduceAdd, Nat.reduceSub, Nat.reduceEqDiff, Nat.sub_self, decide_true, decide_false, eq_self, Bool.not_true, Bool.not_false, beq_self_eq_true, pw64, im]
    refine ⟨_, _, rfl, Run.cons ?_⟩
    refine ⟨[some (.ref z), some (.int seed), some (N size), some (N files), some (N (sd seed)), none, none, none, none, none, none], h, ?_, Run.cons ?_⟩
    · unfold sd
      by_cases h0 : (seed.fmod ((18446744073709551616 : Nat) : Int)).toNat = 0 <;> simp only [exs, exasn, exasn2, exsetattr, exsetidx, exaug, exaugidx, exaugattr, exite, exloop, exret, exexpr, exfail, evlit, evloc, evbin, evneg, evinv, evnot, evand, evor, evcmp, evcmp2, evmem, evite, evcall, evnew, evmeth, evlen, evlistOf, evsorted, evrng1, evrng2, evrng3, evappend, evcount, evattr, evidx, evslTo, evslFrom, evslBt, evrev, evlist, evtup, evcomp, evcompIf, evs, opV_int, t_bool, truthy_int, cmpV_int, cmpV_bool_eq, cmpV_bool_ne, runFn, getA, lookupA, storeA, Option.map_some, List.getElem?_cons_zero, List.getElem?_cons_succ, List.set_cons_zero, List.set_cons_succ, List.cons_append, List.nil_append, vlit, op_add, op_band, op_bor, op_bxor, op_shr, c_eq, c_ne, c_lt, c_le, c_gt, c_ge, List.length_cons, List.length_nil, List.map_cons, List.map_nil, Nat.zero_add, Nat.add_zero, reduceIte, List.replicate_succ, List.replicate_zero, Nat.reduceAdd, Nat.reduceSub, Nat.reduceEqDiff, Nat.sub_self, decide_true, decide_false, eq_self, Bool.not_true, Bool.not_false, beq_self_eq_true, h0]
    have hls := sd_lt seed
    generalize sd seed = s at hz hls
    -- the stream
    simp only [exs, exasn, exasn2, exsetattr, exsetidx, exaug, exaugidx, exaugattr, exite, exloop, exret, exexpr, exfail, evlit, evloc, evbin, evneg, evinv, evnot, evand, evor, evcmp, evcmp2, evmem, evite, evcall, evnew, evmeth, evlen, evlistOf, evsorted, evrng1, evrng2, evrng3, evappend, evcount, evattr, evidx, evslTo, evslFrom, evslBt, evrev, evlist, evtup, evcomp, evcompIf, evs, opV_int, t_bool, truthy_int, cmpV_int, cmpV_bool_eq, cmpV_bool_ne, runFn, getA, lookupA, storeA, Option.map_some, List.getElem?_cons_zero, List.getElem?_cons_succ, List.set_cons_zero, List.set_cons_succ, List.cons_append, List.nil_append, vlit, op_add, op_band, op_bor, op_bxor, op_shr, c_eq, c_ne, c_lt, c_le, c_gt, c_ge, List.length_cons, List.length_nil, List.map_cons, List.map_nil, Nat.zero_add, Nat.add_zero, reduceIte, List.replicate_succ, List.replicate_zero, Nat.reduceAdd, Nat.reduceSub, Nat.reduceEqDiff, Nat.sub_self, decide_true, decide_false, eq_self, Bool.not_true, Bool.not_false, beq_self_eq_true]
    refine ⟨_, _, rfl, Run.cons ?_⟩
    have mu := op_mul (a := 12) (b := size) (by decide)
    simp only [exs, exasn, exasn2, exsetattr, exsetidx, exaug, exaugidx, exaugattr, exite, exloop, exret, exexpr, exfail, evlit, evloc, evbin, evneg, evinv, evnot, evand, evor, evcmp, evcmp2, evmem, evite, evcall, evnew, evmeth, evlen, evlistOf, evsorted, evrng1, evrng2, evrng3, evappend, evcount, evattr, evidx, evslTo, evslFrom, evslBt, evrev, evlist, evtup, evcomp, evcompIf, evs, opV_int, t_bool, truthy_int, cmpV_int, cmpV_bool_eq, cmpV_bool_ne, runFn, getA, lookupA, storeA, Option.map_some, List.getElem?_cons_zero, List.getElem?_cons_succ, List.set_cons_zero, List.set_cons_succ, List.cons_append, List.nil_append, vlit, op_add, op_band, op_bor, op_bxor, op_shr, c_eq, c_ne, c_lt, c_le, c_gt, c_ge, List.length_cons, List.length_nil, List.map_cons, List.map_nil, Nat.zero_add, Nat.add_zero, reduceIte, List.replicate_succ, List.replicate_zero, Nat.reduceAdd, Nat.reduceSub, Nat.reduceEqDiff, Nat.sub_self, decide_true, decide_false, eq_self, Bool.not_true, Bool.not_false, beq_self_eq_true, mu, mkRng_N (h ++ [.list []]) (n := 12 * size + files + 5) (by first | assumption | exact Nat.le_of_lt ‹_› | exact Nat.lt_succ_of_lt ‹_› | exact Nat.ne_of_lt ‹_› | exact Nat.ne_of_gt ‹_› | exact Nat.le_trans ‹_› (by decide) | exact Nat.lt_of_lt_of_le ‹_› (by decide) | decide | omega)]
    generalize hL : loopAll _ _ _ _ _ = L
    have a0 : ∀ {k : Nat} {o : O}, h[k]? = some o → k ≠ h.length := fun e => new_apart e (Nat.le_refl _)
    have k0 := get_app (get_new h (.list [])) [.rng 0 1 (12 * size + files + 5)]
    have K0 : Kp h (h ++ [.list []] ++ [.rng 0 1 (12 * size + files + 5)]) := (Kp.app _ _).trans (Kp.app _ _)
    generalize hkk : h.length = ks at hL a0 k0
    obtain ⟨l', h1, rfl, x, rfl, K1, k1⟩ := loop_rng1 (n := 12 * size + files + 5) hL
      (fun i l h' => ∃ x, l = [some (.ref z), some (.int seed), some (N size), some (N files), some (N (st s i)), some (.ref ks), x, none, none, none, none] ∧ Kp h h' ∧ h'[ks]? = some (LN i fun k => outp (st s (k + 1))))
      ⟨none, rfl, K0, k0⟩ (by first | assumption | exact Nat.le_of_lt ‹_› | exact Nat.lt_succ_of_lt ‹_› | exact Nat.ne_of_lt ‹_› | exact Nat.ne_of_gt ‹_› | exact Nat.le_trans ‹_› (by decide) | exact Nat.lt_of_lt_of_le ‹_› (by decide) | decide | omega) (get_new _ _) (fun i l h' hi hh => by
        obtain ⟨x, rfl, K, kk⟩ := hh
        have hb := st_lt hls i
        have n1 := nx1 hb
        have n2 := nx2 hb
        have n3 := nx_lt hb
        have d1 := op_div (a := st s i) (b := 4096) (by decide) (by decide)
        have u1 := op_mul (a := st s i ^^^ st s i / 4096) (b := 33554432) n1
        have v1 := op_mod (a := (st s i ^^^ st s i / 4096) * 33554432) (b := 18446744073709551616) (by decide)
        have d2 := op_div (a := (st s i ^^^ st s i / 4096) ^^^ (st s i ^^^ st s i / 4096) * 33554432 % 18446744073709551616) (b := 134217728) (by decide) (by decide)
        have en : ((st s i ^^^ st s i / 4096) ^^^ (st s i ^^^ st s i / 4096) * 33554432 % 18446744073709551616) ^^^ ((st s i ^^^ st s i / 4096) ^^^ (st s i ^^^ st s i / 4096) * 33554432 % 18446744073709551616) / 134217728 = st s (i + 1) := rfl
        have u2 := op_mul (a := st s (i + 1)) (b := 2685821657736338717) n3
        have v2 := op_mod (a := st s (i + 1) * 2685821657736338717) (b := 18446744073709551616) (by decide)
        have eo : st s (i + 1) * 2685821657736338717 % 18446744073709551616 = outp (st s (i + 1)) := rfl
        have ap := append_LN kk (v := outp (st s (i + 1))) (by first | assumption | exact Nat.le_of_lt ‹_› | exact Nat.lt_succ_of_lt ‹_› | exact Nat.ne_of_lt ‹_› | exact Nat.ne_of_gt ‹_› | exact Nat.le_trans ‹_› (by decide) | exact Nat.lt_of_lt_of_le ‹_› (by decide) | decide | omega) rfl
        simp only [exs, exasn, exasn2, exsetattr, exsetidx, exaug, exaugidx, exaugattr, exite, exloop, exret, exexpr, exfail, evlit, evloc, evbin, evneg, evinv, evnot, evand, evor, evcmp, evcmp2, evmem, evite, evcall, evnew, evmeth, evlen, evlistOf, evsorted, evrng1, evrng2, evrng3, evappend, evcount, evattr, evidx, evslTo, evslFrom, evslBt, evrev, evlist, evtup, evcomp, evcompIf, evs, opV_int, t_bool, truthy_int, cmpV_int, cmpV_bool_eq, cmpV_bool_ne, runFn, getA, lookupA, storeA, Option.map_some, List.getElem?_cons_zero, List.getElem?_cons_succ, List.set_cons_zero, List.set_cons_succ, List.cons_append, List.nil_append, vlit, op_add, op_band, op_bor, op_bxor, op_shr, c_eq, c_ne, c_lt, c_le, c_gt, c_ge, List.length_cons, List.length_nil, List.map_cons, List.map_nil, Nat.zero_add, Nat.add_zero, reduceIte, List.replicate_succ, List.replicate_zero, Nat.reduceAdd, Nat.reduceSub, Nat.reduceEqDiff, Nat.sub_self, decide_true, decide_false, eq_self, Bool.not_true, Bool.not_false, beq_self_eq_true, pw64, pw25, pw27, d1, u1, v1, d2, en, u2, v2, eo, getL_LV kk, ap]
        exact ⟨_, _, rfl, _, rfl, fun k o e => get_set_ne (K _ _ e) (a0 e), get_set kk⟩)
    clear hL
    refine ⟨_, _, rfl, Run.cons ?_⟩
    -- the rows
    simp only [exs, exasn, exasn2, exsetattr, exsetidx, exaug, exaugidx, exaugattr, exite, exloop, exret, exexpr, exfail, evlit, evloc, evbin, evneg, evinv, evnot, evand, evor, evcmp, evcmp2, evmem, evite, evcall, evnew, evmeth, evlen, evlistOf, evsorted, evrng1, evrng2, evrng3, evappend, evcount, evattr, evidx, evslTo, evslFrom, evslBt, evrev, evlist, evtup, evcomp, evcompIf, evs, opV_int, t_bool, truthy_int, cmpV_int, cmpV_bool_eq, cmpV_bool_ne, runFn, getA, lookupA, storeA, Option.map_some, List.getElem?_cons_zero, List.getElem?_cons_succ, List.set_cons_zero, List.set_cons_succ, List.cons_append, List.nil_append, vlit, op_add, op_band, op_bor, op_bxor, op_shr, c_eq, c_ne, c_lt, c_le, c_gt, c_ge, List.length_cons, List.length_nil, List.map_cons, List.map_nil, Nat.zero_add, Nat.add_zero, reduceIte, List.replicate_succ, List.replicate_zero, Nat.reduceAdd, Nat.reduceSub, Nat.reduceEqDiff, Nat.sub_self, decide_true, decide_false, eq_self, Bool.not_true, Bool.not_false, beq_self_eq_true]
    refine ⟨_, _, rfl, Run.cons ?_⟩
    simp only [exs, exasn, exasn2, exsetattr, exsetidx, exaug, exaugidx, exaugattr, exite, exloop, exret, exexpr, exfail, evlit, evloc, evbin, evneg, evinv, evnot, evand, evor, evcmp, evcmp2, evmem, evite, evcall, evnew, evmeth, evlen, evlistOf, evsorted, evrng1, evrng2, evrng3, evappend, evcount, evattr, evidx, evslTo, evslFrom, evslBt, evrev, evlist, evtup, evcomp, evcompIf, evs, opV_int, t_bool, truthy_int, cmpV_int, cmpV_bool_eq, cmpV_bool_ne, runFn, getA, lookupA, storeA, Option.map_some, List.getElem?_cons_zero, List.getElem?_cons_succ, List.set_cons_zero, List.set_cons_succ, List.cons_append, List.nil_append, vlit, op_add, op_band, op_bor, op_bxor, op_shr, c_eq, c_ne, c_lt, c_le, c_gt, c_ge, List.length_cons, List.length_nil, List.map_cons, List.map_nil, Nat.zero_add, Nat.add_zero, reduceIte, List.replicate_succ, List.replicate_zero, Nat.reduceAdd, Nat.reduceSub, Nat.reduceEqDiff, Nat.sub_self, decide_true, decide_false, eq_self, Bool.not_true, Bool.not_false, beq_self_eq_true, mkRng_N (h1 ++ [.list []]) (n := 15) (by first | assumption | exact Nat.le_of_lt ‹_› | exact Nat.lt_succ_of_lt ‹_› | exact Nat.ne_of_lt ‹_› | exact Nat.ne_of_gt ‹_› | exact Nat.le_trans ‹_› (by decide) | exact Nat.lt_of_lt_of_le ‹_› (by decide) | decide | omega)]
    generalize hL : loopAll _ _ _ _ _ = L
    have lks := lt_of k1
    have a1 : ∀ {k : Nat} {o : O}, h1[k]? = some o → k ≠ h1.length := fun e => new_apart e (Nat.le_refl _)
    have q0 := get_app (get_new h1 (.list [])) [.rng 0 1 15]
    have Q0 : Kp h1 (h1 ++ [.list []] ++ [.rng 0 1 15]) := (Kp.app _ _).trans (Kp.app _ _)
    have hlq : h1.length < (h1 ++ [O.list []] ++ [O.rng 0 1 15]).length := by simp
    generalize hkq : h1.length = kr at hL a1 q0 hlq
    obtain ⟨l', h2, rfl, x, y, rs, rfl, K2, k2, q2, _⟩ := loop_rng1 (n := 15) hL
      (fun i l h' => ∃ x y rs, l = [some (.ref z), some (.int seed), some (N size), some (N files), some (N (st s (12 * size + files + 5))), some (.ref ks), x, some (.ref kr), y, none, none] ∧ Kp h1 h' ∧ h'[kr]? = some (LV i fun c => .ref (rs c)) ∧
        (∀ c, c < i → h'[rs c]? = some (LN (rl size c) ((T0 s size files).P c)) ∧ kr < rs c) ∧ kr < h'.length)
      ⟨_, none, fun _ => 0, rfl, Q0, q0, fun c hc => by first | assumption | exact Nat.le_of_lt ‹_› | exact Nat.lt_succ_of_lt ‹_› | exact Nat.ne_of_lt ‹_› | exact Nat.ne_of_gt ‹_› | exact Nat.le_trans ‹_› (by decide) | exact Nat.lt_of_lt_of_le ‹_› (by decide) | decide | omega, hlq⟩ (by decide) (get_new _ _) (fun i l h' hi hh => by
        obtain ⟨x, y, rs, rfl, K, kk, q, hlen⟩ := hh
        have m8 := op_mod (a := i) (b := 8) (by decide)
        have m07 := mem07 i hi
        have fin : ∀ (x : Option V) (o : O), o = LN (rl size i) ((T0 s size files).P i) → ∃ l' h'', some (Fl.next, [some (V.ref z), some (.int seed), some (N size), some (N files), some (N (st s (12 * size + files + 5))), some (.ref ks), x, some (.ref kr), some (N i), none, none], (h' ++ [o]).set kr (LV (i + 1) fun c => .ref (if c = i then h'.length else rs c))) = some (.next, l', h'') ∧
            ∃ (x y : Option V) (rs : Nat → Nat), l' = [some (.ref z), some (.int seed), some (N size), some (N files), some (N (st s (12 * size + files + 5))), some (.ref ks), x, some (.ref kr), y, none, none] ∧ Kp h1 h'' ∧ h''[kr]? = some (LV (i + 1) fun c => .ref (rs c)) ∧
              (∀ c, c < i + 1 → h''[rs c]? = some (LN (rl size c) ((T0 s size files).P c)) ∧ kr < rs c) ∧ kr < h''.length := by
          intro x o ho
          refine ⟨_, _, rfl, _, _, fun c => if c = i then h'.length else rs c, rfl, fun k o e => get_set_ne (get_app (K _ _ e) _) (a1 e), get_set (get_app kk _), fun c hc => ?_, by simp; omega⟩
          by_cases hci : c = i
          · subst hci
            simp only [if_true]
            refine ⟨get_set_ne ?_ (by first | assumption | exact Nat.le_of_lt ‹_› | exact Nat.lt_succ_of_lt ‹_› | exact Nat.ne_of_lt ‹_› | exact Nat.ne_of_gt ‹_› | exact Nat.le_trans ‹_› (by decide) | exact Nat.lt_of_lt_of_le ‹_› (by decide) | decide | omega), hlen⟩
            rw [get_new, ho]
          · simp only [hci, if_false]
            obtain ⟨u1, u2⟩ := q c (by first | assumption | exact Nat.le_of_lt ‹_› | exact Nat.lt_succ_of_lt ‹_› | exact Nat.ne_of_lt ‹_› | exact Nat.ne_of_gt ‹_› | exact Nat.le_trans ‹_› (by decide) | exact Nat.lt_of_lt_of_le ‹_› (by decide) | decide | omega)
            exact ⟨get_set_ne (get_app u1 _) (by first | assumption | exact Nat.le_of_lt ‹_› | exact Nat.lt_succ_of_lt ‹_› | exact Nat.ne_of_lt ‹_› | exact Nat.ne_of_gt ‹_› | exact Nat.le_trans ‹_› (by decide) | exact Nat.lt_of_lt_of_le ‹_› (by decide) | decide | omega), u2⟩
        have ap := fun o => append_LV (g' := fun c => .ref (if c = i then h'.length else rs c)) (v := .ref h'.length) (get_app kk [o]) (by first | assumption | exact Nat.le_of_lt ‹_› | exact Nat.lt_succ_of_lt ‹_› | exact Nat.ne_of_lt ‹_› | exact Nat.ne_of_gt ‹_› | exact Nat.le_trans ‹_› (by decide) | exact Nat.lt_of_lt_of_le ‹_› (by decide) | decide | omega) (fun c hc => by simp [show c ≠ i by first | assumption | exact Nat.le_of_lt ‹_› | exact Nat.lt_succ_of_lt ‹_› | exact Nat.ne_of_lt ‹_› | exact Nat.ne_of_gt ‹_› | exact Nat.le_trans ‹_› (by decide) | exact Nat.lt_of_lt_of_le ‹_› (by decide) | decide | omega]) (by simp)
        have su1 : opI .sub ((i : Nat) : Int) ((1 : Nat) : Int) = some (((i : Nat) : Int) - ((1 : Nat) : Int)) := rfl
        have su3 : opI .sub ((i : Nat) : Int) ((3 : Nat) : Int) = some (((i : Nat) : Int) - ((3 : Nat) : Int)) := rfl
        by_cases hm : i % 8 = 0 ∨ i % 8 = 7
        · rw [decide_eq_true hm] at m07
          have f := fun x => fin x (.list []) (by rw [show rl size i = 0 from if_pos hm]; rfl)
          by_cases h8 : i < 8
          · simp only [exs, exasn, exasn2, exsetattr, exsetidx, exaug, exaugidx, exaugattr, exite, exloop, exret, exexpr, exfail, evlit, evloc, evbin, evneg, evinv, evnot, evand, evor, evcmp, evcmp2, evmem, evite, evcall, evnew, evmeth, evlen, evlistOf, evsorted, evrng1, evrng2, evrng3, evappend, evcount, evattr, evidx, evslTo, evslFrom, evslBt, evrev, evlist, evtup, evcomp, evcompIf, evs, opV_int, t_bool, truthy_int, cmpV_int, cmpV_bool_eq, cmpV_bool_ne, runFn, getA, lookupA, storeA, Option.map_some, List.getElem?_cons_zero, List.getElem?_cons_succ, List.set_cons_zero, List.set_cons_succ, List.cons_append, List.nil_append, vlit, op_add, op_band, op_bor, op_bxor, op_shr, c_eq, c_ne, c_lt, c_le, c_gt, c_ge, List.length_cons, List.length_nil, List.map_cons, List.map_nil, Nat.zero_add, Nat.add_zero, reduceIte, List.replicate_succ, List.replicate_zero, Nat.reduceAdd, Nat.reduceSub, Nat.reduceEqDiff, Nat.sub_self, decide_true, decide_false, eq_self, Bool.not_true, Bool.not_false, beq_self_eq_true, h8, su1, m8, m07, Bool.false_eq_true, if_false, getL_LV kk, ap]
            exact f _
          · simp only [exs, exasn, exasn2, exsetattr, exsetidx, exaug, exaugidx, exaugattr, exite, exloop, exret, exexpr, exfail, evlit, evloc, evbin, evneg, evinv, evnot, evand, evor, evcmp, evcmp2, evmem, evite, evcall, evnew, evmeth, evlen, evlistOf, evsorted, evrng1, evrng2, evrng3, evappend, evcount, evattr, evidx, evslTo, evslFrom, evslBt, evrev, evlist, evtup, evcomp, evcompIf, evs, opV_int, t_bool, truthy_int, cmpV_int, cmpV_bool_eq, cmpV_bool_ne, runFn, getA, lookupA, storeA, Option.map_some, List.getElem?_cons_zero, List.getElem?_cons_succ, List.set_cons_zero, List.set_cons_succ, List.cons_append, List.nil_append, vlit, op_add, op_band, op_bor, op_bxor, op_shr, c_eq, c_ne, c_lt, c_le, c_gt, c_ge, List.length_cons, List.length_nil, List.map_cons, List.map_nil, Nat.zero_add, Nat.add_zero, reduceIte, List.replicate_succ, List.replicate_zero, Nat.reduceAdd, Nat.reduceSub, Nat.reduceEqDiff, Nat.sub_self, decide_true, decide_false, eq_self, Bool.not_true, Bool.not_false, beq_self_eq_true, h8, su3, m8, m07, Bool.false_eq_true, if_false, getL_LV kk, ap]
            exact f _
        · rw [decide_eq_false hm] at m07
          obtain ⟨w1, w2, w3, w4, w5⟩ := mi_man i hi hm
          have mm := op_mul (a := mi i) (b := size) (by first | assumption | exact Nat.le_of_lt ‹_› | exact Nat.lt_succ_of_lt ‹_› | exact Nat.ne_of_lt ‹_› | exact Nat.ne_of_gt ‹_› | exact Nat.le_trans ‹_› (by decide) | exact Nat.lt_of_lt_of_le ‹_› (by decide) | decide | omega)
          have mm2 := op_mul (a := mi i + 1) (b := size) (by first | assumption | exact Nat.le_of_lt ‹_› | exact Nat.lt_succ_of_lt ‹_› | exact Nat.ne_of_lt ‹_› | exact Nat.ne_of_gt ‹_› | exact Nat.le_trans ‹_› (by decide) | exact Nat.lt_of_lt_of_le ‹_› (by decide) | decide | omega)
          have hle : (mi i + 1) * size ≤ 12 * size + files + 5 := by
            have := Nat.mul_le_mul_right size (show mi i + 1 ≤ 12 by first | assumption | exact Nat.le_of_lt ‹_› | exact Nat.lt_succ_of_lt ‹_› | exact Nat.ne_of_lt ‹_› | exact Nat.ne_of_gt ‹_› | exact Nat.le_trans ‹_› (by decide) | exact Nat.lt_of_lt_of_le ‹_› (by decide) | decide | omega)
            omega
          have cb := cut_bt (K _ _ k1) (a := mi i * size) (b := (mi i + 1) * size) hle (by first | assumption | exact Nat.le_of_lt ‹_› | exact Nat.lt_succ_of_lt ‹_› | exact Nat.ne_of_lt ‹_› | exact Nat.ne_of_gt ‹_› | exact Nat.le_trans ‹_› (by decide) | exact Nat.lt_of_lt_of_le ‹_› (by decide) | decide | omega)
          have e1 : (mi i + 1) * size - mi i * size = size := by rw [Nat.add_mul, Nat.one_mul]; omega
          rw [e1] at cb
          have f := fun x => fin x (LV size fun j => N (outp (st s (mi i * size + j + 1)))) (by
            rw [show rl size i = size from if_neg hm, Nat.mul_comm]; rfl)
          by_cases h8 : i < 8
          · have s1 := op_sub (a := i) (b := 1) w3
            rw [w1 h8] at s1
            simp only [exs, exasn, exasn2, exsetattr, exsetidx, exaug, exaugidx, exaugattr, exite, exloop, exret, exexpr, exfail, evlit, evloc, evbin, evneg, evinv, evnot, evand, evor, evcmp, evcmp2, evmem, evite, evcall, evnew, evmeth, evlen, evlistOf, evsorted, evrng1, evrng2, evrng3, evappend, evcount, evattr, evidx, evslTo, evslFrom, evslBt, evrev, evlist, evtup, evcomp, evcompIf, evs, opV_int, t_bool, truthy_int, cmpV_int, cmpV_bool_eq, cmpV_bool_ne, runFn, getA, lookupA, storeA, Option.map_some, List.getElem?_cons_zero, List.getElem?_cons_succ, List.set_cons_zero, List.set_cons_succ, List.cons_append, List.nil_append, vlit, op_add, op_band, op_bor, op_bxor, op_shr, c_eq, c_ne, c_lt, c_le, c_gt, c_ge, List.length_cons, List.length_nil, List.map_cons, List.map_nil, Nat.zero_add, Nat.add_zero, reduceIte, List.replicate_succ, List.replicate_zero, Nat.reduceAdd, Nat.reduceSub, Nat.reduceEqDiff, Nat.sub_self, decide_true, decide_false, eq_self, Bool.not_true, Bool.not_false, beq_self_eq_true, h8, s1, m8, m07, Bool.false_eq_true, if_false, mm, mm2, cb, getL_LV kk, ap]
            exact f _
          · have s3 := op_sub (a := i) (b := 3) (w4 h8)
            rw [w2 h8] at s3
            simp only [exs, exasn, exasn2, exsetattr, exsetidx, exaug, exaugidx, exaugattr, exite, exloop, exret, exexpr, exfail, evlit, evloc, evbin, evneg, evinv, evnot, evand, evor, evcmp, evcmp2, evmem, evite, evcall, evnew, evmeth, evlen, evlistOf, evsorted, evrng1, evrng2, evrng3, evappend, evcount, evattr, evidx, evslTo, evslFrom, evslBt, evrev, evlist, evtup, evcomp, evcompIf, evs, opV_int, t_bool, truthy_int, cmpV_int, cmpV_bool_eq, cmpV_bool_ne, runFn, getA, lookupA, storeA, Option.map_some, List.getElem?_cons_zero, List.getElem?_cons_succ, List.set_cons_zero, List.set_cons_succ, List.cons_append, List.nil_append, vlit, op_add, op_band, op_bor, op_bxor, op_shr, c_eq, c_ne, c_lt, c_le, c_gt, c_ge, List.length_cons, List.length_nil, List.map_cons, List.map_nil, Nat.zero_add, Nat.add_zero, reduceIte, List.replicate_succ, List.replicate_zero, Nat.reduceAdd, Nat.reduceSub, Nat.reduceEqDiff, Nat.sub_self, decide_true, decide_false, eq_self, Bool.not_true, Bool.not_false, beq_self_eq_true, h8, s3, m8, m07, Bool.false_eq_true, if_false, mm, mm2, cb, getL_LV kk, ap]
            exact f _)
    clear hL
    refine ⟨_, _, rfl, Run.cons ?_⟩
    have K02 := K1.trans K2
    have ks2 := K2 _ _ k1
    clear q0 Q0 hlq k0 K0 a0 a1
    -- the rest
    have cf := cut_from ks2 (a := 12 * size) (by first | assumption | exact Nat.le_of_lt ‹_› | exact Nat.lt_succ_of_lt ‹_› | exact Nat.ne_of_lt ‹_› | exact Nat.ne_of_gt ‹_› | exact Nat.le_trans ‹_› (by decide) | exact Nat.lt_of_lt_of_le ‹_› (by decide) | decide | omega)
    rw [show 12 * size + files + 5 - 12 * size = files + 5 by first | assumption | exact Nat.le_of_lt ‹_› | exact Nat.lt_succ_of_lt ‹_› | exact Nat.ne_of_lt ‹_› | exact Nat.ne_of_gt ‹_› | exact Nat.le_trans ‹_› (by decide) | exact Nat.lt_of_lt_of_le ‹_› (by decide) | decide | omega] at cf
    simp only [exs, exasn, exasn2, exsetattr, exsetidx, exaug, exaugidx, exaugattr, exite, exloop, exret, exexpr, exfail, evlit, evloc, evbin, evneg, evinv, evnot, evand, evor, evcmp, evcmp2, evmem, evite, evcall, evnew, evmeth, evlen, evlistOf, evsorted, evrng1, evrng2, evrng3, evappend, evcount, evattr, evidx, evslTo, evslFrom, evslBt, evrev, evlist, evtup, evcomp, evcompIf, evs, opV_int, t_bool, truthy_int, cmpV_int, cmpV_bool_eq, cmpV_bool_ne, runFn, getA, lookupA, storeA, Option.map_some, List.getElem?_cons_zero, List.getElem?_cons_succ, List.set_cons_zero, List.set_cons_succ, List.cons_append, List.nil_append, vlit, op_add, op_band, op_bor, op_bxor, op_shr, c_eq, c_ne, c_lt, c_le, c_gt, c_ge, List.length_cons, List.length_nil, List.map_cons, List.map_nil, Nat.zero_add, Nat.add_zero, reduceIte, List.replicate_succ, List.replicate_zero, Nat.reduceAdd, Nat.reduceSub, Nat.reduceEqDiff, Nat.sub_self, decide_true, decide_false, eq_self, Bool.not_true, Bool.not_false, beq_self_eq_true, mu, cf]
    refine ⟨_, _, rfl, Run.cons ?_⟩
    have K23 := Kp.app h2 [LV (files + 5) fun j => N (outp (st s (12 * size + j + 1)))]
    have r3 := get_new h2 (LN (files + 5) fun j => outp (st s (12 * size + j + 1)))
    generalize h2 ++ [LV (files + 5) fun j => N (outp (st s (12 * size + j + 1)))] = h3 at K23 r3
    generalize h2.length = kt at r3
    -- the rights
    simp only [exs, exasn, exasn2, exsetattr, exsetidx, exaug, exaugidx, exaugattr, exite, exloop, exret, exexpr, exfail, evlit, evloc, evbin, evneg, evinv, evnot, evand, evor, evcmp, evcmp2, evmem, evite, evcall, evnew, evmeth, evlen, evlistOf, evsorted, evrng1, evrng2, evrng3, evappend, evcount, evattr, evidx, evslTo, evslFrom, evslBt, evrev, evlist, evtup, evcomp, evcompIf, evs, opV_int, t_bool, truthy_int, cmpV_int, cmpV_bool_eq, cmpV_bool_ne, runFn, getA, lookupA, storeA, Option.map_some, List.getElem?_cons_zero, List.getElem?_cons_succ, List.set_cons_zero, List.set_cons_succ, List.cons_append, List.nil_append, vlit, op_add, op_band, op_bor, op_bxor, op_shr, c_eq, c_ne, c_lt, c_le, c_gt, c_ge, List.length_cons, List.length_nil, List.map_cons, List.map_nil, Nat.zero_add, Nat.add_zero, reduceIte, List.replicate_succ, List.replicate_zero, Nat.reduceAdd, Nat.reduceSub, Nat.reduceEqDiff, Nat.sub_self, decide_true, decide_false, eq_self, Bool.not_true, Bool.not_false, beq_self_eq_true, mkRng_N h3 (n := 16) (by first | assumption | exact Nat.le_of_lt ‹_› | exact Nat.lt_succ_of_lt ‹_› | exact Nat.ne_of_lt ‹_› | exact Nat.ne_of_gt ‹_› | exact Nat.le_trans ‹_› (by decide) | exact Nat.lt_of_lt_of_le ‹_› (by decide) | decide | omega)]
    generalize hC : compAll _ _ _ = C
    obtain ⟨h4, rfl, K34⟩ := comp_rng (n := 16) hC (fun r => some (N (rx (fun i => outp (st s (12 * size + (files + i) + 1))) r))) (fun i h' => Kp h3 h') (Kp.app _ _) (by decide) (get_new _ _) (fun r h' hr K => by
      simp only [exs, exasn, exasn2, exsetattr, exsetidx, exaug, exaugidx, exaugattr, exite, exloop, exret, exexpr, exfail, evlit, evloc, evbin, evneg, evinv, evnot, evand, evor, evcmp, evcmp2, evmem, evite, evcall, evnew, evmeth, evlen, evlistOf, evsorted, evrng1, evrng2, evrng3, evappend, evcount, evattr, evidx, evslTo, evslFrom, evslBt, evrev, evlist, evtup, evcomp, evcompIf, evs, opV_int, t_bool, truthy_int, cmpV_int, cmpV_bool_eq, cmpV_bool_ne, runFn, getA, lookupA, storeA, Option.map_some, List.getElem?_cons_zero, List.getElem?_cons_succ, List.set_cons_zero, List.set_cons_succ, List.cons_append, List.nil_append, vlit, op_add, op_band, op_bor, op_bxor, op_shr, c_eq, c_ne, c_lt, c_le, c_gt, c_ge, List.length_cons, List.length_nil, List.map_cons, List.map_nil, Nat.zero_add, Nat.add_zero, reduceIte, List.replicate_succ, List.replicate_zero, Nat.reduceAdd, Nat.reduceSub, Nat.reduceEqDiff, Nat.sub_self, decide_true, decide_false, eq_self, Bool.not_true, Bool.not_false, beq_self_eq_true, mkRng_N h' (n := 4) (by first | assumption | exact Nat.le_of_lt ‹_› | exact Nat.lt_succ_of_lt ‹_› | exact Nat.ne_of_lt ‹_› | exact Nat.ne_of_gt ‹_› | exact Nat.le_trans ‹_› (by decide) | exact Nat.lt_of_lt_of_le ‹_› (by decide) | decide | omega)]
      generalize hC : compAll _ _ _ = C
      obtain ⟨k6, h6, rfl, l6, K6, -⟩ := comp_one hC (fun i => if r.testBit i = true then some (N (outp (st s (12 * size + (files + i) + 1)))) else none) (by decide) (fun hx Kx i hi => by
        have i1 := getIdx_LV (Kx _ _ (K _ _ r3)) (i := files + i) (by first | assumption | exact Nat.le_of_lt ‹_› | exact Nat.lt_succ_of_lt ‹_› | exact Nat.ne_of_lt ‹_› | exact Nat.ne_of_gt ‹_› | exact Nat.le_trans ‹_› (by decide) | exact Nat.lt_of_lt_of_le ‹_› (by decide) | decide | omega) (by first | assumption | exact Nat.le_of_lt ‹_› | exact Nat.lt_succ_of_lt ‹_› | exact Nat.ne_of_lt ‹_› | exact Nat.ne_of_gt ‹_› | exact Nat.le_trans ‹_› (by decide) | exact Nat.lt_of_lt_of_le ‹_› (by decide) | decide | omega)
        have bb := bit_b r hr i hi
        cases hb : r.testBit i with
        | true =>
          rw [hb] at bb
          simp only [exs, exasn, exasn2, exsetattr, exsetidx, exaug, exaugidx, exaugattr, exite, exloop, exret, exexpr, exfail, evlit, evloc, evbin, evneg, evinv, evnot, evand, evor, evcmp, evcmp2, evmem, evite, evcall, evnew, evmeth, evlen, evlistOf, evsorted, evrng1, evrng2, evrng3, evappend, evcount, evattr, evidx, evslTo, evslFrom, evslBt, evrev, evlist, evtup, evcomp, evcompIf, evs, opV_int, t_bool, truthy_int, cmpV_int, cmpV_bool_eq, cmpV_bool_ne, runFn, getA, lookupA, storeA, Option.map_some, List.getElem?_cons_zero, List.getElem?_cons_succ, List.set_cons_zero, List.set_cons_succ, List.cons_append, List.nil_append, vlit, op_add, op_band, op_bor, op_bxor, op_shr, c_eq, c_ne, c_lt, c_le, c_gt, c_ge, List.length_cons, List.length_nil, List.map_cons, List.map_nil, Nat.zero_add, Nat.add_zero, reduceIte, List.replicate_succ, List.replicate_zero, Nat.reduceAdd, Nat.reduceSub, Nat.reduceEqDiff, Nat.sub_self, decide_true, decide_false, eq_self, Bool.not_true, Bool.not_false, beq_self_eq_true, bb, i1]
        | false =>
          rw [hb] at bb
          simp only [exs, exasn, exasn2, exsetattr, exsetidx, exaug, exaugidx, exaugattr, exite, exloop, exret, exexpr, exfail, evlit, evloc, evbin, evneg, evinv, evnot, evand, evor, evcmp, evcmp2, evmem, evite, evcall, evnew, evmeth, evlen, evlistOf, evsorted, evrng1, evrng2, evrng3, evappend, evcount, evattr, evidx, evslTo, evslFrom, evslBt, evrev, evlist, evtup, evcomp, evcompIf, evs, opV_int, t_bool, truthy_int, cmpV_int, cmpV_bool_eq, cmpV_bool_ne, runFn, getA, lookupA, storeA, Option.map_some, List.getElem?_cons_zero, List.getElem?_cons_succ, List.set_cons_zero, List.set_cons_succ, List.cons_append, List.nil_append, vlit, op_add, op_band, op_bor, op_bxor, op_shr, c_eq, c_ne, c_lt, c_le, c_gt, c_ge, List.length_cons, List.length_nil, List.map_cons, List.map_nil, Nat.zero_add, Nat.add_zero, reduceIte, List.replicate_succ, List.replicate_zero, Nat.reduceAdd, Nat.reduceSub, Nat.reduceEqDiff, Nat.sub_self, decide_true, decide_false, eq_self, Bool.not_true, Bool.not_false, beq_self_eq_true, bb, Bool.false_eq_true, if_false])
      clear hC
      rw [filter_N] at l6
      have x6 := f_law_xor d l6 (by have := filter_len (fun i => r.testBit i = true) (fun i => outp (st s (12 * size + (files + i) + 1))) 4; omega)
      rw [xl_filterP] at x6
      simp only [exs, exasn, exasn2, exsetattr, exsetidx, exaug, exaugidx, exaugattr, exite, exloop, exret, exexpr, exfail, evlit, evloc, evbin, evneg, evinv, evnot, evand, evor, evcmp, evcmp2, evmem, evite, evcall, evnew, evmeth, evlen, evlistOf, evsorted, evrng1, evrng2, evrng3, evappend, evcount, evattr, evidx, evslTo, evslFrom, evslBt, evrev, evlist, evtup, evcomp, evcompIf, evs, opV_int, t_bool, truthy_int, cmpV_int, cmpV_bool_eq, cmpV_bool_ne, runFn, getA, lookupA, storeA, Option.map_some, List.getElem?_cons_zero, List.getElem?_cons_succ, List.set_cons_zero, List.set_cons_succ, List.cons_append, List.nil_append, vlit, op_add, op_band, op_bor, op_bxor, op_shr, c_eq, c_ne, c_lt, c_le, c_gt, c_ge, List.length_cons, List.length_nil, List.map_cons, List.map_nil, Nat.zero_add, Nat.add_zero, reduceIte, List.replicate_succ, List.replicate_zero, Nat.reduceAdd, Nat.reduceSub, Nat.reduceEqDiff, Nat.sub_self, decide_true, decide_false, eq_self, Bool.not_true, Bool.not_false, beq_self_eq_true, x6]
      exact ⟨_, rfl, K.trans K6⟩)
    clear hC
    rw [all_some]
    refine ⟨_, _, rfl, Run.ret ?_⟩
    have g5 := get_new h4 (LN 16 (rx fun i => outp (st s (12 * size + (files + i) + 1))))
    have K5 : Kp h3 (h4 ++ [LN 16 (rx fun i => outp (st s (12 * size + (files + i) + 1)))]) := K34.trans (Kp.app _ _)
    have el : (h4 ++ [O.list ((List.range 16).map fun r => N (rx (fun i => outp (st s (12 * size + (files + i) + 1))) r))]) = h4 ++ [LN 16 (rx fun i => outp (st s (12 * size + (files + i) + 1)))] := rfl
    rw [el]
    generalize h4 ++ [LN 16 (rx fun i => outp (st s (12 * size + (files + i) + 1)))] = h5 at g5 K5
    generalize h4.length = k10 at g5
    -- the end
    have K05 := (K02.trans K23).trans K5
    obtain ⟨a, e, r, rz, z1, z2, z3, z4, z5⟩ := hz.mono K05
    have r5 := K5 _ _ r3
    have rows5 := K5 _ _ (K23 _ _ k2)
    have q5 := fun c hc => K5 _ _ (K23 _ _ (q2 c hc).1)
    have ct := cut_to (get_app r5 [.list [.ref a, .ref e, .ref r, N (T0 s size files).S]]) (j := files) (by first | assumption | exact Nat.le_of_lt ‹_› | exact Nat.lt_succ_of_lt ‹_› | exact Nat.ne_of_lt ‹_› | exact Nat.ne_of_gt ‹_› | exact Nat.le_trans ‹_› (by decide) | exact Nat.lt_of_lt_of_le ‹_› (by decide) | decide | omega) (by first | assumption | exact Nat.le_of_lt ‹_› | exact Nat.lt_succ_of_lt ‹_› | exact Nat.ne_of_lt ‹_› | exact Nat.ne_of_gt ‹_› | exact Nat.le_trans ‹_› (by decide) | exact Nat.lt_of_lt_of_le ‹_› (by decide) | decide | omega)
    have K6 : Kp h5 (h5 ++ [.list [.ref a, .ref e, .ref r, N (T0 s size files).S]] ++ [LV files fun j => N (outp (st s (12 * size + j + 1)))]) := (Kp.app _ _).trans (Kp.app _ _)
    have i6 := getIdx_LV (K6 _ _ r5) (i := files + 4) (by first | assumption | exact Nat.le_of_lt ‹_› | exact Nat.lt_succ_of_lt ‹_› | exact Nat.ne_of_lt ‹_› | exact Nat.ne_of_gt ‹_› | exact Nat.le_trans ‹_› (by decide) | exact Nat.lt_of_lt_of_le ‹_› (by decide) | decide | omega) (by first | assumption | exact Nat.le_of_lt ‹_› | exact Nat.lt_succ_of_lt ‹_› | exact Nat.ne_of_lt ‹_› | exact Nat.ne_of_gt ‹_› | exact Nat.le_trans ‹_› (by decide) | exact Nat.lt_of_lt_of_le ‹_› (by decide) | decide | omega)
    simp only [exs, exasn, exasn2, exsetattr, exsetidx, exaug, exaugidx, exaugattr, exite, exloop, exret, exexpr, exfail, evlit, evloc, evbin, evneg, evinv, evnot, evand, evor, evcmp, evcmp2, evmem, evite, evcall, evnew, evmeth, evlen, evlistOf, evsorted, evrng1, evrng2, evrng3, evappend, evcount, evattr, evidx, evslTo, evslFrom, evslBt, evrev, evlist, evtup, evcomp, evcompIf, evs, opV_int, t_bool, truthy_int, cmpV_int, cmpV_bool_eq, cmpV_bool_ne, runFn, getA, lookupA, storeA, Option.map_some, List.getElem?_cons_zero, List.getElem?_cons_succ, List.set_cons_zero, List.set_cons_succ, List.cons_append, List.nil_append, vlit, op_add, op_band, op_bor, op_bxor, op_shr, c_eq, c_ne, c_lt, c_le, c_gt, c_ge, List.length_cons, List.length_nil, List.map_cons, List.map_nil, Nat.zero_add, Nat.add_zero, reduceIte, List.replicate_succ, List.replicate_zero, Nat.reduceAdd, Nat.reduceSub, Nat.reduceEqDiff, Nat.sub_self, decide_true, decide_false, eq_self, Bool.not_true, Bool.not_false, beq_self_eq_true, z1, ct, i6]
    have A6 := get_app (get_new h5 (.list [.ref a, .ref e, .ref r, N (T0 s size files).S])) [LV files fun j => N (outp (st s (12 * size + j + 1)))]
    have C6 := get_new (h5 ++ [.list [.ref a, .ref e, .ref r, N (T0 s size files).S]]) (LN files fun j => outp (st s (12 * size + j + 1)))
    generalize h5 ++ [O.list [.ref a, .ref e, .ref r, N (T0 s size files).S]] ++ [LV files fun j => N (outp (st s (12 * size + j + 1)))] = h6 at K6 A6 C6
    generalize (h5 ++ [O.list [.ref a, .ref e, .ref r, N (T0 s size files).S]]).length = kC at C6
    generalize h5.length = kA at A6
    have K7 := Kp.app h6 [O.list [.ref kr, .ref kC, .ref k10, N (outp (st s (12 * size + (files + 4) + 1)))]]
    have B7 := get_new h6 (O.list [.ref kr, .ref kC, .ref k10, N (outp (st s (12 * size + (files + 4) + 1)))])
    generalize h6 ++ [O.list [.ref kr, .ref kC, .ref k10, N (outp (st s (12 * size + (files + 4) + 1)))]] = h7 at K7 B7
    generalize h6.length = kB at B7
    have A7 := K7 _ _ A6
    have C7 := K7 _ _ C6
    have K57 := K6.trans K7
    have mc : 12 * size = size * 12 := Nat.mul_comm _ _
    have eE : (fun j => outp (st s (12 * size + j + 1))) = (T0 s size files).E := by funext j; rw [mc]; rfl
    have eR : (rx fun i => outp (st s (12 * size + (files + i) + 1))) = (T0 s size files).R := by
      have : (fun i => outp (st s (12 * size + (files + i) + 1))) = fun i => outp (st s (size * 12 + files + i + 1)) := by
        funext i; rw [mc, Nat.add_assoc (size * 12) files i]
      rw [this]; rfl
    have eS : outp (st s (12 * size + (files + 4) + 1)) = (T0 s size files).S := by
      rw [mc, ← Nat.add_assoc (size * 12) files 4]; rfl
    rw [eS] at B7
    rw [eE] at C7
    rw [eR] at g5
    have dA := four_data A7 (data_rows (K57 _ _ z2) (fun c hc => K57 _ _ (z5 c hc)) hs 58 (by decide)) (data_LN (K57 _ _ z3) 57 (by first | assumption | exact Nat.le_of_lt ‹_› | exact Nat.lt_succ_of_lt ‹_› | exact Nat.ne_of_lt ‹_› | exact Nat.ne_of_gt ‹_› | exact Nat.le_trans ‹_› (by decide) | exact Nat.lt_of_lt_of_le ‹_› (by decide) | decide | omega)) (data_LN (K57 _ _ z4) 56 (by decide))
    have dB := four_data B7 (data_rows (K57 _ _ rows5) (fun c hc => K57 _ _ (q5 c hc)) hs 58 (by decide)) (data_LN C7 57 (by first | assumption | exact Nat.le_of_lt ‹_› | exact Nat.lt_succ_of_lt ‹_› | exact Nat.ne_of_lt ‹_› | exact Nat.ne_of_gt ‹_› | exact Nat.le_trans ‹_› (by decide) | exact Nat.lt_of_lt_of_le ‹_› (by decide) | decide | omega)) (data_LN (K57 _ _ g5) 56 (by decide))
    have lay : (PyData.list [PyData.list ((List.range 15).map fun c => PyData.list (((List.range (rl size c)).map ((T0 s size files).P c)).map fun x : Nat => PyData.int x)), PyData.list (((List.range files).map (T0 s size files).E).map fun x : Nat => PyData.int x),
        PyData.list (((List.range 16).map (T0 s size files).R).map fun x : Nat => PyData.int x), PyData.int (T0 s size files).S]).canLay0 = true := by
      have l1 : (PyData.list ((List.range 15).map fun c => PyData.list (((List.range (rl size c)).map ((T0 s size files).P c)).map fun x : Nat => PyData.int x))).canLay0 = true := by
        rw [PyData.canLay0]
        exact lay_map _ (fun c => lay_ints _) _
      have l2 := lay_ints ((List.range files).map (T0 s size files).E)
      have l3 := lay_ints ((List.range 16).map (T0 s size files).R)
      have l4 : (PyData.int (T0 s size files).S).canLay0 = true := by rw [PyData.canLay0]
      rw [PyData.canLay0]
      rw [PyData.canLayAll0, PyData.canLayAll0, PyData.canLayAll0, PyData.canLayAll0, PyData.canLayAll0, l1, l2, l3, l4]
      rfl
    have cm : cmpV .eq (.ref kA) (.ref kB) h7 = some true := by
      simp only [cmpV, dA, dB]
      rw [PySem.SeqAt.eqv_refl _ lay]
    simp only [exs, exasn, exasn2, exsetattr, exsetidx, exaug, exaugidx, exaugattr, exite, exloop, exret, exexpr, exfail, evlit, evloc, evbin, evneg, evinv, evnot, evand, evor, evcmp, evcmp2, evmem, evite, evcall, evnew, evmeth, evlen, evlistOf, evsorted, evrng1, evrng2, evrng3, evappend, evcount, evattr, evidx, evslTo, evslFrom, evslBt, evrev, evlist, evtup, evcomp, evcompIf, evs, opV_int, t_bool, truthy_int, cmpV_int, cmpV_bool_eq, cmpV_bool_ne, runFn, getA, lookupA, storeA, Option.map_some, List.getElem?_cons_zero, List.getElem?_cons_succ, List.set_cons_zero, List.set_cons_succ, List.cons_append, List.nil_append, vlit, op_add, op_band, op_bor, op_bxor, op_shr, c_eq, c_ne, c_lt, c_le, c_gt, c_ge, List.length_cons, List.length_nil, List.map_cons, List.map_nil, Nat.zero_add, Nat.add_zero, reduceIte, List.replicate_succ, List.replicate_zero, Nat.reduceAdd, Nat.reduceSub, Nat.reduceEqDiff, Nat.sub_self, decide_true, decide_false, eq_self, Bool.not_true, Bool.not_false, beq_self_eq_true, cm]
    exact ⟨_, _, rfl, rfl, (K05.trans K6).trans K7⟩
  obtain ⟨v, h', e, rfl, q⟩ := key
  exact ⟨h', e, q⟩

end Mz
end

section
open PySem PySem.W PyProof.Rows
set_option Elab.async false
set_option autoImplicit false
set_option maxRecDepth 100000

set_option tactic.hygienic false

namespace Mz

/-! ### the board's geometry -/

noncomputable def kindL : List Nat := [1, 2, 3, 4, 5, 9, 10, 11, 12, 13]
noncomputable abbrev kindsO : O := .tup [N 1, N 2, N 3, N 4, N 5, N 9, N 10, N 11, N 12, N 13]
noncomputable abbrev sfilesO : O := .tup [N 0, N 1, N 0, .int (-1), N 1, N 1, .int (-1), .int (-1)]
noncomputable abbrev sranksO : O := .tup [N 1, N 0, .int (-1), N 0, N 1, .int (-1), .int (-1), N 1]
noncomputable def h0 (X Y : List V) : Hp := [kindsO, sfilesO, sranksO, .ro X, .list Y, .tup [N 2, N 3], .tup [N 3, N 3], .tup [N 4, N 3], .tup [N 3, N 4], .list [.ref 5, .ref 6, .ref 7, .ref 8]]

noncomputable def geoChk (r : Option (V × Hp)) : Option (V × List O × Option V × Option V) := match r with
  | some (v, h) => match (h : List O)[10]? with
    | some (O.inst 3 fs) => some (v, h.take 10, lookupA 7 fs, lookupA 6 fs)
    | _ => none
  | none => none
theorem geo_0 (X Y : List V) : geoChk (Fd tab 7 21 [N 2, N 3, .bool false, .bool false] (h0 X Y)) = some (.ref 10, h0 X Y, some (N 2), some (N 6)) := by kernel_rfl
theorem geo_1 (X Y : List V) : geoChk (Fd tab 7 21 [N 3, N 3, .bool false, .bool false] (h0 X Y)) = some (.ref 10, h0 X Y, some (N 3), some (N 9)) := by kernel_rfl
theorem geo_2 (X Y : List V) : geoChk (Fd tab 7 21 [N 4, N 3, .bool false, .bool false] (h0 X Y)) = some (.ref 10, h0 X Y, some (N 4), some (N 12)) := by kernel_rfl
theorem geo_3 (X Y : List V) : geoChk (Fd tab 7 21 [N 3, N 4, .bool false, .bool false] (h0 X Y)) = some (.ref 10, h0 X Y, some (N 3), some (N 12)) := by kernel_rfl

set_option tactic.hygienic true in
theorem geo_of {r : Option (V × Hp)} {h : Hp} {files size : Nat} (hl : h.length = 10) (e : geoChk r = some (.ref 10, h, some (N files), some (N size))) : ∃ h', r = some (.ref 10, h') ∧ Kp h h' ∧ GeoAt h' 10 size files := by
  unfold geoChk at e
  split at e
  · rename_i v h'
    split at e
    · rename_i fs hfs
      simp only [Option.some.injEq, Prod.mk.injEq] at e
      obtain ⟨rfl, e2, e3, e4⟩ := e
      refine ⟨h', rfl, fun k o q => ?_, fs, hfs, e3, e4⟩
      have hk := lt_of q
      rw [← e2, List.getElem?_take, if_pos (by first | assumption | exact Nat.le_of_lt ‹_› | exact Nat.lt_succ_of_lt ‹_› | exact Nat.ne_of_lt ‹_› | exact Nat.ne_of_gt ‹_› | exact Nat.le_trans ‹_› (by decide) | exact Nat.lt_of_lt_of_le ‹_› (by decide) | decide | omega)] at q
      exact q
    · cases e
  · cases e

structure Board (X Y : List V) (j files ranks : Nat) : Prop where
  tup : ∃ kt, getIdx (h0 X Y) (.ref 9) (N j) = some (.ref kt) ∧ (h0 X Y)[kt]? = some (.tup [N files, N ranks])
  geo : ∃ h', Fd tab 7 21 [N files, N ranks, .bool false, .bool false] (h0 X Y) = some (.ref 10, h') ∧ Kp (h0 X Y) h' ∧ GeoAt h' 10 (files * ranks) files
  hfiles : 2 ≤ files ∧ files ≤ 4
  hsize : 6 ≤ files * ranks ∧ files * ranks ≤ 12

theorem board (X Y : List V) (j : Nat) (hj : j < 4) : ∃ files ranks, Board X Y j files ranks := by
  have hc : j = 0 ∨ j = 1 ∨ j = 2 ∨ j = 3 := by first | assumption | exact Nat.le_of_lt ‹_› | exact Nat.lt_succ_of_lt ‹_› | exact Nat.ne_of_lt ‹_› | exact Nat.ne_of_gt ‹_› | exact Nat.le_trans ‹_› (by decide) | exact Nat.lt_of_lt_of_le ‹_› (by decide) | decide | omega
  rcases hc with rfl | rfl | rfl | rfl
  · exact ⟨2, 3, ⟨5, by simp [getIdx, h0], rfl⟩, geo_of rfl (geo_0 X Y), by decide, by decide⟩
  · exact ⟨3, 3, ⟨6, by simp [getIdx, h0], rfl⟩, geo_of rfl (geo_1 X Y), by decide, by decide⟩
  · exact ⟨4, 3, ⟨7, by simp [getIdx, h0], rfl⟩, geo_of rfl (geo_2 X Y), by decide, by decide⟩
  · exact ⟨3, 4, ⟨8, by simp [getIdx, h0], rfl⟩, geo_of rfl (geo_3 X Y), by decide, by decide⟩

/-! ### the law's own numbers -/

noncomputable def T1 (T : Tb) (size files : Nat) : Tb where
  P := fun c s => T.P c s ||| 1 * 2 ^ (64 + c * size + s)
  E := fun f => T.E f ||| 1 * 2 ^ (64 + 15 * size + f)
  R := fun r => T.R r ||| r * 2 ^ (64 + 15 * size + files)
  S := T.S ||| 1 * 2 ^ (64 + 15 * size + files + 4)

theorem T1_P (T : Tb) (size files c s : Nat) : (T1 T size files).P c s = (T.P c s ||| 1 * 2 ^ (64 + c * size + s)) := by unfold T1; rfl
theorem T1_E (T : Tb) (size files f : Nat) : (T1 T size files).E f = (T.E f ||| 1 * 2 ^ (64 + 15 * size + f)) := by unfold T1; rfl
theorem T1_R (T : Tb) (size files r : Nat) : (T1 T size files).R r = (T.R r ||| r * 2 ^ (64 + 15 * size + files)) := by unfold T1; rfl
theorem T1_S (T : Tb) (size files : Nat) : (T1 T size files).S = (T.S ||| 1 * 2 ^ (64 + 15 * size + files + 4)) := by unfold T1; rfl
theorem kx_lt {f : Nat → Nat} {b : Nat} (hf : ∀ s, f s < 2 ^ b) : ∀ n, kx f n < 2 ^ b
  | 0 => Nat.two_pow_pos b
  | n + 1 => Nat.xor_lt_two_pow (kx_lt hf n) (hf n)
theorem rx_lt {sg : Nat → Nat} (h : ∀ i, sg i < 2 ^ 64) (r : Nat) : rx sg r < 2 ^ 64 := kx_lt (fun s => by
    split
    · exact h s
    · decide) 4

theorem own (s size files : Nat) : Own (T1 (T0 s size files) size files) size files where
  P := fun m j i hm hj => by
    show hb (outp _ ||| 1 * 2 ^ (64 + m * size + j)) i = _
    rw [Nat.one_mul, show 64 + m * size + j = 64 + (m * size + j) by first | assumption | exact Nat.le_of_lt ‹_› | exact Nat.lt_succ_of_lt ‹_› | exact Nat.ne_of_lt ‹_› | exact Nat.ne_of_gt ‹_› | exact Nat.le_trans ‹_› (by decide) | exact Nat.lt_of_lt_of_le ‹_› (by decide) | decide | omega]
    exact hb_one (outp_lt _) i
  E := fun f i hf => by
    show hb (outp _ ||| 1 * 2 ^ (64 + 15 * size + f)) i = _
    rw [Nat.one_mul, show 64 + 15 * size + f = 64 + (15 * size + f) by first | assumption | exact Nat.le_of_lt ‹_› | exact Nat.lt_succ_of_lt ‹_› | exact Nat.ne_of_lt ‹_› | exact Nat.ne_of_gt ‹_› | exact Nat.le_trans ‹_› (by decide) | exact Nat.lt_of_lt_of_le ‹_› (by decide) | decide | omega]
    exact hb_one (outp_lt _) i
  R := fun r i hr => by
    show hb (rx _ r ||| r * 2 ^ (64 + 15 * size + files)) i = _
    rw [show 64 + 15 * size + files = 64 + (15 * size + files) by first | assumption | exact Nat.le_of_lt ‹_› | exact Nat.lt_succ_of_lt ‹_› | exact Nat.ne_of_lt ‹_› | exact Nat.ne_of_gt ‹_› | exact Nat.le_trans ‹_› (by decide) | exact Nat.lt_of_lt_of_le ‹_› (by decide) | decide | omega]
    exact hb_mul (rx_lt (fun _ => outp_lt _) r) i
  S := fun i => by
    show hb (outp _ ||| 1 * 2 ^ (64 + 15 * size + files + 4)) i = _
    rw [Nat.one_mul, show 64 + 15 * size + files + 4 = 64 + (15 * size + files + 4) by first | assumption | exact Nat.le_of_lt ‹_› | exact Nat.lt_succ_of_lt ‹_› | exact Nat.ne_of_lt ‹_› | exact Nat.ne_of_gt ‹_› | exact Nat.le_trans ‹_› (by decide) | exact Nat.lt_of_lt_of_le ‹_› (by decide) | decide | omega]
    exact hb_one (outp_lt _) i

/-! ### lists cut -/

theorem cut_toL {h : Hp} {k n : Nat} {vs : List V} (hk : h[k]? = some (.list vs) ∨ h[k]? = some (.ro vs)) (hn : vs.length ≤ 1000) : cut h (.ref k) none (some (n : Int)) = some (.ref h.length, h ++ [.list (vs.take n)]) := by
  have h0 : (0 : Int) ≤ (n : Int) := by first | assumption | exact Nat.le_of_lt ‹_› | exact Nat.lt_succ_of_lt ‹_› | exact Nat.ne_of_lt ‹_› | exact Nat.ne_of_gt ‹_› | exact Nat.le_trans ‹_› (by decide) | exact Nat.lt_of_lt_of_le ‹_› (by decide) | decide | omega
  rcases hk with hk | hk <;> simp only [cut, getR, hk, cutL, Option.elim_some, Option.elim_none, Int.toNat_natCast, List.drop_zero, hn, h0, decide_true, Option.all_some, Option.all_none, Bool.and_self, if_true]
theorem cut_btL {h : Hp} {k a b : Nat} {vs : List V} (hk : h[k]? = some (.list vs)) (hn : vs.length ≤ 1000) : cut h (.ref k) (some (a : Int)) (some (b : Int)) = some (.ref h.length, h ++ [.list ((vs.take b).drop a)]) := by
  have h0 : (0 : Int) ≤ (a : Int) := by first | assumption | exact Nat.le_of_lt ‹_› | exact Nat.lt_succ_of_lt ‹_› | exact Nat.ne_of_lt ‹_› | exact Nat.ne_of_gt ‹_› | exact Nat.le_trans ‹_› (by decide) | exact Nat.lt_of_lt_of_le ‹_› (by decide) | decide | omega
  have h1 : (0 : Int) ≤ (b : Int) := by first | assumption | exact Nat.le_of_lt ‹_› | exact Nat.lt_succ_of_lt ‹_› | exact Nat.ne_of_lt ‹_› | exact Nat.ne_of_gt ‹_› | exact Nat.le_trans ‹_› (by decide) | exact Nat.lt_of_lt_of_le ‹_› (by decide) | decide | omega
  simp only [cut, getR, hk, cutL, Option.elim_some, Int.toNat_natCast, hn, h0, h1, decide_true, Option.all_some, Bool.and_self, if_true]
theorem part_map {xs : List Int} (a b : Nat) : (((xs.map V.int).take b).drop a) = ((xs.take b).drop a).map V.int := by
  rw [← List.map_take, ← List.map_drop]

theorem PosAt.monoX {h h' : Hp} {q p g z size : Nat} {cells : Nat → Nat} {side rights : Nat} {ep : Int} {key : Nat} {fs : List (Nat × V)} (hq : h[q]? = some (.inst 4 fs)) (hne : p ≠ q) (K : Kx q h h') (x : PosAt h p g z size cells side rights ep key) :
    PosAt h' p g z size cells side rights ep key := by
  obtain ⟨b, ks, ss, hi, p1, p2⟩ := x
  exact ⟨b, ks, ss, hi, K _ _ hne p1, K _ _ (ne_of p2 hq (by simp)) p2⟩
theorem PosAt.inst {h : Hp} {p g z size : Nat} {cells : Nat → Nat} {side rights : Nat} {ep : Int} {key : Nat} (x : PosAt h p g z size cells side rights ep key) : ∃ fs, h[p]? = some (.inst 4 fs) := by
  obtain ⟨b, ks, ss, hi, p1, p2⟩ := x
  exact ⟨_, p1⟩

theorem ex_new {F : FnT} {i c f : Nat} {as : Xs} {l : Loc} {h h1 h2 : Hp} {vs : List V} (hs : evs tab F as l h = some (vs, h1)) (hi : initOf c = some f) (hF : F f (.ref h1.length :: vs) (h1 ++ [.inst c []]) = some (.none, h2)) :
    ex tab F (.asn i (.new c as)) l h = some (.next, l.set i (some (.ref h1.length)), h2) := xasn (enew hs hi hF)

end Mz
end

section
open PySem PySem.W PyProof.Rows
set_option Elab.async false
set_option autoImplicit false
set_option maxRecDepth 100000

set_option tactic.hygienic false

namespace Mz

noncomputable def kd (n : Int) : Nat := kindL.getD (n.fmod ((10 : Nat) : Int)).toNat 1
theorem kindL_cell : ∀ j, j < 10 → Cell (kindL.getD j 1) ∧ kindL.getD j 1 ≠ 0 := by
  unfold Cell
  decide
theorem kd_cell (n : Int) : Cell (kd n) := (kindL_cell _ (imod_lt n (by decide))).1
theorem kind_at {h : Hp} (hk : h[0]? = some kindsO) {j : Nat} (hj : j < 10) : getIdx h (.ref 0) (.int (j : Int)) = some (N (kindL.getD j 1)) := by
  have h0 : (0 : Int) ≤ (j : Int) := by first | assumption | exact Nat.le_of_lt ‹_› | exact Nat.lt_succ_of_lt ‹_› | exact Nat.ne_of_lt ‹_› | exact Nat.ne_of_gt ‹_› | exact Nat.le_trans ‹_› (by decide) | exact Nat.lt_of_lt_of_le ‹_› (by decide) | decide | omega
  simp only [getIdx, h0, if_true, hk, Int.toNat_natCast]
  have hc : j = 0 ∨ j = 1 ∨ j = 2 ∨ j = 3 ∨ j = 4 ∨ j = 5 ∨ j = 6 ∨ j = 7 ∨ j = 8 ∨ j = 9 := by first | assumption | exact Nat.le_of_lt ‹_› | exact Nat.lt_succ_of_lt ‹_› | exact Nat.ne_of_lt ‹_› | exact Nat.ne_of_gt ‹_› | exact Nat.le_trans ‹_› (by decide) | exact Nat.lt_of_lt_of_le ‹_› (by decide) | decide | omega
  rcases hc with rfl | rfl | rfl | rfl | rfl | rfl | rfl | rfl | rfl | rfl <;> rfl

theorem range_getD {α : Type} (f : Int → α) (L : List Int) : ((List.range L.length).map fun i => f (L.getD i 0)) = L.map f := by
  apply List.ext_getElem
  · simp
  · intro k h1 h2
    simp only [List.length_map, List.length_range] at h1
    simp [h1]

theorem mkList_LV {h : Hp} {k n : Nat} {g : Nat → V} (hk : h[k]? = some (LV n g)) (hn : n ≤ 1000) : mkList h (.ref k) = some (.ref h.length, h ++ [LV n g]) := by
  simp only [mkList, hk, List.length_map, List.length_range, hn, if_true]

theorem law_a {xs : List Int} (hx : xs.length ≤ 63) {Q : V → Hp → Prop}
    (r : ∀ (sc : List Int) (files ranks size z0 : Nat) (seed : Int) (h3 : Hp), sc.length ≤ 32 → 2 ≤ files ∧ files ≤ 4 → 6 ≤ size ∧ size ≤ 12 → h3[4]? = some (.list (sc.map V.int)) → h3[0]? = some kindsO → GeoAt h3 10 size files →
      ZobAt h3 z0 size files (T0 (sd seed) size files) → Run (Fd tab 7) b_law.tl.tl.tl.tl.tl.tl [some (.ref 4), some (N files), some (N ranks), some (N size), some (.ref 10), some (.ref z0), none, none, none, none, none, none, none, none, none, none, none, none, none, none] h3 Q) :
    Run (Fd tab 7) b_law [some (.ref 3), none, none, none, none, none, none, none, none, none, none, none, none, none, none, none, none, none, none, none] [kindsO, sfilesO, sranksO, .ro (xs.map V.int)] Q := by
  have c0 := cut_toL (h := [kindsO, sfilesO, sranksO, .ro (xs.map V.int)]) (k := 3) (n := 32) (vs := xs.map V.int) (.inr rfl) (by rw [List.length_map]; exact Nat.le_trans hx (by decide))
  rw [← List.map_take] at c0
  have hsc : (xs.take 32).length ≤ 32 := by rw [List.length_take]; exact Nat.min_le_left _ _
  refine Run.step (xasn (eslTo (eloc rfl) elit c0)) ?_
  generalize xs.take 32 = sc at hsc
  have hs0 : (h0 (xs.map V.int) (sc.map V.int))[4]? = some (.list (sc.map V.int)) := rfl
  have hs1000 : sc.length ≤ 1000 := Nat.le_trans hsc (by decide)
  obtain ⟨files, ranks, ⟨⟨kt, t1, t2⟩, ⟨h1, g1, K1, hg1⟩, hfi, hsi⟩⟩ := board (xs.map V.int) (sc.map V.int) ((sc.getD 0 0).fmod ((4 : Nat) : Int)).toNat (imod_lt _ (by decide))
  have e25 : Fd tab 7 25 [] [kindsO, sfilesO, sranksO, .ro (xs.map V.int), .list (sc.map V.int)] = some (.ref 9, h0 (xs.map V.int) (sc.map V.int)) := rfl
  refine Run.step (xasn2 (eidx (ecall enil e25) (ebin (ecall (econs (eloc rfl) (econs elit enil)) (f_law_at 6 hs0 (k := 0) hs1000)) elit (vop (op_imod (b := 4) (by decide)))) t1) t2) ?_
  have f64 : files < 2 ^ 64 := Nat.lt_of_le_of_lt hfi.2 (by decide)
  refine Run.step (xasn (ebin (eloc rfl) (eloc rfl) (vop (op_mul (a := files) (b := ranks) f64)))) ?_
  generalize files * ranks = size at hg1 hsi
  refine Run.step (xasn (ecall (econs (eloc rfl) (econs (eloc rfl) (econs elit (econs elit enil)))) g1)) ?_
  have hs1 := K1 _ _ hs0
  obtain ⟨z0, h2, e7, hz2, K2⟩ := f_make_zobrist 4 (seed := sc.getD 1 0) hg1 (Nat.le_trans hsi.2 (by decide)) (Nat.le_trans hfi.2 (by decide))
  refine Run.step (xasn (ecall (econs (eloc rfl) (econs (ecall (econs (eloc rfl) (econs elit enil)) (f_law_at 6 hs1 (k := 1) hs1000)) enil)) e7)) ?_
  have hs2 := K2 _ _ hs1
  obtain ⟨h3, e28, K3⟩ := f_law_drawn 5 hz2 (Nat.le_trans hsi.2 (by decide)) (Nat.le_trans hfi.2 (by decide))
  refine Run.step (xiteF (enot (ecall (econs (eloc rfl) (econs (ecall (econs (eloc rfl) (econs elit enil)) (f_law_at 6 hs2 (k := 1) hs1000)) (econs (eloc rfl) (econs (eloc rfl) enil)))) e28) rfl) rfl exs_nil) ?_
  have K13 := K2.trans K3
  exact r sc files ranks size z0 (sc.getD 1 0) h3 hsc hfi hsi (K13 _ _ hs1) (K13 _ _ (K1 _ _ rfl)) (hg1.mono K13) (hz2.mono K3)

theorem law_row {F : FnT} {h : Hp} {files size z0 kr i : Nat} {T : Tb} {rs : Nat → Nat} {a b c e f g : Option V} (hz : ZobAt h z0 size files T) (hs : size ≤ 12) (hi : i < 15) (kk : h[kr]? = some (LV i fun c => .ref (rs c))) :
    ∃ k1 h1, exs tab F (.cons (.asn 9 (.idx (.attr (.loc 5) 1) (.loc 8))) (.cons (.expr (.append (.loc 7) (.comp (.bin .bor (.idx (.loc 9) (.loc 20)) (.bin .shl (.lit (.int 1)) (.bin .add (.bin .add (.lit (.int 64)) (.bin .mul (.loc 8) (.loc 3))) (.loc 20)))) (.rng1 (.len (.loc 9)))))) .nil))
      [a, b, c, some (N size), e, some (.ref z0), f, some (.ref kr), some (N i), g, none, none, none, none, none, none, none, none, none, none] h = some (.next, [a, b, c, some (N size), e, some (.ref z0), f, some (.ref kr), some (N i), some (.ref k1), none, none, none, none, none, none, none, none, none, none], h1) ∧
      Kx kr h h1 ∧ (∃ k6, h1[kr]? = some (LV (i + 1) fun c => .ref (if c = i then k6 else rs c)) ∧ (kr < h.length → h1[k6]? = some (LN (rl size i) ((T1 T size files).P i)) ∧ kr < k6)) ∧ h.length ≤ h1.length := by
  obtain ⟨r, e1, r1⟩ := row_of (F := F) (o := .loc 5) (i := .loc 8) (l := [a, b, c, some (N size), e, some (.ref z0), f, some (.ref kr), some (N i), g, none, none, none, none, none, none, none, none, none, none]) hz (eloc rfl) (eloc rfl) hi
  have hrl : rl size i ≤ 12 := by
    unfold rl
    split
    · decide
    · exact hs
  have hrl' : rl size i ≤ 1000 := Nat.le_trans hrl (by decide)
  have l1 := len_list r1 (by rw [LV_len]; exact hrl')
  rw [LV_len] at l1
  obtain ⟨k6, h6, e6, l6, K6, lk6⟩ := ecomp_rng (F := F) (e := .bin .bor (.idx (.loc 9) (.loc 20)) (.bin .shl (.lit (.int 1)) (.bin .add (.bin .add (.lit (.int 64)) (.bin .mul (.loc 8) (.loc 3))) (.loc 20)))) (a := .len (.loc 9))
    (l := [a, b, c, some (N size), e, some (.ref z0), f, some (.ref kr), some (N i), some (.ref r), none, none, none, none, none, none, none, none, none, none]) (fun s => (T1 T size files).P i s) (elen (eloc rfl) l1) hrl' (fun hx K s hs' => by
      rw [T1_P]
      exact ebin (eidx (eloc rfl) (eloc rfl) (getIdx_LN (K _ _ r1) hs' hrl')) (ebin elit (ebin (ebin elit (ebin (eloc rfl) (eloc rfl) (vop (op_mul (a := i) (b := size) (Nat.lt_trans hi (by decide))))) (vop (op_add 64 _))) (eloc rfl) (vop (op_add _ _)))
        (vop (op_shl (a := 1) (by decide) (Nat.le_trans (Nat.add_le_add (Nat.add_le_add_left (Nat.mul_le_mul (Nat.le_of_lt hi) hs) 64) (Nat.le_trans (Nat.le_of_lt hs') hrl)) (by decide))))) (vop (op_bor _ _)))
  have ap := append_LV (g' := fun c => .ref (if c = i then k6 else rs c)) (v := .ref k6) (K6 _ _ kk) (Nat.le_trans (Nat.le_of_lt hi) (by decide)) (fun c hc => by rw [if_neg (Nat.ne_of_lt hc)]) (by rw [if_pos rfl])
  exact ⟨r, _, exs_cons (xasn e1) (exs_one (xexpr (eappend (eloc rfl) (getL_LV kk) e6 ap))), (K6.x kr).trans (Kx.set _ _ _), ⟨k6, get_set (K6 _ _ kk), fun q => ⟨get_set_ne l6 (Nat.ne_of_gt (Nat.lt_of_lt_of_le q lk6)), Nat.lt_of_lt_of_le q lk6⟩⟩, by rw [List.length_set]; exact K6.len⟩

theorem law_b {h : Hp} {files size z0 s : Nat} {a b c : Option V} {Q : V → Hp → Prop} (hz : ZobAt h z0 size files (T0 s size files)) (hs : size ≤ 12) (hf : files ≤ 4)
    (r : ∀ T' z h7 w5 w6 w7 x y w10 w11, Own T' size files → ZobAt h7 z size files T' → Kp h h7 →
      Run (Fd tab 7) b_law.tl.tl.tl.tl.tl.tl.tl.tl.tl.tl.tl.tl [a, some (N files), b, some (N size), c, w5, w6, w7, x, y, w10, w11, some (.ref z), none, none, none, none, none, none, none] h7 Q) :
    Run (Fd tab 7) b_law.tl.tl.tl.tl.tl.tl [a, some (N files), b, some (N size), c, some (.ref z0), none, none, none, none, none, none, none, none, none, none, none, none, none, none] h Q := by
  have hOw := own s size files
  generalize T0 s size files = T at hz hOw
  refine Run.step (xasn (ebin elit (ebin elit (eloc rfl) (vop (op_mul (a := 15) (b := size) (by decide)))) (vop (op_add 64 _)))) ?_
  refine Run.step (xasn (elist enil)) ?_
  have hlq : h.length < (h ++ [O.list []] ++ [O.rng 0 1 15]).length := by rw [List.length_append, List.length_append]; exact Nat.lt_succ_of_lt (Nat.lt_succ_self _)
  have a3 : ∀ {k : Nat} {o : O}, h[k]? = some o → k ≠ h.length := fun e => new_apart e (Nat.le_refl _)
  obtain ⟨l', h4, e4, x, y, rs, rfl, K4, k4, q4, _⟩ := loop_rng1 (n := 15) (f := fun l h => exs tab (Fd tab 7) (.cons (.asn 9 (.idx (.attr (.loc 5) 1) (.loc 8))) (.cons (.expr (.append (.loc 7) (.comp (.bin .bor (.idx (.loc 9) (.loc 20)) (.bin .shl (.lit (.int 1)) (.bin .add (.bin .add (.lit (.int 64)) (.bin .mul (.loc 8) (.loc 3))) (.loc 20)))) (.rng1 (.len (.loc 9)))))) .nil)) l h) (x := 8)
    (l := [a, some (N files), b, some (N size), c, some (.ref z0), some (N (64 + 15 * size)), some (.ref h.length), none, none, none, none, none, none, none, none, none, none, none, none]) rfl
    (fun i l h' => ∃ x y rs, l = [a, some (N files), b, some (N size), c, some (.ref z0), some (N (64 + 15 * size)), some (.ref h.length), x, y, none, none, none, none, none, none, none, none, none, none] ∧ Kp h h' ∧ h'[h.length]? = some (LV i fun c => .ref (rs c)) ∧
      (∀ c, c < i → h'[rs c]? = some (LN (rl size c) ((T1 T size files).P c)) ∧ h.length < rs c) ∧ h.length < h'.length)
    ⟨none, none, fun _ => 0, rfl, (Kp.app _ _).trans (Kp.app _ _), get_app (get_new h (.list [])) [.rng 0 1 15], fun c hc => absurd hc (Nat.not_lt_zero _), hlq⟩ (by decide) (get_new _ _) (fun i l h' hi hh => by
      obtain ⟨x, y, rs, rfl, K, kk, q, hlen⟩ := hh
      obtain ⟨k1, h1, e1, X1, ⟨k6, o6, q6⟩, hl⟩ := law_row (F := Fd tab 7) (a := a) (b := some (N files)) (c := b) (e := c) (f := some (N (64 + 15 * size))) (g := y) (hz.mono K) hs hi kk
      refine ⟨_, _, e1, _, _, fun c => if c = i then k6 else rs c, rfl, fun k o e => X1 _ _ (a3 e) (K _ _ e), o6, fun c hc => ?_, Nat.lt_of_lt_of_le hlen hl⟩
      by_cases hci : c = i
      · subst hci
        simp only [if_true]
        exact q6 hlen
      · simp only [hci, if_false]
        obtain ⟨u1, u2⟩ := q c (Nat.lt_of_le_of_ne (Nat.le_of_lt_succ hc) hci)
        exact ⟨X1 _ _ (Nat.ne_of_gt u2) u1, u2⟩)
  refine Run.step (xloop (erng1 elit (mkRng_N _ (n := 15) (by decide))) e4) ?_
  have hf' : files ≤ 1000 := Nat.le_trans hf (by decide)
  have h15 : 64 + 15 * size ≤ 64 + 15 * 12 := Nat.add_le_add_left (Nat.mul_le_mul_left 15 hs) 64
  obtain ⟨k5, h5, e5, l5, K5, -⟩ := ecomp_rng (F := Fd tab 7) (h := h4) (e := .bin .bor (.idx (.attr (.loc 5) 2) (.loc 20)) (.bin .shl (.lit (.int 1)) (.bin .add (.loc 6) (.loc 20)))) (a := .loc 1)
    (l := [a, some (N files), b, some (N size), c, some (.ref z0), some (N (64 + 15 * size)), some (.ref h.length), x, y, none, none, none, none, none, none, none, none, none, none]) (fun f => (T1 T size files).E f) (eloc rfl) hf' (fun hx K f hf2 => by
      rw [T1_E]
      exact ebin (ep_of ((hz.mono K4).mono K) (eloc rfl) (eloc rfl) hf2 hf') (ebin elit (ebin (eloc rfl) (eloc rfl) (vop (op_add _ _))) (vop (op_shl (a := 1) (by decide) (Nat.le_trans (Nat.add_le_add h15 (Nat.le_trans (Nat.le_of_lt hf2) hf)) (by decide))))) (vop (op_bor _ _)))
  refine Run.step (xasn e5) ?_
  have K45 := K4.trans K5
  obtain ⟨k6, h6, e6, l6, K6, -⟩ := ecomp_rng (F := Fd tab 7) (h := h5) (e := .bin .bor (.idx (.attr (.loc 5) 3) (.loc 20)) (.bin .shl (.loc 20) (.bin .add (.loc 6) (.loc 1)))) (a := .lit (.int 16)) (n := 16)
    (l := [a, some (N files), b, some (N size), c, some (.ref z0), some (N (64 + 15 * size)), some (.ref h.length), x, y, some (.ref k5), none, none, none, none, none, none, none, none, none]) (fun f => (T1 T size files).R f) elit (by decide) (fun hx K f hf2 => by
      rw [T1_R]
      exact ebin (rights_of ((hz.mono K45).mono K) (eloc rfl) (eloc rfl) hf2) (ebin (eloc rfl) (ebin (eloc rfl) (eloc rfl) (vop (op_add _ _))) (vop (op_shl (Nat.lt_trans hf2 (by decide)) (Nat.le_trans (Nat.add_le_add h15 hf) (by decide))))) (vop (op_bor _ _)))
  refine Run.step (xasn e6) ?_
  have K46 := K45.trans K6
  obtain ⟨h7, e7, p7, X7⟩ := f_zob_init 6 (a := h.length) (e := k5) (r := k6) (x := (T1 T size files).S) (get_new h6 (.inst 1 []))
  rw [T1_S] at e7
  refine Run.step (ex_new (econs (eloc rfl) (econs (eloc rfl) (econs (eloc rfl) (econs (ebin (side_of (hz.mono K46) (eloc rfl)) (ebin elit (ebin (ebin (eloc rfl) (eloc rfl) (vop (op_add _ _))) elit (vop (op_add _ 4))) (vop (op_shl (a := 1) (by decide) (Nat.le_trans (Nat.add_le_add_right (Nat.add_le_add h15 hf) 4) (by decide))))) (vop (op_bor _ _))) enil)))) (f := 4) rfl e7) ?_
  have K67 : Kp h6 h7 := fun k o e => X7 _ _ (new_apart e (Nat.le_refl _)) (get_app e _)
  have K47 := (K5.trans K6).trans K67
  exact r _ _ h7 _ _ _ _ _ _ _ hOw ⟨h.length, k5, k6, rs, p7, K47 _ _ k4, (K6.trans K67) _ _ l5, K67 _ _ l6, fun c hc => K47 _ _ (q4 c hc).1⟩ (K4.trans K47)

theorem law_c {h : Hp} {size : Nat} {sc : List Int} {a1 a2 a4 a5 a6 a7 a8 a9 a10 a11 a12 : Option V} {Q : V → Hp → Prop} (hsc : sc.length ≤ 32) (hs4 : h[4]? = some (.list (sc.map V.int))) (hk : h[0]? = some kindsO)
    (r : ∀ (men : List Nat) (km : Nat) (h1 : Hp), men.length ≤ size → (∀ c ∈ men, Cell c) → h1[km]? = some (.list (men.map N)) → Kp h h1 → Run (Fd tab 7) b_law.tl.tl.tl.tl.tl.tl.tl.tl.tl.tl.tl.tl.tl [some (.ref 4), a1, a2, some (N size), a4, a5, a6, a7, a8, a9, a10, a11, a12, some (.ref km), none, none, none, none, none, none] h1 Q) :
    Run (Fd tab 7) b_law.tl.tl.tl.tl.tl.tl.tl.tl.tl.tl.tl.tl [some (.ref 4), a1, a2, some (N size), a4, a5, a6, a7, a8, a9, a10, a11, a12, none, none, none, none, none, none, none] h Q := by
  have cb := cut_btL (get_app hs4 [.list [N 6, N 14]]) (a := 6) (b := 14) (by rw [List.length_map]; exact Nat.le_trans hsc (by decide))
  rw [part_map] at cb
  have hzl : ((sc.take 14).drop 6).length ≤ 32 := by rw [List.length_drop, List.length_take]; exact Nat.le_trans (Nat.sub_le _ _) (Nat.le_trans (Nat.min_le_left _ _) (by decide))
  generalize (sc.take 14).drop 6 = zs at cb hzl
  have hzl' : zs.length ≤ 1000 := Nat.le_trans hzl (by decide)
  have b8 := get_new (h ++ [.list [N 6, N 14]]) (.list (zs.map V.int))
  have q8 := get_app (get_new h (.list [N 6, N 14])) [.list (zs.map V.int)]
  have K8 : Kp h (h ++ [.list [N 6, N 14]] ++ [.list (zs.map V.int)]) := (Kp.app _ _).trans (Kp.app _ _)
  generalize (h ++ [O.list [N 6, N 14]] ++ [.list (zs.map V.int)]) = h8 at cb b8 q8 K8
  obtain ⟨h9, e9, rfl⟩ := comp_list (f := mapF tab (Fd tab 7) (.idx (.lit (.ref 0)) (.bin .mod (.loc 20) (.lit (.int 10)))) [some (.ref 4), a1, a2, some (N size), a4, a5, a6, a7, a8, a9, a10, a11, a12, none, none, none, none, none, none, none]) (vs := zs.map V.int) rfl (fun i => some (N (kd (zs.getD i 0)))) (fun i h' => h' = h8) rfl
    (by rw [List.length_map]; exact hzl') (.inl fun i h' hh => by subst hh; exact b8) (fun i v h' hv hh => by
      subst hh
      rw [List.getElem?_map] at hv
      obtain ⟨m, hm, rfl⟩ := Option.map_eq_some_iff.mp hv
      have hd : zs.getD i 0 = m := by rw [List.getD_eq_getElem?_getD, hm]; rfl
      rw [hd]
      exact ⟨_, cstep (eidx elit (ebin (eloc rfl) elit (vop (op_imod (b := 10) (by decide)))) (kind_at (K8 _ _ hk) (imod_lt m (b := 10) (by decide)))), rfl⟩)
  rw [all_some, List.length_map, range_getD (fun n => N (kd n)) zs] at e9
  have l9 : [N 6, N 14].length + (zs.map fun n => N (kd n)).length ≤ 1000 := by rw [List.length_map]; exact Nat.le_trans (Nat.add_le_add_left hzl 2) (by decide)
  have ad := add_list (get_app q8 [.list (zs.map fun n => N (kd n))]) (get_new h9 (.list (zs.map fun n => N (kd n)))) l9
  have ct := cut_toL (n := size) (.inl (get_new (h9 ++ [.list (zs.map fun n => N (kd n))]) (.list ([N 6, N 14] ++ zs.map fun n => N (kd n))))) (by rw [List.length_append]; exact l9)
  have em : (([N 6, N 14] ++ zs.map fun n => N (kd n)).take size) = (((6 :: 14 :: zs.map kd).take size).map N) := by
    rw [List.map_take, List.map_cons, List.map_cons, List.map_map]; rfl
  rw [em] at ct
  have hml : ((6 :: 14 :: zs.map kd).take size).length ≤ size := by rw [List.length_take]; exact Nat.min_le_left _ _
  have hmc : ∀ c ∈ (6 :: 14 :: zs.map kd).take size, Cell c := by
    intro c hc
    have := List.mem_of_mem_take hc
    simp only [List.mem_cons, List.mem_map] at this
    rcases this with rfl | rfl | ⟨n, _, rfl⟩
    · exact ⟨by decide, by decide, by decide⟩
    · exact ⟨by decide, by decide, by decide⟩
    · exact kd_cell n
  refine Run.step (xasn (eslTo (ebin (elist (econs elit (econs elit enil))) (ecomp (eslBt (eloc rfl) elit elit cb) e9) ad) (eloc rfl) ct)) ?_
  exact r _ _ _ hml hmc (get_new _ _) (K8.trans ((Kp.app _ _).trans ((Kp.app _ _).trans (Kp.app _ _))))

theorem law_d {h : Hp} {size km : Nat} {sc : List Int} {men : List Nat} {a1 a2 a4 a5 a6 a7 a8 a9 a10 a11 a12 : Option V} {Q : V → Hp → Prop} (hsc : sc.length ≤ 32) (hs4 : h[4]? = some (.list (sc.map V.int))) (hs : size ≤ 12)
    (hml : men.length ≤ size) (hmc : ∀ c ∈ men, Cell c) (hm : h[km]? = some (.list (men.map N)))
    (r : ∀ v k1 c1 k2 c2 h1, Kp h h1 → h1[k1]? = some (LN size c1) → (∀ s, s < size → Cell (c1 s)) → h1[k2]? = some (LN size c2) → (∀ s, s < size → Cell (c2 s)) → h.length ≤ k2 → k1 ≠ k2 →
      Run (Fd tab 7) b_law.tl.tl.tl.tl.tl.tl.tl.tl.tl.tl.tl.tl.tl.tl.tl.tl [some (.ref 4), a1, a2, some (N size), a4, a5, a6, a7, a8, a9, a10, a11, a12, some (.ref km), some (.ref k1), some (.int v), some (.ref k2), none, none, none] h1 Q) :
    Run (Fd tab 7) b_law.tl.tl.tl.tl.tl.tl.tl.tl.tl.tl.tl.tl.tl [some (.ref 4), a1, a2, some (N size), a4, a5, a6, a7, a8, a9, a10, a11, a12, some (.ref km), none, none, none, none, none, none] h Q := by
  have hsc' : sc.length ≤ 1000 := Nat.le_trans hsc (by decide)
  have hs50 : size ≤ 50 := Nat.le_trans hs (by decide)
  have hpl : ∀ a b, ((sc.take b).drop a).length ≤ 1000 := fun a b => by rw [List.length_drop, List.length_take]; exact Nat.le_trans (Nat.sub_le _ _) (Nat.le_trans (Nat.min_le_right _ _) hsc')
  have cb := cut_btL hs4 (a := 14) (b := 23) (by rw [List.length_map]; exact hsc')
  rw [part_map] at cb
  obtain ⟨k1, h12, c1, e29, o12, K12, hc1, lk1⟩ := f_law_place 5 (get_app hm [.list (((sc.take 23).drop 14).map V.int)]) (get_new h (.list (((sc.take 23).drop 14).map V.int))) (hpl _ _) hs50 hml hmc
  refine Run.step (xasn (ecall (econs (eloc rfl) (econs (eloc rfl) (econs (eslBt (eloc rfl) elit elit cb) enil))) e29)) ?_
  have K12 := (Kp.app _ _).trans K12
  have hs12 := K12 _ _ hs4
  have hl12 := K12.len
  refine Run.step (xasn (ecall (econs (eloc rfl) (econs elit enil)) (f_law_at 6 hs12 (k := 2) hsc'))) ?_
  generalize sc.getD 2 0 = v
  have ec : ev tab (Fd tab 7) (.cmp .eq (.bin .mod (.loc 15) (.lit (.int 2))) (.lit (.int 0))) [some (.ref 4), a1, a2, some (N size), a4, a5, a6, a7, a8, a9, a10, a11, a12, some (.ref km), some (.ref k1), some (.int v), none, none, none, none] h12 = some (.bool (decide ((v.fmod ((2 : Nat) : Int)).toNat = 0)), h12) :=
    ecmp (ebin (eloc rfl) elit (vop (op_imod (b := 2) (by decide)))) elit (veq _ 0)
  by_cases q : (v.fmod ((2 : Nat) : Int)).toNat = 0
  · have cb := cut_btL (get_app hs12 [.list (men.map N).reverse]) (a := 23) (b := 32) (by rw [List.length_map]; exact hsc')
    rw [part_map] at cb
    have mr := get_app (get_new h12 (.list (men.map N).reverse)) [.list (((sc.take 32).drop 23).map V.int)]
    rw [← List.map_reverse] at mr cb
    obtain ⟨k2, h13, c2, e29, o13, K13, hc2, lk2⟩ := f_law_place 5 (size := size) mr (get_new (h12 ++ [.list (men.reverse.map N)]) (.list (((sc.take 32).drop 23).map V.int))) (hpl _ _) hs50 (by rw [List.length_reverse]; exact hml) (fun c hc => hmc c (List.mem_reverse.mp hc))
    rw [List.map_reverse] at e29 cb
    have K13 := ((Kp.app h12 [.list (men.reverse.map N)]).trans (Kp.app _ _)).trans K13
    have lk : h12.length ≤ k2 := by
      rw [List.length_append, List.length_append] at lk2
      exact Nat.le_trans (Nat.le_trans (Nat.le_add_right _ _) (Nat.le_add_right _ _)) lk2
    exact Run.step (xiteT ec (tru q) (exs_one (xasn (ecall (econs (erev (eloc rfl) (getL_of (K12 _ _ hm)) (by rw [List.length_map]; exact Nat.le_trans hml (Nat.le_trans hs (by decide)))) (econs (eloc rfl) (econs (eslBt (eloc rfl) elit elit cb) enil))) e29))))
      (r v k1 c1 k2 c2 h13 (K12.trans K13) (K13 _ _ o12) hc1 o13 hc2 (Nat.le_trans hl12 lk) (new_apart o12 lk))
  · exact Run.step (xiteF ec (fls q) (exs_one (xasn (elistOf (eloc rfl) (mkList_LV o12 (Nat.le_trans hs (by decide)))))))
      (r v k1 c1 h12.length c1 _ (K12.trans (Kp.app _ _)) (get_app o12 _) hc1 (get_new _ _) hc1 hl12 (new_apart o12 (Nat.le_refl _)))

theorem law_e {h : Hp} {size k2 : Nat} {c2 : Nat → Nat} {v : Int} {a0 a1 a2 a4 a5 a6 a7 a8 a9 a10 a11 a12 a13 a14 : Option V} {Q : V → Hp → Prop} (hk : h[0]? = some kindsO) (hs0 : size ≠ 0) (hs : size ≤ 12) (o : h[k2]? = some (LN size c2)) (hc2 : ∀ s, s < size → Cell (c2 s))
    (r : ∀ spot c3 h1, Kx k2 h h1 → h1[k2]? = some (LN size c3) → (∀ s, s < size → Cell (c3 s)) → Run (Fd tab 7) b_law.tl.tl.tl.tl.tl.tl.tl.tl.tl.tl.tl.tl.tl.tl.tl.tl.tl.tl [a0, a1, a2, some (N size), a4, a5, a6, a7, a8, a9, a10, a11, a12, a13, a14, some (.int v), some (.ref k2), some (N spot), none, none] h1 Q) :
    Run (Fd tab 7) b_law.tl.tl.tl.tl.tl.tl.tl.tl.tl.tl.tl.tl.tl.tl.tl.tl [a0, a1, a2, some (N size), a4, a5, a6, a7, a8, a9, a10, a11, a12, a13, a14, some (.int v), some (.ref k2), none, none, none] h Q := by
  have hsp := imod_lt (v.fdiv ((4 : Nat) : Int)) hs0
  have hs' : size ≤ 1000 := Nat.le_trans hs (by decide)
  refine Run.step (xasn (ebin (ebin (eloc rfl) elit (vop (op_idiv (b := 4) (by decide) (by decide)))) (eloc rfl) (vop (op_imod hs0)))) ?_
  generalize ((v.fdiv ((4 : Nat) : Int)).fmod (size : Int)).toNat = spot at hsp
  have e1 : ev tab (Fd tab 7) (.cmp .eq (.bin .mod (.bin .fdiv (.loc 15) (.lit (.int 2))) (.lit (.int 2))) (.lit (.int 1))) [a0, a1, a2, some (N size), a4, a5, a6, a7, a8, a9, a10, a11, a12, a13, a14, some (.int v), some (.ref k2), some (N spot), none, none] h = some (.bool (decide (((v.fdiv ((2 : Nat) : Int)).fmod ((2 : Nat) : Int)).toNat = 1)), h) :=
    ecmp (ebin (ebin (eloc rfl) elit (vop (op_idiv (b := 2) (by decide) (by decide)))) elit (vop (op_imod (b := 2) (by decide)))) elit (veq _ 1)
  by_cases q1 : ((v.fdiv ((2 : Nat) : Int)).fmod ((2 : Nat) : Int)).toNat = 1
  · have e2 : ev tab (Fd tab 7) (.mem false (.bin .mod (.idx (.loc 16) (.loc 17)) (.lit (.int 8))) [0, 6]) [a0, a1, a2, some (N size), a4, a5, a6, a7, a8, a9, a10, a11, a12, a13, a14, some (.int v), some (.ref k2), some (N spot), none, none] h = some (.bool (!([0, 6] : List Int).contains ((c2 spot % 8 : Nat) : Int)), h) :=
      emem (ebin (eidx (eloc rfl) (eloc rfl) (getIdx_LN o hsp hs')) elit (vop (op_mod (b := 8) (by decide))))
    cases hb : ([0, 6] : List Int).contains ((c2 spot % 8 : Nat) : Int) with
    | true =>
      rw [hb] at e2
      exact Run.step (xiteF (eandT e1 (tru q1) e2) rfl exs_nil) (r spot c2 h (fun k o _ e => e) o hc2)
    | false =>
      rw [hb] at e2
      have cc := (kindL_cell _ (imod_lt ((v.fdiv ((4 : Nat) : Int)).fdiv (size : Int)) (b := 10) (by decide))).1
      have ka := kind_at hk (imod_lt ((v.fdiv ((4 : Nat) : Int)).fdiv (size : Int)) (b := 10) (by decide))
      generalize kindL.getD (((v.fdiv ((4 : Nat) : Int)).fdiv (size : Int)).fmod ((10 : Nat) : Int)).toNat 1 = c at ka cc
      refine Run.step (xiteT (eandT e1 (tru q1) e2) rfl (exs_one (xsetidx (eidx elit (ebin (ebin (ebin (eloc rfl) elit (vop (op_idiv (b := 4) (by decide) (by decide)))) (eloc rfl) (vop (op_idiv hs0 (Nat.lt_of_le_of_lt hs (by decide))))) elit (vop (op_imod (b := 10) (by decide)))) ka) (eloc rfl) (eloc rfl) (setIdx_LN (x := c) o hsp hs')))) (r spot _ _ (Kx.set _ _ _) (get_set o) fun s hs => ?_)
      by_cases e : s = spot
      · rw [if_pos e]; exact cc
      · rw [if_neg e]; exact hc2 s hs
  · exact Run.step (xiteF (eandF e1 (fls q1)) (fls q1) exs_nil) (r spot c2 h (fun k o _ e => e) o hc2)

theorem law_f {h : Hp} {files size z k1 k2 : Nat} {T : Tb} {c1 c3 : Nat → Nat} {sc : List Int} {a2 a5 a6 a7 a8 a9 a10 a11 a13 a15 a17 : Option V} (hOw : Own T size files) (hz : ZobAt h z size files T) (hg : GeoAt h 10 size files) (hk : h[0]? = some kindsO) (hsc : sc.length ≤ 32) (hs4 : h[4]? = some (.list (sc.map V.int)))
    (hf0 : files ≠ 0) (hf : files ≤ 4) (hs : size ≤ 12) (u : h[k1]? = some (LN size c1)) (hc1 : ∀ s, s < size → Cell (c1 s)) (o : h[k2]? = some (LN size c3)) (hc3 : ∀ s, s < size → Cell (c3 s)) :
    Run (Fd tab 7) b_law.tl.tl.tl.tl.tl.tl.tl.tl.tl.tl.tl.tl.tl.tl.tl.tl.tl.tl [some (.ref 4), some (N files), a2, some (N size), some (.ref 10), a5, a6, a7, a8, a9, a10, a11, some (.ref z), a13, some (.ref k1), a15, some (.ref k2), a17, none, none] h (fun v _ => v = .bool true) := by
  have hsc' : sc.length ≤ 1000 := Nat.le_trans hsc (by decide)
  have hs50 : size ≤ 50 := Nat.le_trans hs (by decide)
  have hf' : files ≤ 1000 := Nat.le_trans hf (by decide)
  obtain ⟨p1, h15, e30, K15, lp1, P15⟩ := f_law_position 4 (n := sc.getD 3 0) (bw := false) hz hg u hs50 hc1
  refine Run.step (xasn (ecall (econs (eloc rfl) (econs (eloc rfl) (econs (eloc rfl) (econs (ecall (econs (eloc rfl) (econs elit enil)) (f_law_at 6 hs4 (k := 3) hsc')) (econs elit enil))))) e30)) ?_
  have hs15 := K15 _ _ hs4
  obtain ⟨p2, h16, e31, K16, lp2, Q16⟩ := f_law_position 4 (n := sc.getD 3 0 + sc.getD 4 0) (bw := true) (hz.mono K15) (hg.mono K15) (K15 _ _ o) hs50 hc3
  refine Run.step (xasn (ecall (econs (eloc rfl) (econs (eloc rfl) (econs (eloc rfl) (econs (ebin (ecall (econs (eloc rfl) (econs elit enil)) (f_law_at 6 hs15 (k := 3) hsc')) (ecall (econs (eloc rfl) (econs elit enil)) (f_law_at 6 hs15 (k := 4) hsc')) (vop (op := .add) rfl)) (econs elit enil))))) e31)) ?_
  have K := K15.trans K16
  have P16 := P15.mono K16
  obtain ⟨fs1, i1⟩ := P16.inst
  have hne : p1 ≠ p2 := by
    obtain ⟨fs, i⟩ := P15.inst
    exact new_apart i lp2
  have ap : ∀ {fs : List (Nat × V)} {n : Nat} {g : Nat → Nat}, O.inst 4 fs ≠ LN n g := by intro _ _ _ x; cases x
  obtain ⟨h17, e17, X17, P17⟩ := f_law_told 3 (hz.mono K) (hg.mono K) P16 (K _ _ u) (K _ _ hk) hf0 hf' hs50 (imod_lt _ (by decide)) hc1 rfl
  have hz17 := (hz.mono K).monoX i1 X17
  have hg17 := (hg.mono K).monoX i1 X17
  have u17 := X17 _ _ (ne_of (K _ _ u) i1 (Ne.symm ap)) (K _ _ u)
  have o17 := X17 _ _ (ne_of (K _ _ o) i1 (Ne.symm ap)) (K _ _ o)
  have Q17 := Q16.monoX i1 (Ne.symm hne) X17
  obtain ⟨fs2, i2⟩ := Q17.inst
  obtain ⟨h18, e18, X18, Q18⟩ := f_law_told 3 hz17 hg17 Q17 o17 (X17 _ _ (ne_of (K _ _ hk) i1 (by intro x; cases x)) (K _ _ hk)) hf0 hf' hs50 (imod_lt _ (by decide)) hc3 rfl
  refine Run.step (xiteF (eorF (enot (ecall (econs (eloc rfl) (econs (eloc rfl) (econs (eloc rfl) (econs (eloc rfl) enil)))) e17) rfl) rfl (enot (ecall (econs (eloc rfl) (econs (eloc rfl) (econs (eloc rfl) (econs (eloc rfl) enil)))) e18) rfl)) rfl exs_nil) ?_
  obtain ⟨h19, e19⟩ := f_law_alike 4 hOw (hz17.monoX i2 X18) (hg17.monoX i2 X18) (P17.monoX i2 hne X18) Q18 (X18 _ _ (ne_of u17 i2 (Ne.symm ap)) u17) (X18 _ _ (ne_of o17 i2 (Ne.symm ap)) o17) hf0 hf' hs50 (imod_lt _ (by decide)) (imod_lt _ (by decide)) (imod_lt _ (by decide)) (imod_lt _ (by decide)) hc1 hc3
  exact Run.out (ecall (econs (eloc rfl) (econs (eloc rfl) (econs (eloc rfl) (econs (eloc rfl) (econs (eloc rfl) enil))))) e19) rfl

theorem law_true (xs : List Int) (hx : xs.length ≤ 63) : ∃ h', Fd tab 8 33 [.ref 3] [kindsO, sfilesO, sranksO, .ro (xs.map V.int)] = some (.bool true, h') := by
  have key : ∃ v h', Fd tab 8 33 [.ref 3] [kindsO, sfilesO, sranksO, .ro (xs.map V.int)] = some (v, h') ∧ v = .bool true := by
    refine fd_run rfl rfl ?_
    refine law_a hx fun sc files ranks size z0 seed h3 hsc hfi hsi hs3 hk3 hg3 hz3 => ?_
    refine law_b hz3 hsi.2 hfi.2 fun T z h7 w5 w6 w7 x y w10 w11 hOw hz7 K7 => ?_
    refine law_c hsc (K7 _ _ hs3) (K7 _ _ hk3) fun men km h11 hml hmc hm K11 => ?_
    have K := K7.trans K11
    refine law_d hsc (K _ _ hs3) hsi.2 hml hmc hm fun v k1 c1 k2 c2 h13 K13 o1 hc1 o2 hc2 lk n12 => ?_
    refine law_e (K13 _ _ (K _ _ hk3)) (fun q => by rw [q] at hsi; exact absurd hsi.1 (by decide)) hsi.2 o2 hc2 fun spot c3 h14 X14 o3 hc3 => ?_
    have K14 : Kp h11 h14 := fun k o e => X14 _ _ (new_apart e lk) (K13 _ _ e)
    have K := K.trans K14
    exact law_f hOw (hz7.mono (K11.trans K14)) (hg3.mono K) (K _ _ hk3) hsc (K _ _ hs3) (fun q => by rw [q] at hfi; exact absurd hfi.1 (by decide)) hfi.2 hsi.2 (X14 _ _ n12 o1) hc1 o3 hc3
  obtain ⟨v, h', e, rfl⟩ := key
  exact ⟨h', e⟩

end Mz
end

section
open PySem PySem.W PyProof.Rows
set_option Elab.async false
set_option autoImplicit false
set_option maxRecDepth 100000

set_option tactic.hygienic false
namespace Mz

theorem get_congr {h h' : Heap} {a : Addr} (e : h'.objs[a]? = h.objs[a]?) : h'.get? a = h.get? a := by
  unfold Heap.get?
  rw [e]
theorem trim_go (h : Heap) (b0 : Addr) (o0 : Obj) (e0 : h.get? b0 = some o0) : ∀ n : Nat, (∀ a : Nat, n ≤ a → h.get? a = none) → ∃ h' : Heap, (∀ a, h'.get? a = h.get? a) ∧ ∃ b o, h'.get? b = some o ∧ h'.objs.size ≤ b + 1
  | 0, hn => by rw [hn b0 (Nat.zero_le _)] at e0; cases e0
  | n + 1, hn => by
    cases e : h.get? n with
    | none =>
      refine trim_go h b0 o0 e0 n fun a ha => ?_
      rcases Nat.lt_or_ge n a with q | q
      · exact hn a q
      · obtain rfl : a = n := Nat.le_antisymm q ha
        exact e
    | some o =>
      have key : ∀ a, (Heap.mk (h.objs.extract 0 (n + 1)) h.life).get? a = h.get? a := by
        intro a
        rcases Nat.lt_or_ge a (n + 1) with q | q
        · refine get_congr ?_
          show (h.objs.extract 0 (n + 1))[a]? = _
          have hs := Heap.lt_size e
          rw [Array.getElem?_extract, if_pos (by rw [Nat.sub_zero]; exact Nat.lt_min.mpr ⟨q, Nat.lt_of_le_of_lt (Nat.le_of_lt_succ q) hs⟩), Nat.zero_add]
        · rw [hn a q]
          refine Heap.get?_none_of_le ?_
          show (h.objs.extract 0 (n + 1)).size ≤ a
          rw [Array.size_extract]
          exact Nat.le_trans (Nat.sub_le _ _) (Nat.le_trans (Nat.min_le_left _ _) q)
      refine ⟨⟨h.objs.extract 0 (n + 1), h.life⟩, key, n, o, (key n).trans e, ?_⟩
      show (h.objs.extract 0 (n + 1)).size ≤ n + 1
      rw [Array.size_extract]; omega
theorem trim {h : Heap} {b0 : Addr} {o0 : Obj} (e0 : h.get? b0 = some o0) : ∃ h' : Heap, (∀ a, h'.get? a = h.get? a) ∧ ∃ b o, h'.get? b = some o ∧ h'.objs.size ≤ b + 1 :=
  trim_go h b0 o0 e0 h.objs.size fun a ha => Heap.get?_none_of_le ha

noncomputable def intsChk : List V → List Value → Bool
  | [], [] => true
  | .int i :: r, .int j _ :: t => i == j && intsChk r t
  | _, _ => false
theorem intsChk_of {ρ : RMap} : ∀ {vs : List V} {xs : List Value}, intsChk vs xs = true → All2 (VR ρ) vs xs
  | [], [], _ => .nil
  | .int i :: r, .int j t :: u, h => by
    obtain ⟨h1, h2⟩ := and_iff.mp (show (i == j && intsChk r u) = true from h)
    obtain rfl := eq_of_beq h1
    exact .cons ⟨t, rfl⟩ (intsChk_of h2)
noncomputable def tupChk (K : Frag) (a : Addr) (vs : List V) : Bool := match K.lookup a with
  | some ⟨c, none, .seq xs n, sl⟩ => c == .type "tuple" && sl.toList.isEmpty && intsChk vs xs.toList
  | _ => false
set_option tactic.hygienic true in
theorem tupChk_of {K : Frag} {a : Addr} {vs : List V} (h : tupChk K a vs = true) : ∃ (xs : List Value) (n : Nat), K.lookup a = some { cls := .type "tuple", data := .seq xs.toArray n } ∧ ∀ ρ, All2 (VR ρ) vs xs := by
  unfold tupChk at h
  split at h
  · rename_i c xs n sl e
    simp only [Bool.and_eq_true, beq_iff_eq, List.isEmpty_iff] at h
    obtain ⟨⟨h1, h2⟩, h3⟩ := h
    refine ⟨xs.toList, n, ?_, fun ρ => intsChk_of h3⟩
    have : sl = #[] := by
      cases sl
      simp only at h2
      subst h2
      rfl
    rw [e, h1, this]
  · cases h

theorem ints_all2 {ρ : RMap} : ∀ {vs : List Value} {ns : List Int}, IntsAre vs ns → All2 (VR ρ) (ns.map V.int) vs
  | _, _, .nil => .nil
  | _, _, .cons n t h => .cons ⟨t, rfl⟩ (ints_all2 h)

theorem law_runs {w : World} {s : Shared} {mg mb : Str → Option Value} {loose : List Str} {mean : ExcName → Option Value} (KX : (KK w.params).In s.heap) (T : Top vw loose mean mg mb s.heap) {l : Addr} {vs : List Value} {ns : List Int}
    (hL : s.heap.IsList l vs.toArray) (hI : IntsAre vs ns) (hn : ns.length ≤ 63) :
    codeAny (model PySem.Challenge.rw_nt0433_01.row.prog w) callerA (.call (.ref 342) ⟨[.ref l], []⟩)
      (fun r s' => r = .ok (.ret (.bool true)) ∧ (∀ b o, s.heap.get? b = some o → s'.heap.get? b = some o) ∧ s'.os = s.os ∧ s'.gens = s.gens) s := by
  obtain ⟨ol, hol, hlc, en, hld⟩ := hL
  obtain ⟨base, hb, hlast⟩ := trim hol
  have hkeep : ∀ b o, s.heap.get? b = some o → base.get? b = some o := fun b o e => (hb b).trans e
  have hback : ∀ b o, base.get? b = some o → s.heap.get? b = some o := fun b o e => (hb b).symm.trans e
  have KB : (KK w.params).In base := KX.keeps hkeep
  have O := gi_ok (w := w) KB (T.keeps hkeep)
  have W := gi_fns (w := w) (mg := mg) (mb := mb) hlast
  obtain ⟨x0, n0, k0, r0⟩ := tupChk_of (K := KK w.params) (a := 296) (vs := [N 1, N 2, N 3, N 4, N 5, N 9, N 10, N 11, N 12, N 13]) (by kernel_rfl)
  obtain ⟨x1, n1, k1, r1⟩ := tupChk_of (K := KK w.params) (a := 175) (vs := [N 0, N 1, N 0, .int (-1), N 1, N 1, .int (-1), .int (-1)]) (by kernel_rfl)
  obtain ⟨x2, n2, k2, r2⟩ := tupChk_of (K := KK w.params) (a := 176) (vs := [N 1, N 0, .int (-1), N 0, N 1, .int (-1), .int (-1), N 1]) (by kernel_rfl)
  have g0 := KX _ _ k0
  have g1 := KX _ _ k1
  have g2 := KX _ _ k2
  have ne : ∀ {a : Addr} {xs : List Value} {n : Nat}, s.heap.get? a = some { cls := .type "tuple", data := .seq xs.toArray n } → l ≠ a := by
    intro a xs n e q
    subst q
    rw [hol] at e
    cases e
    have hlc : Value.type "tuple" = Value.type "list" := hlc
    injection hlc with hlc
    exact absurd hlc (by decide)
  have ne0 := ne g0
  have ne1 := ne g1
  have ne2 := ne g2
  have S : Sim (Gof w base mg mb) [(296, 296), (175, 175), (176, 176), (l, l)] [kindsO, sfilesO, sranksO, .ro (ns.map V.int)] s := by
    refine ⟨⟨rfl, fun k o e => ?_, fun i j p q hi hj hij => ?_⟩, fun b o e => hback b o e, ⟨[(l, l)], rfl⟩⟩
    · match k, e with
      | 0, e => obtain rfl := Option.some.inj e; exact ⟨_, rfl, rfl, x0, n0, r0 _, g0⟩
      | 1, e => obtain rfl := Option.some.inj e; exact ⟨_, rfl, rfl, x1, n1, r1 _, g1⟩
      | 2, e => obtain rfl := Option.some.inj e; exact ⟨_, rfl, rfl, x2, n2, r2 _, g2⟩
      | 3, e => obtain rfl := Option.some.inj e; exact ⟨_, rfl, rfl, vs, ints_all2 hI, ol, hol, hlc, en, hld⟩
      | m + 4, e => simp at e
    · have nd : [296, 175, 176, l].Nodup := by
        simp only [List.nodup_cons, List.mem_cons, List.not_mem_nil, or_false, not_or, not_false_eq_true, List.nodup_nil, and_true]
        exact ⟨⟨by decide, by decide, ne0.symm⟩, ⟨by decide, ne1.symm⟩, ne2.symm⟩
      have all : ∀ (i : Nat) p, ([(296, 296), (175, 175), (176, 176), (l, l)] : RMap)[i]? = some p → ([296, 175, 176, l] : List Addr)[i]? = some p.1 ∧ p.2 = p.1 := by
        intro i p e
        match i, e with
        | 0, e => obtain rfl := Option.some.inj e; exact ⟨rfl, rfl⟩
        | 1, e => obtain rfl := Option.some.inj e; exact ⟨rfl, rfl⟩
        | 2, e => obtain rfl := Option.some.inj e; exact ⟨rfl, rfl⟩
        | 3, e => obtain rfl := Option.some.inj e; exact ⟨rfl, rfl⟩
        | m + 4, e => simp at e
      obtain ⟨a1, a2⟩ := all i p hi
      obtain ⟨b1, b2⟩ := all j q hj
      have : p.1 ≠ q.1 := by
        intro e
        rw [e] at a1
        exact hij ((List.getElem?_inj (List.getElem?_eq_some_iff.mp a1).1 nd).mp (a1.trans b1.symm))
      rw [a2, b2]
      exact ⟨this, this, this, this⟩
  obtain ⟨H', hrun⟩ := law_true ns hn
  have hA : ArF callerA 8 := ⟨rfl, by decide, by decide⟩
  have hf : (Gof w base mg mb).fnA 33 = some 342 := rfl
  have run := fd_sound O W 8 33 342 [.ref 3] _ _ _ callerA _ s [.ref l] hf hrun hA S (.cons ⟨(l, l), rfl, rfl⟩ .nil)
  refine codeAny_mono run fun r s' h => ?_
  obtain ⟨x, rfl, ρ', hv, S', st⟩ := h
  have hv : x = .bool true := hv
  subst hv
  obtain ⟨h', tk, rfl⟩ := st.st
  exact ⟨rfl, fun b o e => S'.keep b o (hkeep b o e), rfl, rfl⟩

end Mz

set_option tactic.hygienic true in
end

open PySem PySem.W PyProof.Rows
set_option Elab.async false
set_option maxRecDepth 100000 in
set_option maxHeartbeats 8000000 in
theorem PySem.Challenge.cw_nt0433_01_holds : PySem.Challenge.rw_nt0433_01.Holds := by
  refine Mz.head ?_
  intro w s₀ s₁ mg mb G Y fa o pm cd doc dV kV ho hd' hcd hD hmg hg args vals as hpre hlay hrd hwl hlo
  have KX := kIn_of Y
  refine Ground.open G ?_
  intro T B D TE TW
  have h342 : mg ("law" : Str) = some (.ref 342) := mg_of KX T.g (by kernel_rfl)
  have hfa : mg ("law" : Str) = some (.ref fa) := hmg
  obtain rfl : (342 : Addr) = fa := by
    have := h342.symm.trans hfa
    cases this
    rfl
  wrow_args hpre hlay hrd hwl hlo
  refine enter_call ?_
  rename_i hL _ _ _ hI _ hlen _
  refine codeAny_mono (Mz.law_runs KX T hL hI (by omega)) fun r s' h => ?_
  obtain ⟨rfl, hk, hos, hgens⟩ := h
  refine ⟨.inl ⟨_, .bool true, [], rfl, fun _ => rfl, ReadsW.bool true, ?_, fun _ => ⟨List.nodup_nil, fun _ hm => (nomatch hm)⟩⟩, OldK.of_keep hk, hos, .of_eq (hgens.trans hg)⟩
  first | rfl | wrow_post
