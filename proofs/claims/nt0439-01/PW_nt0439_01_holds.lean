import PyProof.Rows.All
import Wide.All
import OpenK.AllK
import Wide.FinOn
import KE.KTryOn
import Lean
import PySem.Challenge.RW_nt0439_01
set_option Elab.async false
set_option linter.all false
local macro_rules | `(tactic| and_intros) => `(tactic| solve_by_elim (maxDepth := 4) [Nat.lt_of_lt_of_le, Nat.lt_of_le_of_lt, Nat.lt_trans, Nat.le_trans, Nat.le_of_lt, Nat.ne_of_lt, Nat.ne_of_gt, Ne.symm, Nat.lt_succ_of_lt, Nat.lt_succ_of_le, Nat.le_add_right, Nat.lt_add_one, Nat.le_refl, Nat.zero_le, And.intro, And.left, And.right])
section
open PySem PySem.W PySem.Calls PyProof.Rows
namespace Mine
noncomputable def topS : List Stmt := PySem.Challenge.rw_nt0439_01.row.prog.main.body
noncomputable def dName : Stmt -> Str
 | .FunctionDef n .. => n
 | _ => ""
noncomputable def dPar : Stmt -> Arguments
 | .FunctionDef _ p .. => p
 | _ => default
noncomputable def dBody : Stmt -> List Stmt
 | .FunctionDef _ _ b .. => b
 | .ClassDef _ _ _ b .. => b
 | _ => []
noncomputable def dScope : Stmt -> Scope
 | .FunctionDef _ _ _ _ _ _ s .. => s
 | _ => default
noncomputable def dS (l : List Stmt) (i : Nat) : Stmt := l.getD i default
noncomputable def fnO (s : Stmt) (q : String) (m : String) (t : Nat) (c : Addr) : Obj := { cls := .type "function", data := .func { name := dName s, qualname := Str.ofString q, params := dPar s, body := .stmts (dBody s), scope := dScope s, globals := 3, closure := [], defaults := .none, kwdefaults := .none, pyModule := .str (Str.ofString m) t, code := .ref c } }
noncomputable def de (P : Params) (s : String) (t : Nat) (v : Value) : DictEntry := ⟨PyData.keyHash P (Str.ofString s), .str (Str.ofString s) t, v⟩
noncomputable abbrev sv (s : String) (t : Nat) : Value := .str (Str.ofString s) t
noncomputable def K (P : Params) : Frag := [(2, Obj.mk .none none (Data.dict #[de P "type.__subclasses__.Exception.0" 214 (.int 31 0), de P "type.__subclasses__.Exception.n" 215 (.int 1 0)] 2) #[]),
 (3, Obj.mk (.type "dict") none (Data.dict #[de P "__name__" 165 (sv "law_nt0439_01" 629), de P "__doc__" 166 .none, de P "__package__" 167 .none, de P "__loader__" 168 (.builtin "__main__.__loader__#opaque"), de P "__spec__" 169 .none, de P "__annotations__" 170 (.ref 6), de P "__builtins__" 171 (.ref 4), de P "__file__" 173 (sv "/claim/cut.py" 172), de P "__cached__" 174 .none, de P "ChessError" 217 (.ref 31), de P "BadTable" 233 (.ref 44), de P "WHITE" 235 (.int 0 234), de P "PAWN" 237 (.int 1 236), de P "KNIGHT" 239 (.int 2 238), de P "BISHOP" 241 (.int 3 240), de P "ROOK" 243 (.int 4 242), de P "QUEEN" 245 (.int 5 244), de P "KING" 247 (.int 6 246), de P "STEP_FILES" 261 (.ref 47), de P "STEP_RANKS" 273 (.ref 48), de P "Geometry" 318 (.ref 65), de P "is_growing" 325 (.ref 76), de P "add_masks" 336 (.ref 83), de P "inner_squares" 345 (.ref 90), de P "add_rays" 359 (.ref 97), de P "add_pawns" 367 (.ref 104), de P "add_knights" 384 (.ref 111), de P "add_castles" 397 (.ref 118), de P "make_geometry" 408 (.ref 125), de P "ray_attacks" 423 (.ref 132), de P "rook_attacks" 434 (.ref 139), de P "bishop_attacks" 445 (.ref 146), de P "queen_attacks" 454 (.ref 153), de P "slider_attacks" 464 (.ref 160), de P "piece_attacks" 475 (.ref 167), de P "NOT_A_PLACE" 480 (.int (-2) 479), de P "NO_MATE" 483 (.int (-1) 482), de P "OUTSIDE" 486 (.int (-1) 485), de P "STRONG_MOVES" 488 (.int 0 487), de P "WEAK_MOVES" 490 (.int 1 489), de P "solve" 496 (.ref 172), de P "index_of" 507 (.ref 179), de P "parts_of" 515 (.ref 186), de P "mark_places" 533 (.ref 193), de P "weak_moves" 548 (.ref 200), de P "strong_moves" 565 (.ref 207), de P "moves_at" 578 (.ref 214), de P "build_zone" 605 (.ref 221), de P "build_table" 613 (.ref 228), de P "probe" 628 (.ref 235), de P "_law_ways" 653 (.ref 244), de P "_law_leaps" 678 (.ref 253), de P "_law_shapes" 684 (.ref 260), de P "_law_take" 693 (.ref 267), de P "_law_met" 710 (.ref 274), de P "_law_hits" 720 (.ref 281), de P "_law_close" 729 (.ref 288), de P "_law_stands" 743 (.ref 295), de P "_law_moves" 759 (.ref 302), de P "_law_word" 769 (.ref 309), de P "_law_mated" 780 (.ref 316), de P "_law_want" 786 (.ref 321), de P "_law_right" 792 (.ref 326), de P "_law_drawn" 798 (.ref 331), de P "_law_refused" 808 (.ref 338), de P "_law_unbuilt" 816 (.ref 345), de P "law" 822 (.ref 350)] 67) #[]),
 (15, Obj.mk (.type "tuple") none (Data.seq #[.type "Exception"]) #[]),
 (27, Obj.mk (.type "code") none (Data.fields #[sv "__init__" 201, sv "ChessError.__init__" 202, sv "/claim/cut.py" 203, .int 4 0, .int 2 0, .int 0 0, .int 0 0, .int 3 0, .ref 22, .bool true, .int 181 0, .ref 23, .none, .ref 24, .ref 25, .ref 26, .int 206 0, .int 4 0, sv "/claim/cut.py" 207]) #[]),
 (28, fnO (dS (dBody (dS topS 1)) 0) "ChessError.__init__" "chess.errors" 187 27),
 (30, Obj.mk (.type "dict") none (Data.dict #[de P "__module__" 196 (sv "chess.errors" 187), de P "__firstlineno__" 200 (.int 2 199), de P "__init__" 208 (.ref 28), de P "__static_attributes__" 210 (.ref 29), de P "__weakref__" 212 (.ref 32), de P "__doc__" 213 .none] 3) #[]),
 (31, Obj.mk (.type "type") none (Data.cls (ClassData.mk (Str.ofString "ChessError") [.type "Exception"] [.ref 31, .type "Exception", .type "BaseException", .type "object"] 30 (Str.ofString "ChessError") true [] [.ref 44] false none false)) #[some (.ref 15), none, some (sv "ChessError" 189), some (sv "ChessError" 197), some (.builtin "Exception.__new__"), some (.bool true)]),
 (32, Obj.mk (.type "getset_descriptor") none (Data.fields #[sv "__weakref__" 211, .ref 31, .builtin "ExceptionGroup.__weakref__", .none]) #[]),
 (35, Obj.mk (.type "tuple") none (Data.seq #[.ref 31]) #[]),
 (43, Obj.mk (.type "dict") none (Data.dict #[de P "__module__" 225 (sv "chess.errors" 187), de P "__firstlineno__" 229 (.int 7 228), de P "__static_attributes__" 230 (.ref 42), de P "__doc__" 231 .none] 2) #[]),
 (44, Obj.mk (.type "type") none (Data.cls (ClassData.mk (Str.ofString "BadTable") [.ref 31] [.ref 44, .ref 31, .type "Exception", .type "BaseException", .type "object"] 43 (Str.ofString "BadTable") true [] [] false none false)) #[some (.ref 35), none, some (sv "BadTable" 218), some (sv "BadTable" 226), some (.builtin "Exception.__new__"), some (.bool true)]),
 (47, Obj.mk (.type "tuple") none (Data.seq #[.int 0 250, .int 1 251, .int 0 252, .int (-1) 254, .int 1 255, .int 1 256, .int (-1) 258, .int (-1) 260]) #[]),
 (48, Obj.mk (.type "tuple") none (Data.seq #[.int 1 262, .int 0 263, .int (-1) 265, .int 0 266, .int 1 267, .int (-1) 269, .int (-1) 271, .int 1 272]) #[]),
 (61, Obj.mk (.type "code") none (Data.fields #[sv "__init__" 286, sv "Geometry.__init__" 287, sv "/claim/cut.py" 288, .int 21 0, .int 5 0, .int 0 0, .int 0 0, .int 3 0, .ref 56, .bool true, .int 181 0, .ref 57, .none, .ref 58, .ref 59, .ref 60, .int 294 0, .int 21 0, sv "/claim/cut.py" 295]) #[]),
 (62, fnO (dS (dBody (dS topS 13)) 0) "Geometry.__init__" "chess.geometry" 248 61),
 (64, Obj.mk (.type "dict") none (Data.dict #[de P "__module__" 281 (sv "chess.geometry" 248), de P "__firstlineno__" 285 (.int 19 284), de P "__init__" 296 (.ref 62), de P "__static_attributes__" 311 (.ref 63), de P "__dict__" 313 (.ref 66), de P "__weakref__" 315 (.ref 67), de P "__doc__" 316 .none] 4) #[]),
 (65, Obj.mk (.type "type") none (Data.cls (ClassData.mk (Str.ofString "Geometry") [.type "object"] [.ref 65, .type "object"] 64 (Str.ofString "Geometry") true [] [] false none false)) #[none, none, some (sv "Geometry" 274), some (sv "Geometry" 282), some (.builtin "object.__new__"), some (.bool true)]),
 (66, Obj.mk (.type "getset_descriptor") none (Data.fields #[sv "__dict__" 312, .ref 65, .builtin "function.__dict__", .builtin "function.__dict__#set"]) #[]),
 (67, Obj.mk (.type "getset_descriptor") none (Data.fields #[sv "__weakref__" 314, .ref 65, .builtin "ExceptionGroup.__weakref__", .none]) #[]),
 (75, Obj.mk (.type "code") none (Data.fields #[sv "is_growing" 319, sv "is_growing" 320, sv "/claim/cut.py" 321, .int 36 0, .int 1 0, .int 0 0, .int 0 0, .int 3 0, .ref 70, .bool true, .int 181 0, .ref 71, .none, .ref 72, .ref 73, .ref 74, .int 323 0, .int 36 0, sv "/claim/cut.py" 324]) #[]),
 (76, fnO (dS topS 14) "is_growing" "chess.geometry" 248 75),
 (82, Obj.mk (.type "code") none (Data.fields #[sv "add_masks" 326, sv "add_masks" 327, sv "/claim/cut.py" 328, .int 38 0, .int 1 0, .int 0 0, .int 0 0, .int 3 0, .ref 77, .bool true, .int 181 0, .ref 78, .none, .ref 79, .ref 80, .ref 81, .int 334 0, .int 38 0, sv "/claim/cut.py" 335]) #[]),
 (83, fnO (dS topS 15) "add_masks" "chess.geometry" 248 82),
 (89, Obj.mk (.type "code") none (Data.fields #[sv "inner_squares" 337, sv "inner_squares" 338, sv "/claim/cut.py" 339, .int 46 0, .int 2 0, .int 0 0, .int 0 0, .int 3 0, .ref 84, .bool true, .int 181 0, .ref 85, .none, .ref 86, .ref 87, .ref 88, .int 343 0, .int 46 0, sv "/claim/cut.py" 344]) #[]),
 (90, fnO (dS topS 16) "inner_squares" "chess.geometry" 248 89),
 (96, Obj.mk (.type "code") none (Data.fields #[sv "add_rays" 346, sv "add_rays" 347, sv "/claim/cut.py" 348, .int 57 0, .int 1 0, .int 0 0, .int 0 0, .int 3 0, .ref 91, .bool true, .int 181 0, .ref 92, .none, .ref 93, .ref 94, .ref 95, .int 357 0, .int 57 0, sv "/claim/cut.py" 358]) #[]),
 (97, fnO (dS topS 17) "add_rays" "chess.geometry" 248 96),
 (103, Obj.mk (.type "code") none (Data.fields #[sv "add_pawns" 360, sv "add_pawns" 361, sv "/claim/cut.py" 362, .int 72 0, .int 1 0, .int 0 0, .int 0 0, .int 3 0, .ref 98, .bool true, .int 181 0, .ref 99, .none, .ref 100, .ref 101, .ref 102, .int 365 0, .int 72 0, sv "/claim/cut.py" 366]) #[]),
 (104, fnO (dS topS 18) "add_pawns" "chess.geometry" 248 103),
 (110, Obj.mk (.type "code") none (Data.fields #[sv "add_knights" 368, sv "add_knights" 369, sv "/claim/cut.py" 370, .int 76 0, .int 1 0, .int 0 0, .int 0 0, .int 3 0, .ref 105, .bool true, .int 181 0, .ref 106, .none, .ref 107, .ref 108, .ref 109, .int 382 0, .int 76 0, sv "/claim/cut.py" 383]) #[]),
 (111, fnO (dS topS 19) "add_knights" "chess.geometry" 248 110),
 (117, Obj.mk (.type "code") none (Data.fields #[sv "add_castles" 385, sv "add_castles" 386, sv "/claim/cut.py" 387, .int 88 0, .int 1 0, .int 0 0, .int 0 0, .int 3 0, .ref 112, .bool true, .int 181 0, .ref 113, .none, .ref 114, .ref 115, .ref 116, .int 395 0, .int 88 0, sv "/claim/cut.py" 396]) #[]),
 (118, fnO (dS topS 20) "add_castles" "chess.geometry" 248 117),
 (124, Obj.mk (.type "code") none (Data.fields #[sv "make_geometry" 398, sv "make_geometry" 399, sv "/claim/cut.py" 400, .int 105 0, .int 4 0, .int 0 0, .int 0 0, .int 3 0, .ref 119, .bool true, .int 181 0, .ref 120, .none, .ref 121, .ref 122, .ref 123, .int 406 0, .int 105 0, sv "/claim/cut.py" 407]) #[]),
 (125, fnO (dS topS 21) "make_geometry" "chess.geometry" 248 124),
 (131, Obj.mk (.type "code") none (Data.fields #[sv "ray_attacks" 411, sv "ray_attacks" 412, sv "/claim/cut.py" 413, .int 116 0, .int 4 0, .int 0 0, .int 0 0, .int 3 0, .ref 126, .bool true, .int 181 0, .ref 127, .none, .ref 128, .ref 129, .ref 130, .int 421 0, .int 116 0, sv "/claim/cut.py" 422]) #[]),
 (132, fnO (dS topS 23) "ray_attacks" "chess.sliders" 409 131),
 (138, Obj.mk (.type "code") none (Data.fields #[sv "rook_attacks" 424, sv "rook_attacks" 425, sv "/claim/cut.py" 426, .int 131 0, .int 3 0, .int 0 0, .int 0 0, .int 3 0, .ref 133, .bool true, .int 181 0, .ref 134, .none, .ref 135, .ref 136, .ref 137, .int 432 0, .int 131 0, sv "/claim/cut.py" 433]) #[]),
 (139, fnO (dS topS 24) "rook_attacks" "chess.sliders" 409 138),
 (145, Obj.mk (.type "code") none (Data.fields #[sv "bishop_attacks" 435, sv "bishop_attacks" 436, sv "/claim/cut.py" 437, .int 136 0, .int 3 0, .int 0 0, .int 0 0, .int 3 0, .ref 140, .bool true, .int 181 0, .ref 141, .none, .ref 142, .ref 143, .ref 144, .int 443 0, .int 136 0, sv "/claim/cut.py" 444]) #[]),
 (146, fnO (dS topS 25) "bishop_attacks" "chess.sliders" 409 145),
 (152, Obj.mk (.type "code") none (Data.fields #[sv "queen_attacks" 446, sv "queen_attacks" 447, sv "/claim/cut.py" 448, .int 141 0, .int 3 0, .int 0 0, .int 0 0, .int 3 0, .ref 147, .bool true, .int 181 0, .ref 148, .none, .ref 149, .ref 150, .ref 151, .int 452 0, .int 141 0, sv "/claim/cut.py" 453]) #[]),
 (153, fnO (dS topS 26) "queen_attacks" "chess.sliders" 409 152),
 (159, Obj.mk (.type "code") none (Data.fields #[sv "slider_attacks" 455, sv "slider_attacks" 456, sv "/claim/cut.py" 457, .int 143 0, .int 4 0, .int 0 0, .int 0 0, .int 3 0, .ref 154, .bool true, .int 181 0, .ref 155, .none, .ref 156, .ref 157, .ref 158, .int 462 0, .int 143 0, sv "/claim/cut.py" 463]) #[]),
 (160, fnO (dS topS 27) "slider_attacks" "chess.sliders" 409 159),
 (166, Obj.mk (.type "code") none (Data.fields #[sv "piece_attacks" 465, sv "piece_attacks" 466, sv "/claim/cut.py" 467, .int 151 0, .int 5 0, .int 0 0, .int 0 0, .int 3 0, .ref 161, .bool true, .int 181 0, .ref 162, .none, .ref 163, .ref 164, .ref 165, .int 473 0, .int 151 0, sv "/claim/cut.py" 474]) #[]),
 (167, fnO (dS topS 28) "piece_attacks" "chess.sliders" 409 166),
 (171, Obj.mk (.type "code") none (Data.fields #[sv "solve" 491, sv "solve" 492, sv "/claim/cut.py" 493, .int 165 0, .int 3 0, .int 0 0, .int 0 0, .int 3 0, .ref 168, .bool true, .int 181 0, .ref 169, .none, .none, .none, .ref 170, .int 494 0, .int 165 0, sv "/claim/cut.py" 495]) #[]),
 (172, fnO (dS topS 35) "solve" "chess.retro" 476 171),
 (178, Obj.mk (.type "code") none (Data.fields #[sv "index_of" 497, sv "index_of" 498, sv "/claim/cut.py" 499, .int 188 0, .int 5 0, .int 0 0, .int 0 0, .int 3 0, .ref 173, .bool true, .int 181 0, .ref 174, .none, .ref 175, .ref 176, .ref 177, .int 505 0, .int 188 0, sv "/claim/cut.py" 506]) #[]),
 (179, fnO (dS topS 36) "index_of" "chess.retro" 476 178),
 (185, Obj.mk (.type "code") none (Data.fields #[sv "parts_of" 508, sv "parts_of" 509, sv "/claim/cut.py" 510, .int 190 0, .int 2 0, .int 0 0, .int 0 0, .int 3 0, .ref 180, .bool true, .int 181 0, .ref 181, .none, .ref 182, .ref 183, .ref 184, .int 513 0, .int 190 0, sv "/claim/cut.py" 514]) #[]),
 (186, fnO (dS topS 37) "parts_of" "chess.retro" 476 185),
 (192, Obj.mk (.type "code") none (Data.fields #[sv "mark_places" 516, sv "mark_places" 517, sv "/claim/cut.py" 518, .int 192 0, .int 4 0, .int 0 0, .int 0 0, .int 3 0, .ref 187, .bool true, .int 181 0, .ref 188, .none, .ref 189, .ref 190, .ref 191, .int 531 0, .int 192 0, sv "/claim/cut.py" 532]) #[]),
 (193, fnO (dS topS 38) "mark_places" "chess.retro" 476 192),
 (199, Obj.mk (.type "code") none (Data.fields #[sv "weak_moves" 534, sv "weak_moves" 535, sv "/claim/cut.py" 536, .int 209 0, .int 5 0, .int 0 0, .int 0 0, .int 3 0, .ref 194, .bool true, .int 181 0, .ref 195, .none, .ref 196, .ref 197, .ref 198, .int 546 0, .int 209 0, sv "/claim/cut.py" 547]) #[]),
 (200, fnO (dS topS 39) "weak_moves" "chess.retro" 476 199),
 (206, Obj.mk (.type "code") none (Data.fields #[sv "strong_moves" 549, sv "strong_moves" 550, sv "/claim/cut.py" 551, .int 223 0, .int 6 0, .int 0 0, .int 0 0, .int 3 0, .ref 201, .bool true, .int 181 0, .ref 202, .none, .ref 203, .ref 204, .ref 205, .int 563 0, .int 223 0, sv "/claim/cut.py" 564]) #[]),
 (207, fnO (dS topS 40) "strong_moves" "chess.retro" 476 206),
 (213, Obj.mk (.type "code") none (Data.fields #[sv "moves_at" 566, sv "moves_at" 567, sv "/claim/cut.py" 568, .int 238 0, .int 7 0, .int 0 0, .int 0 0, .int 3 0, .ref 208, .bool true, .int 181 0, .ref 209, .none, .ref 210, .ref 211, .ref 212, .int 576 0, .int 238 0, sv "/claim/cut.py" 577]) #[]),
 (214, fnO (dS topS 41) "moves_at" "chess.retro" 476 213),
 (220, Obj.mk (.type "code") none (Data.fields #[sv "build_zone" 579, sv "build_zone" 580, sv "/claim/cut.py" 581, .int 242 0, .int 3 0, .int 0 0, .int 0 0, .int 3 0, .ref 215, .bool true, .int 181 0, .ref 216, .none, .ref 217, .ref 218, .ref 219, .int 603 0, .int 242 0, sv "/claim/cut.py" 604]) #[]),
 (221, fnO (dS topS 42) "build_zone" "chess.retro" 476 220),
 (227, Obj.mk (.type "code") none (Data.fields #[sv "build_table" 606, sv "build_table" 607, sv "/claim/cut.py" 608, .int 266 0, .int 2 0, .int 0 0, .int 0 0, .int 3 0, .ref 222, .bool true, .int 181 0, .ref 223, .none, .ref 224, .ref 225, .ref 226, .int 611 0, .int 266 0, sv "/claim/cut.py" 612]) #[]),
 (228, fnO (dS topS 43) "build_table" "chess.retro" 476 227),
 (234, Obj.mk (.type "code") none (Data.fields #[sv "probe" 614, sv "probe" 615, sv "/claim/cut.py" 616, .int 268 0, .int 7 0, .int 0 0, .int 0 0, .int 3 0, .ref 229, .bool true, .int 181 0, .ref 230, .none, .ref 231, .ref 232, .ref 233, .int 626 0, .int 268 0, sv "/claim/cut.py" 627]) #[]),
 (235, fnO (dS topS 44) "probe" "chess.retro" 476 234),
 (236, Obj.mk (.type "tuple") none (Data.seq #[.int 0 631, .int 1 632]) #[]),
 (237, Obj.mk (.type "tuple") none (Data.seq #[.int 1 633, .int 0 634]) #[]),
 (238, Obj.mk (.type "tuple") none (Data.seq #[.int 0 635, .int (-1) 637]) #[]),
 (239, Obj.mk (.type "tuple") none (Data.seq #[.int (-1) 639, .int 0 640]) #[]),
 (240, Obj.mk (.type "tuple") none (Data.seq #[.int 1 641, .int 1 642]) #[]),
 (241, Obj.mk (.type "tuple") none (Data.seq #[.int 1 643, .int (-1) 645]) #[]),
 (242, Obj.mk (.type "tuple") none (Data.seq #[.int (-1) 647, .int (-1) 649]) #[]),
 (243, Obj.mk (.type "tuple") none (Data.seq #[.int (-1) 651, .int 1 652]) #[]),
 (244, Obj.mk (.type "list") none (Data.seq #[.ref 236, .ref 237, .ref 238, .ref 239, .ref 240, .ref 241, .ref 242, .ref 243]) #[]),
 (245, Obj.mk (.type "tuple") none (Data.seq #[.int 1 654, .int 2 655]) #[]),
 (246, Obj.mk (.type "tuple") none (Data.seq #[.int 2 656, .int 1 657]) #[]),
 (247, Obj.mk (.type "tuple") none (Data.seq #[.int 2 658, .int (-1) 660]) #[]),
 (248, Obj.mk (.type "tuple") none (Data.seq #[.int 1 661, .int (-2) 663]) #[]),
 (249, Obj.mk (.type "tuple") none (Data.seq #[.int (-1) 665, .int (-2) 667]) #[]),
 (250, Obj.mk (.type "tuple") none (Data.seq #[.int (-2) 669, .int (-1) 671]) #[]),
 (251, Obj.mk (.type "tuple") none (Data.seq #[.int (-2) 673, .int 1 674]) #[]),
 (252, Obj.mk (.type "tuple") none (Data.seq #[.int (-1) 676, .int 2 677]) #[]),
 (253, Obj.mk (.type "list") none (Data.seq #[.ref 245, .ref 246, .ref 247, .ref 248, .ref 249, .ref 250, .ref 251, .ref 252]) #[]),
 (259, Obj.mk (.type "code") none (Data.fields #[sv "_law_shapes" 679, sv "_law_shapes" 680, sv "/claim/cut.py" 681, .int 283 0, .int 0 0, .int 0 0, .int 0 0, .int 3 0, .ref 254, .bool true, .int 181 0, .ref 255, .none, .ref 256, .ref 257, .ref 258, .int 682 0, .int 283 0, sv "/claim/cut.py" 683]) #[]),
 (260, fnO (dS topS 48) "_law_shapes" "law_nt0439_01" 629 259),
 (266, Obj.mk (.type "code") none (Data.fields #[sv "_law_take" 685, sv "_law_take" 686, sv "/claim/cut.py" 687, .int 285 0, .int 2 0, .int 0 0, .int 0 0, .int 3 0, .ref 261, .bool true, .int 181 0, .ref 262, .none, .ref 263, .ref 264, .ref 265, .int 691 0, .int 285 0, sv "/claim/cut.py" 692]) #[]),
 (267, fnO (dS topS 49) "_law_take" "law_nt0439_01" 629 266),
 (273, Obj.mk (.type "code") none (Data.fields #[sv "_law_met" 694, sv "_law_met" 695, sv "/claim/cut.py" 696, .int 291 0, .int 5 0, .int 0 0, .int 0 0, .int 3 0, .ref 268, .bool true, .int 181 0, .ref 269, .none, .ref 270, .ref 271, .ref 272, .int 708 0, .int 291 0, sv "/claim/cut.py" 709]) #[]),
 (274, fnO (dS topS 50) "_law_met" "law_nt0439_01" 629 273),
 (280, Obj.mk (.type "code") none (Data.fields #[sv "_law_hits" 711, sv "_law_hits" 712, sv "/claim/cut.py" 713, .int 305 0, .int 4 0, .int 0 0, .int 0 0, .int 3 0, .ref 275, .bool true, .int 181 0, .ref 276, .none, .ref 277, .ref 278, .ref 279, .int 718 0, .int 305 0, sv "/claim/cut.py" 719]) #[]),
 (281, fnO (dS topS 51) "_law_hits" "law_nt0439_01" 629 280),
 (287, Obj.mk (.type "code") none (Data.fields #[sv "_law_close" 721, sv "_law_close" 722, sv "/claim/cut.py" 723, .int 313 0, .int 3 0, .int 0 0, .int 0 0, .int 3 0, .ref 282, .bool true, .int 181 0, .ref 283, .none, .ref 284, .ref 285, .ref 286, .int 727 0, .int 313 0, sv "/claim/cut.py" 728]) #[]),
 (288, fnO (dS topS 52) "_law_close" "law_nt0439_01" 629 287),
 (294, Obj.mk (.type "code") none (Data.fields #[sv "_law_stands" 730, sv "_law_stands" 731, sv "/claim/cut.py" 732, .int 315 0, .int 4 0, .int 0 0, .int 0 0, .int 3 0, .ref 289, .bool true, .int 181 0, .ref 290, .none, .ref 291, .ref 292, .ref 293, .int 741 0, .int 315 0, sv "/claim/cut.py" 742]) #[]),
 (295, fnO (dS topS 53) "_law_stands" "law_nt0439_01" 629 294),
 (301, Obj.mk (.type "code") none (Data.fields #[sv "_law_moves" 744, sv "_law_moves" 745, sv "/claim/cut.py" 746, .int 320 0, .int 4 0, .int 0 0, .int 0 0, .int 3 0, .ref 296, .bool true, .int 181 0, .ref 297, .none, .ref 298, .ref 299, .ref 300, .int 757 0, .int 320 0, sv "/claim/cut.py" 758]) #[]),
 (302, fnO (dS topS 54) "_law_moves" "law_nt0439_01" 629 301),
 (308, Obj.mk (.type "code") none (Data.fields #[sv "_law_word" 760, sv "_law_word" 761, sv "/claim/cut.py" 762, .int 337 0, .int 4 0, .int 0 0, .int 0 0, .int 3 0, .ref 303, .bool true, .int 181 0, .ref 304, .none, .ref 305, .ref 306, .ref 307, .int 767 0, .int 337 0, sv "/claim/cut.py" 768]) #[]),
 (309, fnO (dS topS 55) "_law_word" "law_nt0439_01" 629 308),
 (315, Obj.mk (.type "code") none (Data.fields #[sv "_law_mated" 770, sv "_law_mated" 771, sv "/claim/cut.py" 772, .int 341 0, .int 5 0, .int 0 0, .int 0 0, .int 3 0, .ref 310, .bool true, .int 181 0, .ref 311, .none, .ref 312, .ref 313, .ref 314, .int 778 0, .int 341 0, sv "/claim/cut.py" 779]) #[]),
 (316, fnO (dS topS 56) "_law_mated" "law_nt0439_01" 629 315),
 (320, Obj.mk (.type "code") none (Data.fields #[sv "_law_want" 781, sv "_law_want" 782, sv "/claim/cut.py" 783, .int 343 0, .int 6 0, .int 0 0, .int 0 0, .int 3 0, .ref 317, .bool true, .int 181 0, .ref 318, .none, .none, .none, .ref 319, .int 784 0, .int 343 0, sv "/claim/cut.py" 785]) #[]),
 (321, fnO (dS topS 57) "_law_want" "law_nt0439_01" 629 320),
 (325, Obj.mk (.type "code") none (Data.fields #[sv "_law_right" 787, sv "_law_right" 788, sv "/claim/cut.py" 789, .int 352 0, .int 6 0, .int 0 0, .int 0 0, .int 3 0, .ref 322, .bool true, .int 181 0, .ref 323, .none, .none, .none, .ref 324, .int 790 0, .int 352 0, sv "/claim/cut.py" 791]) #[]),
 (326, fnO (dS topS 58) "_law_right" "law_nt0439_01" 629 325),
 (330, Obj.mk (.type "code") none (Data.fields #[sv "_law_drawn" 793, sv "_law_drawn" 794, sv "/claim/cut.py" 795, .int 359 0, .int 3 0, .int 0 0, .int 0 0, .int 3 0, .ref 327, .bool true, .int 181 0, .ref 328, .none, .none, .none, .ref 329, .int 796 0, .int 359 0, sv "/claim/cut.py" 797]) #[]),
 (331, fnO (dS topS 59) "_law_drawn" "law_nt0439_01" 629 330),
 (337, Obj.mk (.type "code") none (Data.fields #[sv "_law_refused" 799, sv "_law_refused" 800, sv "/claim/cut.py" 801, .int 369 0, .int 4 0, .int 0 0, .int 0 0, .int 3 0, .ref 332, .bool true, .int 181 0, .ref 333, .none, .ref 334, .ref 335, .ref 336, .int 806 0, .int 369 0, sv "/claim/cut.py" 807]) #[]),
 (338, fnO (dS topS 60) "_law_refused" "law_nt0439_01" 629 337),
 (344, Obj.mk (.type "code") none (Data.fields #[sv "_law_unbuilt" 809, sv "_law_unbuilt" 810, sv "/claim/cut.py" 811, .int 375 0, .int 2 0, .int 0 0, .int 0 0, .int 3 0, .ref 339, .bool true, .int 181 0, .ref 340, .none, .ref 341, .ref 342, .ref 343, .int 814 0, .int 375 0, sv "/claim/cut.py" 815]) #[]),
 (345, fnO (dS topS 61) "_law_unbuilt" "law_nt0439_01" 629 344),
 (349, Obj.mk (.type "code") none (Data.fields #[sv "law" 817, sv "law" 818, sv "/claim/cut.py" 819, .int 381 0, .int 1 0, .int 0 0, .int 0 0, .int 3 0, .ref 346, .bool true, .int 181 0, .ref 347, .none, .none, .none, .ref 348, .int 820 0, .int 381 0, sv "/claim/cut.py" 821]) #[]),
 (350, fnO (dS topS 62) "law" "law_nt0439_01" 629 349)]
noncomputable def asK : List Addr := [2, 3, 15, 27, 28, 30, 31, 32, 35, 43, 44, 47, 48, 61, 62, 64, 65, 66, 67, 75, 76, 82, 83, 89, 90, 96, 97, 103, 104, 110, 111, 117, 118, 124, 125, 131, 132, 138, 139, 145, 146, 152, 153, 159, 160, 166, 167, 171, 172, 178, 179, 185, 186, 192, 193, 199, 200, 206, 207, 213, 214, 220, 221, 227, 228, 234, 235, 236, 237, 238, 239, 240, 241, 242, 243, 244, 245, 246, 247, 248, 249, 250, 251, 252, 253, 259, 260, 266, 267, 273, 274, 280, 281, 287, 288, 294, 295, 301, 302, 308, 309, 315, 316, 320, 321, 325, 326, 330, 331, 337, 338, 344, 345, 349, 350]
noncomputable def view : Program := { PySem.Challenge.rw_nt0439_01.row.prog with main := { PySem.Challenge.rw_nt0439_01.row.prog.main with body := (topS.drop 1).take 9 ++ ((topS.drop 11).take 11 ++ ((topS.drop 23).take 6 ++ ((topS.drop 30).take 15 ++ topS.drop 46))) } }
theorem asK_eq (P : Params) : asK = (K P).map (·.1) := by kernel_rfl
noncomputable abbrev rwN : OpenRow := PySem.Challenge.rw_nt0439_01.row
noncomputable abbrev hk : Hook := kHook K asK asK_eq
noncomputable abbrev xt (s : Shared) : Bool := xlAt view [] s && recOk (RowW.records rwN.toRowW) s
noncomputable abbrev loose_ : List Str := [Str.ofString "_law_ways", Str.ofString "_law_leaps"]
noncomputable def runT (ok : Thread -> Bool) (st : SharedT -> Thread -> Option (SharedT × Thread)) (n : Nat) : SharedT -> Thread -> Option SharedT :=
 Nat.rec (fun _ _ => none) (fun _ go s t => bif through t then some s else bif ok t then (st s t).bind fun x => go x.1 x.2 else none) n
theorem runT_of {p : Program} {w : World} {k : Nat} {ann : Option Value} {n : Nat} : ∀ {s s' : SharedT} {t : Thread}, runT (stepOk k ann) (stepT (denote treeTable) p w) n s t = some s' -> topRun treeTable p w k ann n s.abs t = some s'.abs := by
 induction n with
 | zero => intro s s' t h; cases h
 | succ n ih =>
   intro s s' t h
   have h : (bif through t then some s else bif stepOk k ann t then (stepT (denote treeTable) p w s t).bind fun x => runT (stepOk k ann) (stepT (denote treeTable) p w) n x.1 x.2 else none) = some s' := h
   unfold topRun
   cases q : through t with
   | true => rw [q] at h; exact congrArg (Option.map SharedT.abs) h
   | false =>
     cases r : stepOk k ann t with
     | false => rw [q, r] at h; cases h
     | true =>
       rw [q, r] at h
       refine (Option.bind_eq_some_iff.mp h).elim fun x g => ?_
       dsimp only
       rw [stepT_spec g.1]
       exact ih g.2
noncomputable def bt (P : Params) : BT := (boot_heap P).objs.toList.zipIdx.foldl (fun t x => t.ins x.2 x.1) .nil
theorem bt_abs (P : Params) : absHeap (bt P) 11 {} = boot_heap P := by kernel_rfl
noncomputable def fL {α β : Type} (f : β -> (β -> α) -> α) (l : List β) : (List β -> α) -> α := List.rec (fun k => k []) (fun x _ go k => f x fun x => go fun r => k (x :: r)) l
theorem fL_eq {α β : Type} {f : β -> (β -> α) -> α} (h : ∀ x k, f x k = k x) (l : List β) : ∀ k, fL f l k = k l := by
 induction l with
 | nil => intro k; rfl
 | cons x r ih => intro k; exact (h x _).trans (ih _)
noncomputable def fO {α : Type} (o : Obj) (k : Obj -> α) : α := match o with
 | ⟨c, d, .dict es ep, sl⟩ => fL (fun e k => match e with | ⟨h, a, v⟩ => k ⟨h, a, v⟩) es.toList fun l => k ⟨c, d, .dict ⟨l⟩ ep, sl⟩
 | ⟨c, d, dt, sl⟩ => k ⟨c, d, dt, sl⟩
theorem fO_eq {α : Type} (o : Obj) (k : Obj -> α) : fO o k = k o := by
 unfold fO
 split
 · exact fL_eq (fun _ _ => rfl) _ _
 · rfl
noncomputable abbrev s0 (P : Params) (os : OsState) : Shared := ⟨boot_heap P, #[], boot_drawn, boot_toks, os⟩
noncomputable abbrev ann0 (P : Params) : Option Value := (boot_heap P).nsMap mainGlobals (Str.ofString "__annotations__")
noncomputable def run0 {α : Type} (w : World) (os : OsState) (f : Shared -> α) : Option α :=
 (runT (Fast.tw6613529449190102663 11 (ann0 w.params)) (Fast.tw10156331382660048174 (Fast.tw11892475500146522536 Fast.tw14364793385576792824) rwN.prog w) 4830 ⟨bt w.params, 11, {}, #[], boot_drawn, boot_toks, os⟩ (topStub rwN.prog)).map fun s => fL fO (s.tree.list s.n) fun l => f ⟨⟨⟨l⟩, s.life⟩, s.gens, s.drawn, s.toks, s.os⟩
theorem run0_of {α : Type} {w : World} {os : OsState} {f : Shared -> α} {a : α} (h : run0 w os f = some a) : ∃ s, topRun treeTable rwN.prog w 11 (ann0 w.params) 4830 (s0 w.params os) (topStub rwN.prog) = some s /\ f s = a := by
 unfold run0 at h
 rw [<- Fast.te6613529449190102663, <- Fast.te10156331382660048174, <- Fast.te11892475500146522536, <- Fast.te14364793385576792824] at h
 refine (Option.map_eq_some_iff.mp h).elim fun x g => ⟨x.abs, ?_, (fL_eq fO_eq _ _).symm.trans g.2⟩
 have r := runT_of g.1
 unfold SharedT.abs at r
 rw [bt_abs] at r
 exact r
noncomputable abbrev mods_ : List Str := importedModules rwN.prog.main.body
noncomputable abbrev seen_ (s : Shared) := Fast.tw4187177175401517315 view loose_ mods_ xt true s
noncomputable abbrev cond_ (P : Params) (s : Shared) : Bool := staticsOk mods_ (boot_heap P) s.heap && namesBound rwN.prog s.heap && gensDone s && laidKept (boot_heap P) s.heap
theorem run1 (w : World) (os : OsState) : run0 w os (fun s => (cond_ w.params s, (seen_ s).1, Hook.obs hk s)) = some (true, expectedOf view, Hook.val hk w) := by kernel_rfl
theorem run2 (w : World) (os : OsState) : run0 w os (fun s => ((seen_ s).2.1, (seen_ s).2.2.1, (seen_ s).2.2.2.1, (seen_ s).2.2.2.2.1)) = some (bltViewBooted, true, true, pinGoodD (drecsOf view)) := by kernel_rfl
theorem run3 (w : World) (os : OsState) : run0 w os (fun s => ((seen_ s).2.2.2.2.2.1, (seen_ s).2.2.2.2.2.2)) = some (plainGoodE view (looseW view loose_), plainGoodD view loose_, wideGood view, clsGoodW view loose_) := by kernel_rfl
theorem shared_of {s : Shared} {a b c d} (e : (s.heap, s.gens, s.drawn, s.toks) = (a, b, c, d)) : s = ⟨a, b, c, d, s.os⟩ := by cases s; cases e; rfl
theorem ns0 (P : Params) (os : OsState) : ((s0 P os).heap.isNs mainGlobals && (s0 P os).gens.size == 0) = true := by kernel_rfl
theorem top0 {w : World} {os : OsState} {s : Shared} (r : topRun treeTable rwN.prog w 11 (ann0 w.params) 4830 (s0 w.params os) (topStub rwN.prog) = some s) (c : cond_ w.params s = true) : topFrom treeTable rwN.prog w 4830 (s0 w.params os) = some s := by
 unfold topFrom
 rw [ns0]
 dsimp only
 rw [show topRun treeTable rwN.prog w (boot_heap w.params).objs.size _ _ _ _ = some s from r]
 exact congrArg (fun b => match b with | true => some s | false => none) c
theorem left_ : LeftO rwN.prog view loose_ xt (Hook.obs hk) (Hook.val hk) 4830 := by
 intro w
 refine (Option.map_eq_some_iff.mp (boot_open (p := rwN.prog) (N := 4830) (by rfl) (by rfl) (fun _ => rfl) w)).elim fun s h => ?_
 refine (run0_of (run1 w s.os)).elim fun x g1 => (run0_of (run2 w s.os)).elim fun y g2 => (run0_of (run3 w s.os)).elim fun z g3 => ?_
 cases Option.some.inj (g1.1.symm.trans g2.1)
 cases Option.some.inj (g1.1.symm.trans g3.1)
 have a := Prod.mk.inj g1.2
 have b := Prod.mk.inj a.2
 have c := Prod.mk.inj g2.2
 have d := Prod.mk.inj c.2
 have e := Prod.mk.inj d.2
 have f := Prod.mk.inj g3.2
 unfold openEnds
 rw [h.1.trans (congrArg some (shared_of h.2)), Option.bind_some, top0 g1.1 a.1, Option.map_some, Fast.te4187177175401517315]
 exact congrArg some (Prod.ext (Prod.ext b.1 (Prod.ext c.1 (Prod.ext d.1 (Prod.ext e.1 (Prod.ext e.2 (Prod.ext f.1 f.2)))))) b.2)
noncomputable abbrev rwQ : OpenRow := Fast.tw2368527892694137696 PySem.Challenge.rw_nt0439_01
theorem sl1 : Fast.tw8377067652309620493 rwQ.prog = true := by kernel_rfl
theorem sl2 : Fast.tw8326940854005059898 { strict := !R.allR (Fast.tw5923862056798008813 rwQ.prog.main.body) (@Fast.tw3471404346716756564 Str (@instBEqOfDecidableEq Str Fast.sDec) Fast.tw17691160309236699985), foot := none, bare := R.filterR (Fast.tw13343964577679436407 rwQ.prog rwQ.prog.main.body) [⟨⟨[nat_lit 118, nat_lit 97, nat_lit 114, nat_lit 115]⟩⟩, ⟨⟨[nat_lit 100, nat_lit 105, nat_lit 114]⟩⟩, ⟨⟨[nat_lit 108, nat_lit 111, nat_lit 99, nat_lit 97, nat_lit 108, nat_lit 115]⟩⟩] } rwQ.prog.main.body = true := by kernel_rfl
theorem sl3 : Fast.tw17119622794617984870 rwQ.prog rwQ.prog.main.body (fun _ n => Fast.tw17868728402115742887 n) = true := by kernel_rfl
set_option maxHeartbeats 0 in
theorem said_law : PySem.Challenge.rw_nt0439_01.wellSaid = true := by
 refine (congrFun Fast.te9446332074065402090 _).trans ?_
 unfold Fast.tw9446332074065402090 Fast.tw17960256430627541270 Fast.tw2436336058641802641 Fast.tw12908688711261696721
 repeat' with_reducible refine look_both ?_ ?_
 all_goals first | with_reducible exact sl1 | with_reducible exact sl2 | with_reducible exact sl3 | kernel_rfl
end Mine
end
section
open PySem
namespace Mine
theorem lb {m n : Nat} (h : Nat.ble m n = true) : m <= n := Nat.le_of_ble_eq_true h
theorem pfa {α : Type _} (a b : List α) : a <+: a ++ b := List.prefix_append a b
theorem gsm {α : Type _} {l : List α} {i : Nat} {a : α} (h : l[i]? = some a) : ∃ h : i < l.length, l[i] = a := List.getElem?_eq_some_iff.mp h
theorem nn {α : Type _} {a : α} {X : Prop} (e : none = some a) : X := nomatch e
theorem nn' {α : Type _} {a : α} {X : Prop} (e : some a = none) : X := nomatch e
theorem nf {X : Prop} (e : false = true) : X := nomatch e
theorem nt {X : Prop} (e : true = false) : X := nomatch e
@[elab_as_elim] theorem so1 {α : Type _} {a b : α} {P : α -> Prop} (e : some a = some b) (h : P a) : P b := Option.some.inj e ▸ h
@[elab_as_elim] theorem so2 {α β : Type _} {a c : α} {b d : β} {P : α -> β -> Prop} (e : some (a, b) = some (c, d)) (h : P a b) : P c d := by cases e; exact h
@[elab_as_elim] theorem so3 {α β γ : Type _} {a c : α} {b d : β} {x y : γ} {P : α -> β -> γ -> Prop} (e : some (a, b, x) = some (c, d, y)) (h : P a b x) : P c d y := by cases e; exact h
theorem cps {G : Prop} (h : ∀ Q : Prop, (G -> Q) -> Q) : G := h G id
section xi
variable {X : Prop} {A B C D E F G H I J : Sort _}
section xi
variable {p q r s t u v w x y z n o : Prop}
theorem x0_2 (h : p /\ q) (f : p -> q -> X) : X := f h.1 h.2
theorem x0_3 (h : p /\ q /\ r) (f : p -> q -> r -> X) : X := f h.1 h.2.1 h.2.2
theorem x0_4 (h : p /\ q /\ r /\ s) (f : p -> q -> r -> s -> X) : X := f h.1 h.2.1 h.2.2.1 h.2.2.2
theorem x0_5 (h : p /\ q /\ r /\ s /\ t) (f : p -> q -> r -> s -> t -> X) : X := f h.1 h.2.1 h.2.2.1 h.2.2.2.1 h.2.2.2.2
theorem x0_6 (h : p /\ q /\ r /\ s /\ t /\ u) (f : p -> q -> r -> s -> t -> u -> X) : X := f h.1 h.2.1 h.2.2.1 h.2.2.2.1 h.2.2.2.2.1 h.2.2.2.2.2
theorem x0_7 (h : p /\ q /\ r /\ s /\ t /\ u /\ v) (f : p -> q -> r -> s -> t -> u -> v -> X) : X := f h.1 h.2.1 h.2.2.1 h.2.2.2.1 h.2.2.2.2.1 h.2.2.2.2.2.1 h.2.2.2.2.2.2
theorem x0_8 (h : p /\ q /\ r /\ s /\ t /\ u /\ v /\ w) (f : p -> q -> r -> s -> t -> u -> v -> w -> X) : X := f h.1 h.2.1 h.2.2.1 h.2.2.2.1 h.2.2.2.2.1 h.2.2.2.2.2.1 h.2.2.2.2.2.2.1 h.2.2.2.2.2.2.2
theorem x0_9 (h : p /\ q /\ r /\ s /\ t /\ u /\ v /\ w /\ x) (f : p -> q -> r -> s -> t -> u -> v -> w -> x -> X) : X := f h.1 h.2.1 h.2.2.1 h.2.2.2.1 h.2.2.2.2.1 h.2.2.2.2.2.1 h.2.2.2.2.2.2.1 h.2.2.2.2.2.2.2.1 h.2.2.2.2.2.2.2.2
theorem x0_10 (h : p /\ q /\ r /\ s /\ t /\ u /\ v /\ w /\ x /\ y) (f : p -> q -> r -> s -> t -> u -> v -> w -> x -> y -> X) : X := f h.1 h.2.1 h.2.2.1 h.2.2.2.1 h.2.2.2.2.1 h.2.2.2.2.2.1 h.2.2.2.2.2.2.1 h.2.2.2.2.2.2.2.1 h.2.2.2.2.2.2.2.2.1 h.2.2.2.2.2.2.2.2.2
theorem x0_11 (h : p /\ q /\ r /\ s /\ t /\ u /\ v /\ w /\ x /\ y /\ z) (f : p -> q -> r -> s -> t -> u -> v -> w -> x -> y -> z -> X) : X := f h.1 h.2.1 h.2.2.1 h.2.2.2.1 h.2.2.2.2.1 h.2.2.2.2.2.1 h.2.2.2.2.2.2.1 h.2.2.2.2.2.2.2.1 h.2.2.2.2.2.2.2.2.1 h.2.2.2.2.2.2.2.2.2.1 h.2.2.2.2.2.2.2.2.2.2
theorem x0_12 (h : p /\ q /\ r /\ s /\ t /\ u /\ v /\ w /\ x /\ y /\ z /\ n) (f : p -> q -> r -> s -> t -> u -> v -> w -> x -> y -> z -> n -> X) : X := f h.1 h.2.1 h.2.2.1 h.2.2.2.1 h.2.2.2.2.1 h.2.2.2.2.2.1 h.2.2.2.2.2.2.1 h.2.2.2.2.2.2.2.1 h.2.2.2.2.2.2.2.2.1 h.2.2.2.2.2.2.2.2.2.1 h.2.2.2.2.2.2.2.2.2.2.1 h.2.2.2.2.2.2.2.2.2.2.2
theorem x0_13 (h : p /\ q /\ r /\ s /\ t /\ u /\ v /\ w /\ x /\ y /\ z /\ n /\ o) (f : p -> q -> r -> s -> t -> u -> v -> w -> x -> y -> z -> n -> o -> X) : X := f h.1 h.2.1 h.2.2.1 h.2.2.2.1 h.2.2.2.2.1 h.2.2.2.2.2.1 h.2.2.2.2.2.2.1 h.2.2.2.2.2.2.2.1 h.2.2.2.2.2.2.2.2.1 h.2.2.2.2.2.2.2.2.2.1 h.2.2.2.2.2.2.2.2.2.2.1 h.2.2.2.2.2.2.2.2.2.2.2.1 h.2.2.2.2.2.2.2.2.2.2.2.2
end xi
section xi
variable {p q r s t : A -> Prop}
theorem x1_2 (h : ∃ a, p a /\ q a) (f : ∀ a, p a -> q a -> X) : X := h.elim fun a h => f a h.1 h.2
theorem x1_3 (h : ∃ a, p a /\ q a /\ r a) (f : ∀ a, p a -> q a -> r a -> X) : X := h.elim fun a h => f a h.1 h.2.1 h.2.2
theorem x1_4 (h : ∃ a, p a /\ q a /\ r a /\ s a) (f : ∀ a, p a -> q a -> r a -> s a -> X) : X := h.elim fun a h => f a h.1 h.2.1 h.2.2.1 h.2.2.2
theorem x1_5 (h : ∃ a, p a /\ q a /\ r a /\ s a /\ t a) (f : ∀ a, p a -> q a -> r a -> s a -> t a -> X) : X := h.elim fun a h => f a h.1 h.2.1 h.2.2.1 h.2.2.2.1 h.2.2.2.2
theorem i1_2 a (h : p a) (l : q a) : ∃ a, p a /\ q a := ⟨a, h, l⟩
theorem i1_3 a (h : p a) (l : q a) (m : r a) : ∃ a, p a /\ q a /\ r a := ⟨a, h, l, m⟩
theorem i1_4 a (h : p a) (l : q a) (m : r a) (n : s a) : ∃ a, p a /\ q a /\ r a /\ s a := ⟨a, h, l, m, n⟩
theorem i1_5 a (h : p a) (l : q a) (m : r a) (n : s a) (o : t a) : ∃ a, p a /\ q a /\ r a /\ s a /\ t a := ⟨a, h, l, m, n, o⟩
end xi
section xi
variable {p q r s t u : A -> B -> Prop}
theorem x2_1 (h : ∃ a b, p a b) (f : ∀ a b, p a b -> X) : X := h.elim fun a h => h.elim (f a)
theorem x2_2 (h : ∃ a b, p a b /\ q a b) (f : ∀ a b, p a b -> q a b -> X) : X := x2_1 h fun a b h => f a b h.1 h.2
theorem x2_3 (h : ∃ a b, p a b /\ q a b /\ r a b) (f : ∀ a b, p a b -> q a b -> r a b -> X) : X := x2_1 h fun a b h => f a b h.1 h.2.1 h.2.2
theorem x2_4 (h : ∃ a b, p a b /\ q a b /\ r a b /\ s a b) (f : ∀ a b, p a b -> q a b -> r a b -> s a b -> X) : X := x2_1 h fun a b h => f a b h.1 h.2.1 h.2.2.1 h.2.2.2
theorem x2_5 (h : ∃ a b, p a b /\ q a b /\ r a b /\ s a b /\ t a b) (f : ∀ a b, p a b -> q a b -> r a b -> s a b -> t a b -> X) : X := x2_1 h fun a b h => f a b h.1 h.2.1 h.2.2.1 h.2.2.2.1 h.2.2.2.2
theorem x2_6 (h : ∃ a b, p a b /\ q a b /\ r a b /\ s a b /\ t a b /\ u a b) (f : ∀ a b, p a b -> q a b -> r a b -> s a b -> t a b -> u a b -> X) : X := x2_1 h fun a b h => f a b h.1 h.2.1 h.2.2.1 h.2.2.2.1 h.2.2.2.2.1 h.2.2.2.2.2
theorem i2_1 a b (h : p a b) : ∃ a b, p a b := ⟨a, b, h⟩
theorem i2_2 a b (h : p a b) (l : q a b) : ∃ a b, p a b /\ q a b := ⟨a, b, h, l⟩
theorem i2_3 a b (h : p a b) (l : q a b) (m : r a b) : ∃ a b, p a b /\ q a b /\ r a b := ⟨a, b, h, l, m⟩
theorem i2_4 a b (h : p a b) (l : q a b) (m : r a b) (n : s a b) : ∃ a b, p a b /\ q a b /\ r a b /\ s a b := ⟨a, b, h, l, m, n⟩
theorem i2_5 a b (h : p a b) (l : q a b) (m : r a b) (n : s a b) (o : t a b) : ∃ a b, p a b /\ q a b /\ r a b /\ s a b /\ t a b := ⟨a, b, h, l, m, n, o⟩
theorem i2_6 a b (h : p a b) (l : q a b) (m : r a b) (n : s a b) (o : t a b) (f : u a b) : ∃ a b, p a b /\ q a b /\ r a b /\ s a b /\ t a b /\ u a b := ⟨a, b, h, l, m, n, o, f⟩
end xi
section xi
variable {p q r s t u : A -> B -> C -> Prop}
theorem x3_1 (h : ∃ a b c, p a b c) (f : ∀ a b c, p a b c -> X) : X := h.elim fun a h => x2_1 h (f a)
theorem x3_2 (h : ∃ a b c, p a b c /\ q a b c) (f : ∀ a b c, p a b c -> q a b c -> X) : X := x3_1 h fun a b c h => f a b c h.1 h.2
theorem x3_3 (h : ∃ a b c, p a b c /\ q a b c /\ r a b c) (f : ∀ a b c, p a b c -> q a b c -> r a b c -> X) : X := x3_1 h fun a b c h => f a b c h.1 h.2.1 h.2.2
theorem x3_4 (h : ∃ a b c, p a b c /\ q a b c /\ r a b c /\ s a b c) (f : ∀ a b c, p a b c -> q a b c -> r a b c -> s a b c -> X) : X := x3_1 h fun a b c h => f a b c h.1 h.2.1 h.2.2.1 h.2.2.2
theorem x3_5 (h : ∃ a b c, p a b c /\ q a b c /\ r a b c /\ s a b c /\ t a b c) (f : ∀ a b c, p a b c -> q a b c -> r a b c -> s a b c -> t a b c -> X) : X := x3_1 h fun a b c h => f a b c h.1 h.2.1 h.2.2.1 h.2.2.2.1 h.2.2.2.2
theorem x3_6 (h : ∃ a b c, p a b c /\ q a b c /\ r a b c /\ s a b c /\ t a b c /\ u a b c) (f : ∀ a b c, p a b c -> q a b c -> r a b c -> s a b c -> t a b c -> u a b c -> X) : X := x3_1 h fun a b c h => f a b c h.1 h.2.1 h.2.2.1 h.2.2.2.1 h.2.2.2.2.1 h.2.2.2.2.2
theorem i3_1 a b c (h : p a b c) : ∃ a b c, p a b c := ⟨a, b, c, h⟩
theorem i3_2 a b c (h : p a b c) (l : q a b c) : ∃ a b c, p a b c /\ q a b c := ⟨a, b, c, h, l⟩
theorem i3_3 a b c (h : p a b c) (l : q a b c) (m : r a b c) : ∃ a b c, p a b c /\ q a b c /\ r a b c := ⟨a, b, c, h, l, m⟩
theorem i3_4 a b c (h : p a b c) (l : q a b c) (m : r a b c) (n : s a b c) : ∃ a b c, p a b c /\ q a b c /\ r a b c /\ s a b c := ⟨a, b, c, h, l, m, n⟩
theorem i3_5 a b c (h : p a b c) (l : q a b c) (m : r a b c) (n : s a b c) (o : t a b c) : ∃ a b c, p a b c /\ q a b c /\ r a b c /\ s a b c /\ t a b c := ⟨a, b, c, h, l, m, n, o⟩
end xi
section xi
variable {p q r s t u : A -> B -> C -> D -> Prop}
theorem x4_1 (h : ∃ a b c d, p a b c d) (f : ∀ a b c d, p a b c d -> X) : X := h.elim fun a h => x3_1 h (f a)
theorem x4_3 (h : ∃ a b c d, p a b c d /\ q a b c d /\ r a b c d) (f : ∀ a b c d, p a b c d -> q a b c d -> r a b c d -> X) : X := x4_1 h fun a b c d h => f a b c d h.1 h.2.1 h.2.2
theorem x4_4 (h : ∃ a b c d, p a b c d /\ q a b c d /\ r a b c d /\ s a b c d) (f : ∀ a b c d, p a b c d -> q a b c d -> r a b c d -> s a b c d -> X) : X := x4_1 h fun a b c d h => f a b c d h.1 h.2.1 h.2.2.1 h.2.2.2
theorem i4_1 a b c d (h : p a b c d) : ∃ a b c d, p a b c d := ⟨a, b, c, d, h⟩
theorem i4_3 a b c d (h : p a b c d) (l : q a b c d) (m : r a b c d) : ∃ a b c d, p a b c d /\ q a b c d /\ r a b c d := ⟨a, b, c, d, h, l, m⟩
theorem i4_4 a b c d (h : p a b c d) (l : q a b c d) (m : r a b c d) (n : s a b c d) : ∃ a b c d, p a b c d /\ q a b c d /\ r a b c d /\ s a b c d := ⟨a, b, c, d, h, l, m, n⟩
theorem i4_6 a b c d (h : p a b c d) (l : q a b c d) (m : r a b c d) (n : s a b c d) (o : t a b c d) (f : u a b c d) : ∃ a b c d, p a b c d /\ q a b c d /\ r a b c d /\ s a b c d /\ t a b c d /\ u a b c d := ⟨a, b, c, d, h, l, m, n, o, f⟩
end xi
section xi
variable {p q r s t : A -> B -> C -> D -> E -> Prop}
theorem x5_1 (h : ∃ a b c d e, p a b c d e) (f : ∀ a b c d e, p a b c d e -> X) : X := h.elim fun a h => x4_1 h (f a)
theorem i5_1 a b c d e (h : p a b c d e) : ∃ a b c d e, p a b c d e := ⟨a, b, c, d, e, h⟩
theorem i5_5 a b c d e (h : p a b c d e) (l : q a b c d e) (m : r a b c d e) (n : s a b c d e) (o : t a b c d e) : ∃ a b c d e, p a b c d e /\ q a b c d e /\ r a b c d e /\ s a b c d e /\ t a b c d e := ⟨a, b, c, d, e, h, l, m, n, o⟩
end xi
section xi
variable {p : A -> B -> C -> D -> E -> F -> Prop}
theorem x6_1 (h : ∃ a b c d e g, p a b c d e g) (f : ∀ a b c d e g, p a b c d e g -> X) : X := h.elim fun a h => x5_1 h (f a)
theorem i6_1 a b c d e g (h : p a b c d e g) : ∃ a b c d e g, p a b c d e g := ⟨a, b, c, d, e, g, h⟩
end xi
section xi
variable {p : A -> B -> C -> D -> E -> F -> G -> Prop}
theorem x7_1 (h : ∃ a b c d e g h, p a b c d e g h) (f : ∀ a b c d e g h, p a b c d e g h -> X) : X := h.elim fun a h => x6_1 h (f a)
end xi
section xi
variable {p : A -> B -> C -> D -> E -> F -> G -> H -> Prop}
theorem x8_1 (h : ∃ a b c d e g h i, p a b c d e g h i) (f : ∀ a b c d e g h i, p a b c d e g h i -> X) : X := h.elim fun a h => x7_1 h (f a)
end xi
section xi
variable {p : A -> B -> C -> D -> E -> F -> G -> H -> I -> Prop}
theorem x9_1 (h : ∃ a b c d e g h i j, p a b c d e g h i j) (f : ∀ a b c d e g h i j, p a b c d e g h i j -> X) : X := h.elim fun a h => x8_1 h (f a)
end xi
section xi
variable {p : A -> B -> C -> D -> E -> F -> G -> H -> I -> J -> Prop}
theorem x10_1 (h : ∃ a b c d e g h i j k, p a b c d e g h i j k) (f : ∀ a b c d e g h i j k, p a b c d e g h i j k -> X) : X := h.elim fun a h => x9_1 h (f a)
end xi
end xi
inductive V where
 | none | bool (b : Bool) | int (i : Int) | ref (a : Nat) | gref (k : Nat)
inductive O where
 | list (xs : List V) | tup (xs : List V) | dict (kv : List (Int × V)) | inst (d : Nat) | ns (fs : List V) | range (a b c : Int)
inductive B where
 | add | sub | mul | fdiv | mod | and | or | xor | shl | shr | pow
inductive C where
 | lt | le | gt | ge | eq | ne | is_ | in_ | notin
inductive F where
 | len | range | abs | min | max | sum | list
mutual
inductive E where
 | loc (i : Nat) | lit (v : V) | bin (o : B) (a b : E) | not (a : E) | neg (a : E) | inv (a : E)
 | cmp (o : C) (a b : E) | chain (a : E) (o : C) (b : E) (p : C) (c : E) | and (a b : E) | or (a b : E)
 | idx (a i : E) | sfrom (a i : E) | sto (a i : E) | attr (a : E) (k : Nat)
 | call (f : Nat) (as : Es) | blt (f : F) (as : Es) | list (es : Es) | tup (es : Es) | dict1 (k v : E)
 | comp (caps : List Nat) (elt it : E) | compIf (caps : List Nat) (elt it cond : E) | append (a v : E)
inductive Es where
 | nil | cons (e : E) (r : Es)
end
mutual
inductive S where
 | asg (x : Nat) (e : E) | unpack (xs : List Nat) (e : E) | setIdx (a i v : E) | setAttr (a : E) (k : Nat) (v : E)
 | augLoc (x : Nat) (o : B) (e : E) | augIdx (a i : E) (o : B) (e : E) | expr (e : E)
 | ife (c : E) (t f : Ss) | for_ (x : Nat) (it : E) (b : Ss) | forT (xs : List Nat) (it : E) (b : Ss) | while (c : E) (b : Ss)
 | ret (e : E) | cont | stuck
inductive Ss where
 | nil | cons (s : S) (r : Ss)
end
inductive Fl where
 | next | cont | ret (v : V)
noncomputable abbrev Frm := List (Option V)
noncomputable abbrev Hp := List O
inductive It where
 | lst (l : V) (i : Nat) | tup (l : V) (i : Nat) | range (x step : Int) (left : Nat)
noncomputable def b1 {α γ : Type} (x : Option α) (f : α -> Option γ) : Option γ := match x with
 | some a => f a
 | none => none
noncomputable def b2 {α γ : Type} (x : Option (α × Hp)) (f : α -> Hp -> Option γ) : Option γ := match x with
 | some (a, σ) => f a σ
 | none => none
noncomputable def b3 {γ : Type} (x : Option (Fl × Frm × Hp)) (f : Fl -> Frm -> Hp -> Option γ) : Option γ := match x with
 | some (a, m, σ) => f a m σ
 | none => none
noncomputable def asInt : V -> Option Int
 | .int i => some i
 | _ => none
noncomputable def asRef : V -> Option Nat
 | .ref i => some i
 | _ => none
noncomputable def asNone : V -> Option Unit
 | .none => some ()
 | _ => none
noncomputable def getO (g : List O) (σ : Hp) : V -> Option O
 | .ref a => σ[a]?
 | .gref k => g[k]?
 | _ => none
noncomputable def tupOf (g : List O) (σ : Hp) (v : V) : Option (List V) := match getO g σ v with
 | some (.tup xs) => some xs
 | _ => none
noncomputable def listOf (g : List O) (σ : Hp) (v : V) : Option (List V) := match getO g σ v with
 | some (.list xs) => some xs
 | _ => none
noncomputable def intsOf : List V -> Option (List Int)
 | [] => some []
 | .int i :: r => (intsOf r).map (i :: ·)
 | _ => none
noncomputable def intsAt (g : List O) (σ : Hp) (v : V) : Option (List Int) := b1 (listOf g σ v) intsOf
noncomputable def arith : B -> Int -> Int -> Option Int
 | .add, a, b => some (a + b)
 | .sub, a, b => some (a - b)
 | .mul, a, b => if a.natAbs < 2 ^ 64 /\ b.natAbs < 2 ^ 64 then some (a * b) else none
 | .fdiv, a, b => if b ≠ 0 /\ b.natAbs < 2 ^ 30 then some (a.fdiv b) else none
 | .mod, a, b => if b ≠ 0 then some (a.fmod b) else none
 | .and, a, b => some (Builtin.bitAnd a b)
 | .or, a, b => some (Builtin.bitOr a b)
 | .xor, a, b => some (Builtin.bitXor a b)
 | .shl, a, b => if 0 <= b /\ b <= 1000 /\ a.natAbs < 2 ^ 64 then some (a * 2 ^ b.toNat) else none
 | .shr, a, b => if 0 <= b /\ b <= 1000 then some (a.fdiv (2 ^ b.toNat)) else none
 | .pow, a, b => if 0 <= b /\ b <= 1000 /\ a.natAbs < 2 ^ 64 then some (a ^ b.toNat) else none
noncomputable def onInts {α : Type} (x y : V) (f : Int -> Int -> α) (z : α) : α := match x with
 | .int a => match y with
   | .int b => f a b
   | _ => z
 | _ => z
noncomputable def repV (g : List O) (x y : V) (σ : Hp) : Option (V × Hp) := b1 (listOf g σ x) fun l => match l with
 | [v] => b1 (asInt y) fun n => if 0 <= n /\ n <= 100000 then some (.ref σ.length, σ ++ [.list (List.replicate n.toNat v)]) else none
 | _ => none
noncomputable def catV (g : List O) (x y : V) (σ : Hp) : Option (V × Hp) := b1 (tupOf g σ x) fun xs => b1 (tupOf g σ y) fun ys =>
 if (0 < xs.length /\ 0 < ys.length) /\ xs.length + ys.length < 1000 then some (.ref σ.length, σ ++ [.tup (xs ++ ys)]) else none
noncomputable def binop (g : List O) (o : B) (x y : V) (σ : Hp) : Option (V × Hp) := onInts x y (fun a b => (arith o a b).map fun r => (.int r, σ)) (match o with
 | .mul => repV g x y σ
 | .add => catV g x y σ
 | _ => none)
noncomputable def cmpI : C -> Int -> Int -> Option Bool
 | .lt, a, b => some (decide (a < b))
 | .le, a, b => some (decide (a <= b))
 | .gt, a, b => some (decide (b < a))
 | .ge, a, b => some (decide (b <= a))
 | .eq, a, b => some (decide (a = b))
 | .ne, a, b => some (decide (a ≠ b))
 | _, _, _ => none
noncomputable def isNo : V -> Bool
 | .none => true
 | _ => false
noncomputable def cmpV (g : List O) (o : C) (x y : V) (σ : Hp) : Option Bool := onInts x y (cmpI o) (match o with
 | .is_ => b1 (asNone y) fun _ => some (isNo x)
 | .eq => b1 (listOf g σ x) fun xs => b1 (listOf g σ y) fun ys => if ys.length = 0 then some xs.isEmpty else none
 | .ne => b1 (listOf g σ x) fun xs => b1 (listOf g σ y) fun ys => if ys.length = 0 then some (!xs.isEmpty) else none
 | .in_ => b1 (asInt x) fun a => b1 (intsAt g σ y) fun l => some (decide (a ∈ l))
 | .notin => b1 (asInt x) fun a => b1 (intsAt g σ y) fun l => some (decide (a ∉ l))
 | _ => none)
noncomputable def truth : V -> Option Bool
 | .bool b => some b
 | .int i => some (decide (i ≠ 0))
 | _ => none
noncomputable def kvGet (k : Int) : List (Int × V) -> Option V
 | [] => none
 | (i, v) :: r => if i = k then some v else kvGet k r
noncomputable def kvPut (k : Int) (v : V) (l : List (Int × V)) : List (Int × V) :=
 if l.any (fun kv => kv.1 = k) then l.map (fun kv => if kv.1 = k then (kv.1, v) else kv) else l ++ [(k, v)]
noncomputable def idx (g : List O) (σ : Hp) (a i : V) : Option V := match getO g σ a, i with
 | some (.list xs), .int i => if 0 <= i /\ i < 2 ^ 62 then xs[i.toNat]? else none
 | some (.tup xs), .int i => if 0 <= i /\ i < 2 ^ 62 then xs[i.toNat]? else none
 | some (.dict kv), .int i => kvGet i kv
 | _, _ => none
noncomputable def sfrom (g : List O) (σ : Hp) (a i : V) : Option (V × Hp) := match getO g σ a, i with
 | some (.list xs), .int i => if 0 <= i /\ i <= 100 /\ xs.length <= 100000 then some (.ref σ.length, σ ++ [.list (xs.drop i.toNat)]) else none
 | some (.tup xs), .int i => if 0 < i /\ i < xs.length /\ xs.length <= 1000 then some (.ref σ.length, σ ++ [.tup (xs.drop i.toNat)]) else none
 | _, _ => none
noncomputable def sto (g : List O) (σ : Hp) (a i : V) : Option (V × Hp) := match getO g σ a, i with
 | some (.list xs), .int i => if 0 <= i /\ i <= 100 /\ xs.length <= 100000 then some (.ref σ.length, σ ++ [.list (xs.take i.toNat)]) else none
 | _, _ => none
noncomputable def attr (σ : Hp) (a : V) (k : Nat) : Option V := match a with
 | .ref a => match σ[a]? with
   | some (.inst d) => match σ[d]? with
     | some (.ns fs) => fs[k]?
     | _ => none
   | _ => none
 | _ => none
noncomputable def rangeLen (a b c : Int) : Nat := if c = 1 then (b - a).toNat else (a - b).toNat
noncomputable def rangeInts (x step : Int) : Nat -> List V
 | 0 => []
 | n + 1 => .int x :: rangeInts (x + step) step n
noncomputable def minI : Int -> List Int -> Int
 | m, [] => m
 | m, x :: r => minI (if x < m then x else m) r
noncomputable def maxI : Int -> List Int -> Int
 | m, [] => m
 | m, x :: r => maxI (if m < x then x else m) r
noncomputable def mkRange (a b c : Int) (σ : Hp) : Option (V × Hp) :=
 if a.natAbs < 100000 /\ b.natAbs < 100000 /\ (c = 1 \/ c = -1) then some (.ref σ.length, σ ++ [.range a b c]) else none
noncomputable def iter (g : List O) (σ : Hp) (v : V) : Option It := match getO g σ v with
 | some (.list _) => some (.lst v 0)
 | some (.tup _) => some (.tup v 0)
 | some (.range a b c) => some (.range a c (rangeLen a b c))
 | _ => none
noncomputable def iterL (g : List O) (σ : Hp) (v : V) : Option It := match getO g σ v with
 | some (.list _) => some (.lst v 0)
 | _ => none
noncomputable def next (g : List O) (σ : Hp) : It -> Option (Option (V × It))
 | .lst l i => match listOf g σ l with
   | some xs => match xs[i]? with
     | some x => some (some (x, .lst l (i + 1)))
     | none => some none
   | none => none
 | .tup l i => match tupOf g σ l with
   | some xs => match xs[i]? with
     | some x => some (some (x, .tup l (i + 1)))
     | none => some none
   | none => none
 | .range x step left => match left with
   | 0 => some none
   | n + 1 => some (some (.int x, .range (x + step) step n))
noncomputable def setAll : List Nat -> List V -> Frm -> Option Frm
 | [], [], m => some m
 | x :: xs, v :: vs, m => if x < m.length then setAll xs vs (m.set x (some v)) else none
 | _, _, _ => none
noncomputable def unpackTo (g : List O) (xs : List Nat) (v : V) (m : Frm) (σ : Hp) : Option Frm := match getO g σ v with
 | some (.tup vs) => setAll xs vs m
 | _ => none
noncomputable def loopFuel : Nat := 1000000
noncomputable def listAt? (σ : Hp) (l : Nat) : Option (List V) := match σ[l]? with
 | some (.list xs) => some xs
 | _ => none
noncomputable def slot? (m : Frm) (i : Nat) : Option V := match m[i]? with
 | some (some v) => some v
 | _ => none
noncomputable def capsOf (m : Frm) : List Nat -> Option (List V)
 | [] => some []
 | c :: r => b1 (slot? m c) fun v => b1 (capsOf m r) fun vs => some (v :: vs)
noncomputable def push? (σ : Hp) (l : Nat) (x : V) : Option Hp := b1 (listAt? σ l) fun xs => if xs.length < 100000 then some (σ.set l (.list (xs ++ [x]))) else none
noncomputable def compLoop (g : List O) (elt : Frm -> Hp -> Option (V × Hp)) (cond : Frm -> Hp -> Option (V × Hp)) (base : List V) (acc : Nat) : Nat -> It -> Hp -> Option Hp
 | 0, _, _ => none
 | n + 1, it, σ => b1 (next g σ it) fun r => match r with
   | none => some σ
   | some (v, it') => b2 (cond ((base ++ [v]).map some) σ) fun c σ => b1 (truth c) fun t => if t then
    b2 (elt ((base ++ [v]).map some) σ) fun x σ => b1 (push? σ acc x) fun σ => compLoop g elt cond base acc n it' σ
     else compLoop g elt cond base acc n it' σ
noncomputable abbrev CallF := Nat -> List V -> Hp -> Option (V × Hp)
noncomputable def minO : List Int -> Option Int
 | [] => none
 | x :: r => some (minI x r)
noncomputable def maxO : List Int -> Option Int
 | [] => none
 | x :: r => some (maxI x r)
noncomputable def oneV (vs : List V) (k : V -> Option (V × Hp)) : Option (V × Hp) := match vs with
 | [v] => k v
 | _ => none
noncomputable def ranges (l : List Int) (σ : Hp) : Option (V × Hp) := match l with
 | [b] => mkRange 0 b 1 σ
 | [a, b] => mkRange a b 1 σ
 | [a, b, c] => mkRange a b c σ
 | _ => none
noncomputable def rangeIn : O -> Option (Int × Int × Int)
 | .range a b c => some (a, b, c)
 | _ => none
noncomputable def blt (g : List O) (f : F) (vs : List V) (σ : Hp) : Option (V × Hp) := match f with
 | .len => oneV vs fun v => b1 (listOf g σ v) fun xs => if xs.length < 1000000 then some (.int xs.length, σ) else none
 | .range => b1 (intsOf vs) fun l => ranges l σ
 | .abs => oneV vs fun v => b1 (asInt v) fun a => some (.int (if a < 0 then -a else a), σ)
 | .min => oneV vs fun v => b1 (intsAt g σ v) fun l => b1 (minO l) fun x => some (.int x, σ)
 | .max => oneV vs fun v => b1 (intsAt g σ v) fun l => b1 (maxO l) fun x => some (.int x, σ)
 | .sum => oneV vs fun v => b1 (intsAt g σ v) fun l => some (.int l.sum, σ)
 | .list => oneV vs fun v => b1 (getO g σ v) fun o => b1 (rangeIn o) fun r => some (.ref σ.length, σ ++ [.list (rangeInts r.1 r.2.2 (rangeLen r.1 r.2.1 r.2.2))])
mutual
noncomputable def vE (g : List O) (Φ : CallF) : E -> Frm -> Hp -> Option (V × Hp)
 | .loc i => fun m σ => b1 (slot? m i) fun v => some (v, σ)
 | .lit v => fun _ σ => some (v, σ)
 | .bin o a b => fun m σ => b2 (vE g Φ a m σ) fun x σ => b2 (vE g Φ b m σ) fun y σ => binop g o x y σ
 | .not a => fun m σ => b2 (vE g Φ a m σ) fun x σ => b1 (truth x) fun b => some (.bool (!b), σ)
 | .neg a => fun m σ => b2 (vE g Φ a m σ) fun x σ => b1 (asInt x) fun i => some (.int (-i), σ)
 | .inv a => fun m σ => b2 (vE g Φ a m σ) fun x σ => b1 (asInt x) fun i => some (.int (Builtin.bitNot i), σ)
 | .cmp o a b => fun m σ => b2 (vE g Φ a m σ) fun x σ => b2 (vE g Φ b m σ) fun y σ => b1 (cmpV g o x y σ) fun r => some (.bool r, σ)
 | .chain a o b p c => fun m σ => b2 (vE g Φ a m σ) fun x σ => b2 (vE g Φ b m σ) fun y σ => b1 (cmpV g o x y σ) fun t => if t then
  b2 (vE g Φ c m σ) fun z σ => b1 (cmpV g p y z σ) fun r => some (.bool r, σ)
   else some (.bool false, σ)
 | .and a b => fun m σ => b2 (vE g Φ a m σ) fun x σ => b1 (truth x) fun t => if t then vE g Φ b m σ else some (x, σ)
 | .or a b => fun m σ => b2 (vE g Φ a m σ) fun x σ => b1 (truth x) fun t => if t then some (x, σ) else vE g Φ b m σ
 | .idx a i => fun m σ => b2 (vE g Φ a m σ) fun x σ => b2 (vE g Φ i m σ) fun y σ => b1 (idx g σ x y) fun v => some (v, σ)
 | .sfrom a i => fun m σ => b2 (vE g Φ a m σ) fun x σ => b2 (vE g Φ i m σ) fun y σ => sfrom g σ x y
 | .sto a i => fun m σ => b2 (vE g Φ a m σ) fun x σ => b2 (vE g Φ i m σ) fun y σ => sto g σ x y
 | .attr a k => fun m σ => b2 (vE g Φ a m σ) fun x σ => b1 (attr σ x k) fun v => some (v, σ)
 | .call f as => fun m σ => b2 (evalEs g Φ as m σ) fun vs σ => Φ f vs σ
 | .blt f as => fun m σ => b2 (evalEs g Φ as m σ) fun vs σ => blt g f vs σ
 | .list es => fun m σ => b2 (evalEs g Φ es m σ) fun vs σ => if vs.length < 1000 then some (.ref σ.length, σ ++ [.list vs]) else none
 | .tup es => fun m σ => b2 (evalEs g Φ es m σ) fun vs σ => if vs.length < 1000 then some (.ref σ.length, σ ++ [.tup vs]) else none
 | .dict1 k v => fun m σ => b2 (vE g Φ k m σ) fun x σ => b1 (asInt x) fun i => b2 (vE g Φ v m σ) fun y σ => some (.ref σ.length, σ ++ [.dict [(i, y)]])
 | .comp caps elt it => fun m σ => b2 (vE g Φ it m σ) fun v σ => b1 (iter g σ v) fun i => b1 (capsOf m caps) fun base =>
  b1 (compLoop g (fun m σ => vE g Φ elt m σ) (fun _ σ => some (.bool true, σ)) base σ.length loopFuel i (σ ++ [.list []])) fun σ' => some (.ref σ.length, σ')
 | .compIf caps elt it cond => fun m σ => b2 (vE g Φ it m σ) fun v σ => b1 (iter g σ v) fun i => b1 (capsOf m caps) fun base =>
  b1 (compLoop g (fun m σ => vE g Φ elt m σ) (fun m σ => vE g Φ cond m σ) base σ.length loopFuel i (σ ++ [.list []])) fun σ' => some (.ref σ.length, σ')
 | .append a v => fun m σ => b2 (vE g Φ a m σ) fun x σ => b1 (asRef x) fun l => b1 (listAt? σ l) fun _ => b2 (vE g Φ v m σ) fun y σ => b1 (push? σ l y) fun σ => some (.none, σ)
noncomputable def evalEs (g : List O) (Φ : CallF) : Es -> Frm -> Hp -> Option (List V × Hp)
 | .nil => fun _ σ => some ([], σ)
 | .cons e r => fun m σ => b2 (vE g Φ e m σ) fun x σ => b2 (evalEs g Φ r m σ) fun xs σ => some (x :: xs, σ)
end
noncomputable def setIdx (σ : Hp) (a i v : V) : Option Hp := match a, i with
 | .ref a, .int i => match σ[a]? with
   | some (.list xs) => if 0 <= i /\ i < xs.length /\ i < 2 ^ 62 then some (σ.set a (.list (xs.set i.toNat v))) else none
   | some (.dict kv) => if i.natAbs < 2 ^ 60 /\ kv.length < 100000 then some (σ.set a (.dict (kvPut i v kv))) else none
   | _ => none
 | _, _ => none
noncomputable def setAttr (σ : Hp) (a : V) (k : Nat) (v : V) : Option Hp := match a with
 | .ref a => match σ[a]? with
   | some (.inst d) => match σ[d]? with
     | some (.ns fs) => if k < fs.length then some (σ.set d (.ns (fs.set k v))) else if k = fs.length /\ k < 14 then some (σ.set d (.ns (fs ++ [v]))) else none
     | _ => none
   | _ => none
 | _ => none
noncomputable def setLoc (x : Nat) (v : V) (m : Frm) : Option Frm := if x < m.length then some (m.set x (some v)) else none
noncomputable def forLoop (g : List O) (set : V -> Frm -> Hp -> Option Frm) (body : Frm -> Hp -> Option (Fl × Frm × Hp)) : Nat -> It -> Frm -> Hp -> Option (Fl × Frm × Hp)
 | 0, _, _, _ => none
 | n + 1, it, m, σ => b1 (next g σ it) fun r => match r with
   | none => some (.next, m, σ)
   | some (v, it') => b1 (set v m σ) fun m => b3 (body m σ) fun fl m σ => match fl with
     | .ret v => some (.ret v, m, σ)
     | _ => forLoop g set body n it' m σ
noncomputable def whileLoop (cond : Frm -> Hp -> Option (V × Hp)) (body : Frm -> Hp -> Option (Fl × Frm × Hp)) : Nat -> Frm -> Hp -> Option (Fl × Frm × Hp)
 | 0, _, _ => none
 | n + 1, m, σ => b2 (cond m σ) fun c σ => b1 (truth c) fun t => if t then
     b3 (body m σ) fun fl m σ => match fl with
      | .ret v => some (.ret v, m, σ)
      | _ => whileLoop cond body n m σ
   else some (.next, m, σ)
mutual
noncomputable def execS (g : List O) (Φ : CallF) : S -> Frm -> Hp -> Option (Fl × Frm × Hp)
 | .asg x e => fun m σ => b2 (vE g Φ e m σ) fun v σ => b1 (setLoc x v m) fun m => some (.next, m, σ)
 | .unpack xs e => fun m σ => b2 (vE g Φ e m σ) fun v σ => b1 (unpackTo g xs v m σ) fun m => some (.next, m, σ)
 | .setIdx a i v => fun m σ => b2 (vE g Φ v m σ) fun v σ => b2 (vE g Φ a m σ) fun a σ => b2 (vE g Φ i m σ) fun i σ => b1 (setIdx σ a i v) fun σ => some (.next, m, σ)
 | .setAttr a k v => fun m σ => b2 (vE g Φ v m σ) fun v σ => b2 (vE g Φ a m σ) fun a σ => b1 (setAttr σ a k v) fun σ => some (.next, m, σ)
 | .augLoc x o e => fun m σ => b1 (slot? m x) fun u => b1 (asInt u) fun a => b2 (vE g Φ e m σ) fun w σ => b1 (asInt w) fun b => b1 (arith o a b) fun r => b1 (setLoc x (.int r) m) fun m => some (.next, m, σ)
 | .augIdx a i o e => fun m σ => b2 (vE g Φ a m σ) fun a σ => b2 (vE g Φ i m σ) fun i σ => b1 (idx g σ a i) fun u => b1 (asInt u) fun x =>
  b2 (vE g Φ e m σ) fun w σ => b1 (asInt w) fun y => b1 (arith o x y) fun r => b1 (setIdx σ a i (.int r)) fun σ => some (.next, m, σ)
 | .expr e => fun m σ => b2 (vE g Φ e m σ) fun v σ => b1 (asNone v) fun _ => some (.next, m, σ)
 | .ife c t f => fun m σ => b2 (vE g Φ c m σ) fun v σ => b1 (truth v) fun b => if b then execSs g Φ t m σ else execSs g Φ f m σ
 | .for_ x it b => fun m σ => b2 (vE g Φ it m σ) fun v σ => b1 (iter g σ v) fun i => forLoop g (fun v m _ => setLoc x v m) (fun m σ => execSs g Φ b m σ) loopFuel i m σ
 | .forT xs it b => fun m σ => b2 (vE g Φ it m σ) fun v σ => b1 (iterL g σ v) fun i => forLoop g (unpackTo g xs) (fun m σ => execSs g Φ b m σ) loopFuel i m σ
 | .while c b => fun m σ => whileLoop (fun m σ => vE g Φ c m σ) (fun m σ => execSs g Φ b m σ) loopFuel m σ
 | .ret e => fun m σ => b2 (vE g Φ e m σ) fun v σ => some (.ret v, m, σ)
 | .cont => fun m σ => some (.cont, m, σ)
 | .stuck => fun _ _ => none
noncomputable def execSs (g : List O) (Φ : CallF) : Ss -> Frm -> Hp -> Option (Fl × Frm × Hp)
 | .nil => fun m σ => some (.next, m, σ)
 | .cons s r => fun m σ => b3 (execS g Φ s m σ) fun fl m σ => match fl with
   | .next => execSs g Φ r m σ
   | fl => some (fl, m, σ)
end
structure Fn where
 nargs : Nat
 nloc : Nat
 body : Ss
noncomputable def runFn (g : List O) (Φ : CallF) (f : Fn) (args : List V) (σ : Hp) : Option (V × Hp) :=
 if args.length = f.nargs then b3 (execSs g Φ f.body (args.map some ++ List.replicate (f.nloc - f.nargs) none) σ) fun fl _ σ => match fl with
  | .ret v => some (v, σ)
  | .next => some (.none, σ)
  | .cont => none
 else none
theorem b1_some {α γ : Type} {a : α} {f : α -> Option γ} : b1 (some a) f = f a := rfl
theorem b2_some {α γ : Type} {a : α} {σ : Hp} {f : α -> Hp -> Option γ} : b2 (some (a, σ)) f = f a σ := rfl
theorem b3_some {γ : Type} {a : Fl} {m : Frm} {σ : Hp} {f : Fl -> Frm -> Hp -> Option γ} : b3 (some (a, m, σ)) f = f a m σ := rfl
theorem b1_inv {α γ : Type} {x : Option α} {f : α -> Option γ} {r : γ} (e : b1 x f = some r) : ∃ a, x = some a /\ f a = some r := by
 cases x with
 | none => exact nn e
 | some p => exact ⟨p, rfl, e⟩
theorem onInts_inv {α : Type} {x y : V} {f : Int -> Int -> α} {z r : α} {X : Prop} (e : onInts x y f z = r) (h : ∀ a b, x = .int a -> y = .int b -> f a b = r -> X) (k : z = r -> X) : X := by
 cases x with
 | int a => cases y with
   | int b => exact h a b rfl rfl e
   | _ => exact k e
 | _ => exact k e
theorem if_inv {α : Type} {c : Prop} [Decidable c] {x r : α} {X : Prop} (e : (if c then some x else none) = some r) (f : c -> some x = some r -> X) : X := by
 by_cases h : c
 · exact f h ((if_pos h).symm.trans e)
 · exact nn ((if_neg h).symm.trans e)
theorem tupOf_of {g : List O} {v : V} {σ : Hp} {xs : List V} (e : getO g σ v = some (.tup xs)) : tupOf g σ v = some xs := by unfold tupOf; rw [e]
theorem tupOf_inv {g : List O} {v : V} {σ : Hp} {xs : List V} (e : tupOf g σ v = some xs) : getO g σ v = some (.tup xs) := by
 unfold tupOf at e
 split at e
 · rename_i q; cases e; exact q
 · exact nn e
theorem b2_inv {α γ : Type} {x : Option (α × Hp)} {f : α -> Hp -> Option γ} {r : γ} (e : b2 x f = some r) : ∃ a σ, x = some (a, σ) /\ f a σ = some r := by
 cases x with
 | none => exact nn e
 | some p => exact i2_2 p.1 p.2 rfl e
theorem b3_inv {γ : Type} {x : Option (Fl × Frm × Hp)} {f : Fl -> Frm -> Hp -> Option γ} {r : γ} (e : b3 x f = some r) : ∃ a m σ, x = some (a, m, σ) /\ f a m σ = some r := by
 cases x with
 | none => exact nn e
 | some p => exact i3_2 p.1 p.2.1 p.2.2 rfl e
theorem asInt_inv {v : V} {i : Int} (e : asInt v = some i) : v = .int i := by cases v <;> cases e; rfl
theorem asRef_inv {v : V} {i : Nat} (e : asRef v = some i) : v = .ref i := by cases v <;> cases e; rfl
theorem asNone_inv {v : V} {u : Unit} (e : asNone v = some u) : v = .none := by cases v <;> cases e; rfl
theorem slot_inv {m : Frm} {i : Nat} {v : V} (e : slot? m i = some v) : m[i]? = some (some v) := by
 unfold slot? at e
 split at e <;> cases e
 rename_i q; exact q
theorem listAt_inv {σ : Hp} {l : Nat} {xs : List V} (e : listAt? σ l = some xs) : σ[l]? = some (.list xs) := by
 unfold listAt? at e
 split at e <;> cases e
 rename_i q; exact q
end Mine
end
section
namespace Mine
noncomputable def b_is_growing : Ss := (.cons (.ret (.or (.cmp .gt (.idx (.lit (.gref 1)) (.loc 0)) (.lit (.int 0))) (.cmp .eq (.loc 0) (.lit (.int 1)))))
 .nil)
noncomputable def f_is_growing : Fn := ⟨1, 1, b_is_growing⟩
noncomputable def b_add_masks : Ss := (.cons (.asg 1 (.bin .sub (.bin .shl (.lit (.int 1)) (.attr (.loc 0) 0)) (.lit (.int 1))))
 (.cons (.asg 2 (.lit (.int 0)))
 (.cons (.for_ 3 (.blt .range (.cons (.attr (.loc 0) 1) .nil)) (.cons (.expr (.append (.attr (.loc 0) 7) (.bin .shl (.loc 1) (.bin .mul (.loc 3) (.attr (.loc 0) 0)))))
 (.cons (.augLoc 2 .or (.bin .shl (.lit (.int 1)) (.bin .mul (.loc 3) (.attr (.loc 0) 0))))
 .nil)))
 (.cons (.for_ 4 (.blt .range (.cons (.attr (.loc 0) 0) .nil)) (.cons (.expr (.append (.attr (.loc 0) 6) (.bin .shl (.loc 2) (.loc 4))))
 .nil))
 .nil))))
noncomputable def f_add_masks : Fn := ⟨1, 5, b_add_masks⟩
noncomputable def b_inner_squares : Ss := (.cons (.asg 2 (.lit (.int 0)))
 (.cons (.ife (.cmp .gt (.idx (.lit (.gref 0)) (.loc 1)) (.lit (.int 0))) (.cons (.augLoc 2 .or (.idx (.attr (.loc 0) 6) (.bin .sub (.attr (.loc 0) 0) (.lit (.int 1)))))
 .nil) .nil)
 (.cons (.ife (.cmp .lt (.idx (.lit (.gref 0)) (.loc 1)) (.lit (.int 0))) (.cons (.augLoc 2 .or (.idx (.attr (.loc 0) 6) (.lit (.int 0))))
 .nil) .nil)
 (.cons (.ife (.cmp .gt (.idx (.lit (.gref 1)) (.loc 1)) (.lit (.int 0))) (.cons (.augLoc 2 .or (.idx (.attr (.loc 0) 7) (.bin .sub (.attr (.loc 0) 1) (.lit (.int 1)))))
 .nil) .nil)
 (.cons (.ife (.cmp .lt (.idx (.lit (.gref 1)) (.loc 1)) (.lit (.int 0))) (.cons (.augLoc 2 .or (.idx (.attr (.loc 0) 7) (.lit (.int 0))))
 .nil) .nil)
 (.cons (.ret (.bin .and (.attr (.loc 0) 3) (.inv (.loc 2))))
 .nil))))))
noncomputable def f_inner_squares : Fn := ⟨2, 3, b_inner_squares⟩
noncomputable def b_add_rays : Ss := (.cons (.setAttr (.loc 0) 9 (.bin .mul (.list (.cons (.lit (.int 0)) .nil)) (.attr (.loc 0) 2)))
 (.cons (.for_ 1 (.blt .range (.cons (.lit (.int 8)) .nil)) (.cons (.asg 2 (.call 2 (.cons (.loc 0) (.cons (.loc 1) .nil))))
 (.cons (.asg 3 (.bin .add (.bin .mul (.idx (.lit (.gref 1)) (.loc 1)) (.attr (.loc 0) 0)) (.idx (.lit (.gref 0)) (.loc 1))))
 (.cons (.asg 4 (.bin .mul (.list (.cons (.lit (.int 0)) .nil)) (.attr (.loc 0) 2)))
 (.cons (.asg 5 (.blt .range (.cons (.attr (.loc 0) 2) .nil)))
 (.cons (.ife (.call 0 (.cons (.loc 1) .nil)) (.cons (.asg 5 (.blt .range (.cons (.bin .sub (.attr (.loc 0) 2) (.lit (.int 1))) (.cons (.neg (.lit (.int 1))) (.cons (.neg (.lit (.int 1))) .nil)))))
 .nil) .nil)
 (.cons (.for_ 6 (.loc 5) (.cons (.ife (.bin .and (.bin .shr (.loc 2) (.loc 6)) (.lit (.int 1))) (.cons (.asg 7 (.bin .add (.loc 6) (.loc 3)))
 (.cons (.setIdx (.loc 4) (.loc 6) (.bin .or (.idx (.loc 4) (.loc 7)) (.bin .shl (.lit (.int 1)) (.loc 7))))
 (.cons (.augIdx (.attr (.loc 0) 9) (.loc 6) .or (.bin .shl (.lit (.int 1)) (.loc 7)))
 .nil))) .nil)
 .nil))
 (.cons (.expr (.append (.attr (.loc 0) 8) (.loc 4)))
 .nil))))))))
 .nil))
noncomputable def f_add_rays : Fn := ⟨1, 8, b_add_rays⟩
noncomputable def b_add_pawns : Ss := (.cons (.for_ 1 (.blt .range (.cons (.attr (.loc 0) 2) .nil)) (.cons (.expr (.append (.idx (.attr (.loc 0) 11) (.lit (.int 0))) (.bin .and (.idx (.attr (.loc 0) 9) (.loc 1)) (.bin .or (.idx (.idx (.attr (.loc 0) 8) (.lit (.int 4))) (.loc 1)) (.idx (.idx (.attr (.loc 0) 8) (.lit (.int 7))) (.loc 1))))))
 (.cons (.expr (.append (.idx (.attr (.loc 0) 11) (.lit (.int 1))) (.bin .and (.idx (.attr (.loc 0) 9) (.loc 1)) (.bin .or (.idx (.idx (.attr (.loc 0) 8) (.lit (.int 5))) (.loc 1)) (.idx (.idx (.attr (.loc 0) 8) (.lit (.int 6))) (.loc 1))))))
 .nil)))
 .nil)
noncomputable def f_add_pawns : Fn := ⟨1, 2, b_add_pawns⟩
noncomputable def b_add_knights : Ss := (.cons (.asg 1 (.attr (.loc 0) 0))
 (.cons (.asg 2 (.bin .and (.attr (.loc 0) 3) (.inv (.idx (.attr (.loc 0) 6) (.lit (.int 0))))))
 (.cons (.asg 3 (.bin .and (.attr (.loc 0) 3) (.inv (.idx (.attr (.loc 0) 6) (.bin .sub (.loc 1) (.lit (.int 1)))))))
 (.cons (.asg 4 (.bin .and (.loc 2) (.inv (.idx (.attr (.loc 0) 6) (.lit (.int 1))))))
 (.cons (.asg 5 (.bin .and (.loc 3) (.inv (.idx (.attr (.loc 0) 6) (.bin .sub (.loc 1) (.lit (.int 2)))))))
 (.cons (.for_ 6 (.blt .range (.cons (.attr (.loc 0) 2) .nil)) (.cons (.asg 7 (.bin .shl (.lit (.int 1)) (.loc 6)))
 (.cons (.asg 8 (.bin .or (.bin .and (.bin .shl (.loc 7) (.lit (.int 1))) (.loc 2)) (.bin .and (.bin .shr (.loc 7) (.lit (.int 1))) (.loc 3))))
 (.cons (.asg 9 (.bin .or (.bin .and (.bin .shl (.loc 7) (.lit (.int 2))) (.loc 4)) (.bin .and (.bin .shr (.loc 7) (.lit (.int 2))) (.loc 5))))
 (.cons (.asg 10 (.bin .or (.bin .or (.bin .or (.bin .shl (.loc 8) (.bin .mul (.lit (.int 2)) (.loc 1))) (.bin .shr (.loc 8) (.bin .mul (.lit (.int 2)) (.loc 1)))) (.bin .shl (.loc 9) (.loc 1))) (.bin .shr (.loc 9) (.loc 1))))
 (.cons (.expr (.append (.attr (.loc 0) 10) (.bin .and (.loc 10) (.attr (.loc 0) 3))))
 .nil))))))
 .nil))))))
noncomputable def f_add_knights : Fn := ⟨1, 11, b_add_knights⟩
noncomputable def b_add_castles : Ss := (.cons (.setAttr (.loc 0) 13 (.bin .mul (.list (.cons (.lit (.int 0)) .nil)) (.attr (.loc 0) 2)))
 (.cons (.asg 1 (.bin .fdiv (.attr (.loc 0) 0) (.lit (.int 2))))
 (.cons (.for_ 2 (.blt .range (.cons (.lit (.int 4)) .nil)) (.cons (.asg 3 (.bin .mul (.bin .mul (.bin .shr (.loc 2) (.lit (.int 1))) (.bin .sub (.attr (.loc 0) 1) (.lit (.int 1)))) (.attr (.loc 0) 0)))
 (.cons (.asg 4 (.bin .sub (.attr (.loc 0) 0) (.lit (.int 1))))
 (.cons (.asg 5 (.lit (.int 1)))
 (.cons (.ife (.bin .and (.loc 2) (.lit (.int 1))) (.cons (.asg 4 (.lit (.int 0)))
 (.cons (.asg 5 (.neg (.lit (.int 1))))
 .nil)) .nil)
 (.cons (.asg 6 (.bin .add (.loc 1) (.bin .mul (.lit (.int 2)) (.loc 5))))
 (.cons (.ife (.and (.attr (.loc 0) 5) (.cmp .gt (.bin .mul (.bin .sub (.loc 4) (.loc 6)) (.loc 5)) (.lit (.int 0)))) (.cons (.expr (.append (.attr (.loc 0) 12) (.tup (.cons (.bin .add (.loc 3) (.loc 1)) (.cons (.bin .add (.loc 3) (.loc 6)) (.cons (.bin .add (.loc 3) (.loc 4)) (.cons (.bin .sub (.bin .add (.loc 3) (.loc 6)) (.loc 5)) .nil)))))))
 (.cons (.augIdx (.attr (.loc 0) 13) (.bin .add (.loc 3) (.loc 1)) .or (.bin .shl (.lit (.int 1)) (.loc 2)))
 (.cons (.augIdx (.attr (.loc 0) 13) (.bin .add (.loc 3) (.loc 4)) .or (.bin .shl (.lit (.int 1)) (.loc 2)))
 .nil))) (.cons (.expr (.append (.attr (.loc 0) 12) (.lit .none)))
 .nil))
 .nil)))))))
 .nil)))
noncomputable def f_add_castles : Fn := ⟨1, 7, b_add_castles⟩
noncomputable def b_make_geometry : Ss := (.cons (.ife (.or (.cmp .lt (.loc 0) (.lit (.int 2))) (.or (.cmp .gt (.loc 0) (.lit (.int 8))) (.or (.cmp .lt (.loc 1) (.lit (.int 3))) (.cmp .gt (.loc 1) (.lit (.int 8)))))) (.cons .stuck
 .nil) .nil)
 (.cons (.asg 4 (.call 38 (.cons (.loc 0) (.cons (.loc 1) (.cons (.loc 2) (.cons (.loc 3) .nil))))))
 (.cons (.expr (.call 1 (.cons (.loc 4) .nil)))
 (.cons (.expr (.call 3 (.cons (.loc 4) .nil)))
 (.cons (.expr (.call 4 (.cons (.loc 4) .nil)))
 (.cons (.expr (.call 5 (.cons (.loc 4) .nil)))
 (.cons (.expr (.call 6 (.cons (.loc 4) .nil)))
 (.cons (.ret (.loc 4))
 .nil))))))))
noncomputable def f_make_geometry : Fn := ⟨4, 5, b_make_geometry⟩
noncomputable def b_ray_attacks : Ss := (.cons (.asg 4 (.idx (.idx (.attr (.loc 0) 8) (.loc 1)) (.loc 2)))
 (.cons (.asg 5 (.bin .and (.loc 4) (.loc 3)))
 (.cons (.ife (.cmp .eq (.loc 5) (.lit (.int 0))) (.cons (.ret (.loc 4))
 .nil) .nil)
 (.cons (.ife (.call 0 (.cons (.loc 1) .nil)) (.cons (.ret (.bin .and (.loc 4) (.bin .xor (.loc 5) (.bin .sub (.loc 5) (.lit (.int 1))))))
 .nil) .nil)
 (.cons (.asg 6 (.bin .shr (.loc 5) (.lit (.int 1))))
 (.cons (.augLoc 6 .or (.bin .shr (.loc 6) (.lit (.int 1))))
 (.cons (.augLoc 6 .or (.bin .shr (.loc 6) (.lit (.int 2))))
 (.cons (.augLoc 6 .or (.bin .shr (.loc 6) (.lit (.int 4))))
 (.cons (.augLoc 6 .or (.bin .shr (.loc 6) (.lit (.int 8))))
 (.cons (.augLoc 6 .or (.bin .shr (.loc 6) (.lit (.int 16))))
 (.cons (.augLoc 6 .or (.bin .shr (.loc 6) (.lit (.int 32))))
 (.cons (.ret (.bin .and (.loc 4) (.inv (.loc 6))))
 .nil))))))))))))
noncomputable def f_ray_attacks : Fn := ⟨4, 7, b_ray_attacks⟩
noncomputable def b_rook_attacks : Ss := (.cons (.asg 3 (.lit (.int 0)))
 (.cons (.for_ 4 (.blt .range (.cons (.lit (.int 4)) .nil)) (.cons (.augLoc 3 .or (.call 8 (.cons (.loc 0) (.cons (.loc 4) (.cons (.loc 1) (.cons (.loc 2) .nil))))))
 .nil))
 (.cons (.ret (.loc 3))
 .nil)))
noncomputable def f_rook_attacks : Fn := ⟨3, 5, b_rook_attacks⟩
noncomputable def b_bishop_attacks : Ss := (.cons (.asg 3 (.lit (.int 0)))
 (.cons (.for_ 4 (.blt .range (.cons (.lit (.int 4)) (.cons (.lit (.int 8)) .nil))) (.cons (.augLoc 3 .or (.call 8 (.cons (.loc 0) (.cons (.loc 4) (.cons (.loc 1) (.cons (.loc 2) .nil))))))
 .nil))
 (.cons (.ret (.loc 3))
 .nil)))
noncomputable def f_bishop_attacks : Fn := ⟨3, 5, b_bishop_attacks⟩
noncomputable def b_queen_attacks : Ss := (.cons (.ret (.bin .or (.call 9 (.cons (.loc 0) (.cons (.loc 1) (.cons (.loc 2) .nil)))) (.call 10 (.cons (.loc 0) (.cons (.loc 1) (.cons (.loc 2) .nil))))))
 .nil)
noncomputable def f_queen_attacks : Fn := ⟨3, 3, b_queen_attacks⟩
noncomputable def b_slider_attacks : Ss := (.cons (.ife (.cmp .eq (.loc 1) (.lit (.int 3))) (.cons (.ret (.call 10 (.cons (.loc 0) (.cons (.loc 2) (.cons (.loc 3) .nil)))))
 .nil) .nil)
 (.cons (.ife (.cmp .eq (.loc 1) (.lit (.int 4))) (.cons (.ret (.call 9 (.cons (.loc 0) (.cons (.loc 2) (.cons (.loc 3) .nil)))))
 .nil) .nil)
 (.cons (.ife (.cmp .eq (.loc 1) (.lit (.int 5))) (.cons (.ret (.call 11 (.cons (.loc 0) (.cons (.loc 2) (.cons (.loc 3) .nil)))))
 .nil) .nil)
 (.cons (.ret (.lit (.int 0)))
 .nil))))
noncomputable def f_slider_attacks : Fn := ⟨4, 4, b_slider_attacks⟩
noncomputable def b_piece_attacks : Ss := (.cons (.ife (.cmp .eq (.loc 2) (.lit (.int 1))) (.cons (.ret (.idx (.idx (.attr (.loc 0) 11) (.loc 1)) (.loc 3)))
 .nil) .nil)
 (.cons (.ife (.cmp .eq (.loc 2) (.lit (.int 2))) (.cons (.ret (.idx (.attr (.loc 0) 10) (.loc 3)))
 .nil) .nil)
 (.cons (.ife (.cmp .eq (.loc 2) (.lit (.int 6))) (.cons (.ret (.idx (.attr (.loc 0) 9) (.loc 3)))
 .nil) .nil)
 (.cons (.ret (.call 12 (.cons (.loc 0) (.cons (.loc 2) (.cons (.loc 3) (.cons (.loc 4) .nil))))))
 .nil))))
noncomputable def f_piece_attacks : Fn := ⟨5, 5, b_piece_attacks⟩
noncomputable def b_solve : Ss := (.cons (.asg 3 (.bin .mul (.list (.cons (.lit (.int (-1))) .nil)) (.blt .len (.cons (.loc 1) .nil))))
 (.cons (.asg 4 (.list .nil))
 (.cons (.asg 5 (.comp [] (.list .nil) (.loc 1)))
 (.cons (.asg 6 (.list .nil))
 (.cons (.for_ 7 (.blt .range (.cons (.blt .len (.cons (.loc 1) .nil)) .nil)) (.cons (.expr (.append (.loc 4) (.blt .len (.cons (.idx (.loc 1) (.loc 7)) .nil))))
 (.cons (.for_ 8 (.idx (.loc 1) (.loc 7)) (.cons (.ife (.cmp .ne (.loc 8) (.lit (.int (-1)))) (.cons (.expr (.append (.idx (.loc 5) (.loc 8)) (.loc 7)))
 .nil) .nil)
 .nil))
 (.cons (.ife (.idx (.loc 2) (.loc 7)) (.cons (.setIdx (.loc 3) (.loc 7) (.lit (.int 0)))
 (.cons (.expr (.append (.loc 6) (.loc 7)))
 .nil)) .nil)
 .nil))))
 (.cons (.asg 9 (.lit (.int 0)))
 (.cons (.while (.cmp .lt (.loc 9) (.blt .len (.cons (.loc 6) .nil))) (.cons (.asg 8 (.idx (.loc 6) (.loc 9)))
 (.cons (.augLoc 9 .add (.lit (.int 1)))
 (.cons (.for_ 7 (.idx (.loc 5) (.loc 8)) (.cons (.augIdx (.loc 4) (.loc 7) .sub (.lit (.int 1)))
 (.cons (.ife (.and (.cmp .eq (.idx (.loc 3) (.loc 7)) (.lit (.int (-1)))) (.or (.cmp .eq (.idx (.loc 0) (.loc 7)) (.lit (.int 0))) (.cmp .eq (.idx (.loc 4) (.loc 7)) (.lit (.int 0))))) (.cons (.setIdx (.loc 3) (.loc 7) (.bin .add (.idx (.loc 3) (.loc 8)) (.lit (.int 1))))
 (.cons (.expr (.append (.loc 6) (.loc 7)))
 .nil)) .nil)
 .nil)))
 .nil))))
 (.cons (.ret (.loc 3))
 .nil))))))))
noncomputable def f_solve : Fn := ⟨3, 10, b_solve⟩
noncomputable def b_index_of : Ss := (.cons (.ret (.bin .add (.bin .mul (.bin .add (.bin .mul (.bin .add (.bin .mul (.loc 1) (.loc 0)) (.loc 2)) (.loc 0)) (.loc 3)) (.loc 0)) (.loc 4)))
 .nil)
noncomputable def f_index_of : Fn := ⟨5, 5, b_index_of⟩
noncomputable def b_parts_of : Ss := (.cons (.ret (.tup (.cons (.bin .fdiv (.loc 1) (.bin .mul (.bin .mul (.loc 0) (.loc 0)) (.loc 0))) (.cons (.bin .mod (.bin .fdiv (.loc 1) (.bin .mul (.loc 0) (.loc 0))) (.loc 0)) (.cons (.bin .mod (.bin .fdiv (.loc 1) (.loc 0)) (.loc 0)) (.cons (.bin .mod (.loc 1) (.loc 0)) .nil))))))
 .nil)
noncomputable def f_parts_of : Fn := ⟨2, 2, b_parts_of⟩
noncomputable def b_mark_places : Ss := (.cons (.asg 4 (.attr (.loc 0) 2))
 (.cons (.asg 5 (.list .nil))
 (.cons (.for_ 6 (.blt .range (.cons (.loc 4) .nil)) (.cons (.for_ 7 (.blt .range (.cons (.loc 4) .nil)) (.cons (.asg 8 (.bin .and (.attr (.loc 0) 3) (.inv (.bin .or (.bin .or (.idx (.attr (.loc 0) 9) (.loc 6)) (.bin .shl (.lit (.int 1)) (.loc 6))) (.bin .shl (.lit (.int 1)) (.loc 7))))))
 (.cons (.ife (.or (.cmp .eq (.bin .and (.bin .shr (.loc 2) (.loc 6)) (.lit (.int 1))) (.lit (.int 0))) (.or (.cmp .eq (.loc 7) (.loc 6)) (.cmp .eq (.loc 8) (.lit (.int 0))))) (.cons .cont
 .nil) .nil)
 (.cons (.asg 9 (.call 13 (.cons (.loc 0) (.cons (.lit (.int 0)) (.cons (.loc 1) (.cons (.loc 7) (.cons (.bin .shl (.lit (.int 1)) (.loc 6)) .nil)))))))
 (.cons (.for_ 10 (.blt .range (.cons (.loc 4) .nil)) (.cons (.ife (.bin .and (.bin .shr (.loc 8) (.loc 10)) (.lit (.int 1))) (.cons (.expr (.append (.loc 5) (.call 15 (.cons (.loc 4) (.cons (.lit (.int 1)) (.cons (.loc 6) (.cons (.loc 7) (.cons (.loc 10) .nil))))))))
 (.cons (.ife (.cmp .eq (.bin .and (.bin .shr (.loc 9) (.loc 10)) (.lit (.int 1))) (.lit (.int 0))) (.cons (.expr (.append (.loc 5) (.call 15 (.cons (.loc 4) (.cons (.lit (.int 0)) (.cons (.loc 6) (.cons (.loc 7) (.cons (.loc 10) .nil))))))))
 .nil) .nil)
 .nil)) .nil)
 .nil))
 .nil)))))
 .nil))
 (.cons (.for_ 11 (.loc 5) (.cons (.setIdx (.loc 3) (.loc 11) (.lit (.int (-1))))
 .nil))
 (.cons (.ret (.loc 5))
 .nil)))))
noncomputable def f_mark_places : Fn := ⟨4, 12, b_mark_places⟩
noncomputable def b_weak_moves : Ss := (.cons (.asg 5 (.list .nil))
 (.cons (.asg 6 (.idx (.attr (.loc 0) 9) (.loc 4)))
 (.cons (.for_ 7 (.blt .range (.cons (.attr (.loc 0) 2) .nil)) (.cons (.ife (.cmp .eq (.bin .and (.bin .shr (.loc 6) (.loc 7)) (.lit (.int 1))) (.lit (.int 0))) (.cons .cont
 .nil) .nil)
 (.cons (.ife (.cmp .eq (.loc 7) (.loc 3)) (.cons (.ife (.cmp .eq (.bin .and (.bin .shr (.idx (.attr (.loc 0) 9) (.loc 2)) (.loc 3)) (.lit (.int 1))) (.lit (.int 0))) (.cons (.expr (.append (.loc 5) (.tup (.cons (.loc 4) (.cons (.loc 7) (.cons (.lit (.int (-1))) .nil))))))
 .nil) .nil)
 .nil) (.cons (.asg 8 (.call 15 (.cons (.attr (.loc 0) 2) (.cons (.lit (.int 0)) (.cons (.loc 2) (.cons (.loc 3) (.cons (.loc 7) .nil)))))))
 (.cons (.ife (.cmp .ne (.idx (.loc 1) (.loc 8)) (.lit (.int (-2)))) (.cons (.expr (.append (.loc 5) (.tup (.cons (.loc 4) (.cons (.loc 7) (.cons (.loc 8) .nil))))))
 .nil) .nil)
 .nil)))
 .nil)))
 (.cons (.ret (.loc 5))
 .nil))))
noncomputable def f_weak_moves : Fn := ⟨5, 9, b_weak_moves⟩
noncomputable def b_strong_moves : Ss := (.cons (.asg 6 (.list .nil))
 (.cons (.asg 7 (.idx (.attr (.loc 0) 9) (.loc 3)))
 (.cons (.asg 8 (.call 13 (.cons (.loc 0) (.cons (.lit (.int 0)) (.cons (.loc 2) (.cons (.loc 4) (.cons (.bin .or (.bin .shl (.lit (.int 1)) (.loc 3)) (.bin .shl (.lit (.int 1)) (.loc 5))) .nil)))))))
 (.cons (.for_ 9 (.blt .range (.cons (.attr (.loc 0) 2) .nil)) (.cons (.ife (.bin .and (.bin .shr (.loc 7) (.loc 9)) (.lit (.int 1))) (.cons (.asg 10 (.call 15 (.cons (.attr (.loc 0) 2) (.cons (.lit (.int 1)) (.cons (.loc 9) (.cons (.loc 4) (.cons (.loc 5) .nil)))))))
 (.cons (.ife (.cmp .ne (.idx (.loc 1) (.loc 10)) (.lit (.int (-2)))) (.cons (.expr (.append (.loc 6) (.tup (.cons (.loc 3) (.cons (.loc 9) (.cons (.loc 10) .nil))))))
 .nil) .nil)
 .nil)) .nil)
 .nil))
 (.cons (.for_ 9 (.blt .range (.cons (.attr (.loc 0) 2) .nil)) (.cons (.ife (.bin .and (.bin .shr (.loc 8) (.loc 9)) (.lit (.int 1))) (.cons (.asg 10 (.call 15 (.cons (.attr (.loc 0) 2) (.cons (.lit (.int 1)) (.cons (.loc 3) (.cons (.loc 9) (.cons (.loc 5) .nil)))))))
 (.cons (.ife (.cmp .ne (.idx (.loc 1) (.loc 10)) (.lit (.int (-2)))) (.cons (.expr (.append (.loc 6) (.tup (.cons (.loc 4) (.cons (.loc 9) (.cons (.loc 10) .nil))))))
 .nil) .nil)
 .nil)) .nil)
 .nil))
 (.cons (.ret (.loc 6))
 .nil))))))
noncomputable def f_strong_moves : Fn := ⟨6, 11, b_strong_moves⟩
noncomputable def b_moves_at : Ss := (.cons (.ife (.cmp .eq (.loc 3) (.lit (.int 1))) (.cons (.ret (.call 18 (.cons (.loc 0) (.cons (.loc 1) (.cons (.loc 4) (.cons (.loc 5) (.cons (.loc 6) .nil)))))))
 .nil) .nil)
 (.cons (.ret (.call 19 (.cons (.loc 0) (.cons (.loc 1) (.cons (.loc 2) (.cons (.loc 4) (.cons (.loc 5) (.cons (.loc 6) .nil))))))))
 .nil))
noncomputable def f_moves_at : Fn := ⟨7, 7, b_moves_at⟩
noncomputable def b_build_zone : Ss := (.cons (.ife (.or (.cmp .lt (.loc 1) (.lit (.int 2))) (.cmp .gt (.loc 1) (.lit (.int 5)))) (.cons .stuck
 .nil) .nil)
 (.cons (.asg 3 (.bin .mul (.bin .mul (.attr (.loc 0) 2) (.attr (.loc 0) 2)) (.attr (.loc 0) 2)))
 (.cons (.asg 4 (.bin .mul (.list (.cons (.lit (.int (-2))) .nil)) (.bin .mul (.lit (.int 2)) (.loc 3))))
 (.cons (.asg 5 (.call 17 (.cons (.loc 0) (.cons (.loc 1) (.cons (.loc 2) (.cons (.loc 4) .nil))))))
 (.cons (.asg 6 (.dict1 (.lit (.int (-1))) (.lit (.int (-1)))))
 (.cons (.for_ 7 (.blt .range (.cons (.blt .len (.cons (.loc 5) .nil)) .nil)) (.cons (.setIdx (.loc 6) (.idx (.loc 5) (.loc 7)) (.loc 7))
 .nil))
 (.cons (.asg 8 (.list .nil))
 (.cons (.asg 9 (.list .nil))
 (.cons (.asg 10 (.list .nil))
 (.cons (.for_ 11 (.loc 5) (.cons (.unpack [12, 13, 14, 15] (.call 16 (.cons (.attr (.loc 0) 2) (.cons (.loc 11) .nil))))
 (.cons (.asg 16 (.list .nil))
 (.cons (.forT [17, 18, 19] (.call 20 (.cons (.loc 0) (.cons (.loc 4) (.cons (.loc 1) (.cons (.loc 12) (.cons (.loc 13) (.cons (.loc 14) (.cons (.loc 15) .nil)))))))) (.cons (.expr (.append (.loc 16) (.idx (.loc 6) (.loc 19))))
 .nil))
 (.cons (.expr (.append (.loc 8) (.loc 12)))
 (.cons (.expr (.append (.loc 9) (.loc 16)))
 (.cons (.expr (.append (.loc 10) (.and (.cmp .eq (.loc 12) (.lit (.int 1))) (.and (.cmp .eq (.loc 16) (.list .nil)) (.cmp .eq (.idx (.loc 4) (.bin .sub (.loc 11) (.loc 3))) (.lit (.int (-2))))))))
 .nil)))))))
 (.cons (.asg 20 (.call 14 (.cons (.loc 8) (.cons (.loc 9) (.cons (.loc 10) .nil)))))
 (.cons (.for_ 7 (.blt .range (.cons (.blt .len (.cons (.loc 5) .nil)) .nil)) (.cons (.setIdx (.loc 4) (.idx (.loc 5) (.loc 7)) (.idx (.loc 20) (.loc 7)))
 .nil))
 (.cons (.ret (.loc 4))
 .nil)))))))))))))
noncomputable def f_build_zone : Fn := ⟨3, 21, b_build_zone⟩
noncomputable def b_build_table : Ss := (.cons (.ret (.call 21 (.cons (.loc 0) (.cons (.loc 1) (.cons (.attr (.loc 0) 3) .nil)))))
 .nil)
noncomputable def f_build_table : Fn := ⟨2, 2, b_build_table⟩
noncomputable def b_probe : Ss := (.cons (.asg 7 (.attr (.loc 0) 2))
 (.cons (.ife (.or (.cmp .lt (.loc 2) (.lit (.int 2))) (.cmp .gt (.loc 2) (.lit (.int 5)))) (.cons .stuck
 .nil) .nil)
 (.cons (.ife (.cmp .ne (.blt .len (.cons (.loc 1) .nil)) (.bin .mul (.bin .mul (.bin .mul (.lit (.int 2)) (.loc 7)) (.loc 7)) (.loc 7))) (.cons .stuck
 .nil) .nil)
 (.cons (.ife (.and (.cmp .ne (.loc 3) (.lit (.int 0))) (.cmp .ne (.loc 3) (.lit (.int 1)))) (.cons .stuck
 .nil) .nil)
 (.cons (.for_ 8 (.tup (.cons (.loc 4) (.cons (.loc 5) (.cons (.loc 6) .nil)))) (.cons (.ife (.or (.cmp .lt (.loc 8) (.lit (.int 0))) (.cmp .ge (.loc 8) (.loc 7))) (.cons .stuck
 .nil) .nil)
 .nil))
 (.cons (.ret (.idx (.loc 1) (.call 15 (.cons (.loc 7) (.cons (.loc 3) (.cons (.loc 4) (.cons (.loc 5) (.cons (.loc 6) .nil))))))))
 .nil))))))
noncomputable def f_probe : Fn := ⟨7, 9, b_probe⟩
noncomputable def b_law_shapes : Ss := (.cons (.ret (.list (.cons (.tup (.cons (.lit (.int 2)) (.cons (.lit (.int 3)) .nil))) (.cons (.tup (.cons (.lit (.int 2)) (.cons (.lit (.int 4)) .nil))) (.cons (.tup (.cons (.lit (.int 3)) (.cons (.lit (.int 3)) .nil))) (.cons (.tup (.cons (.lit (.int 4)) (.cons (.lit (.int 3)) .nil))) (.cons (.tup (.cons (.lit (.int 3)) (.cons (.lit (.int 4)) .nil))) (.cons (.tup (.cons (.lit (.int 2)) (.cons (.lit (.int 5)) .nil))) .nil))))))))
 .nil)
noncomputable def f_law_shapes : Fn := ⟨0, 0, b_law_shapes⟩
noncomputable def b_law_take : Ss := (.cons (.asg 2 (.idx (.loc 0) (.lit (.int 1))))
 (.cons (.setIdx (.loc 0) (.lit (.int 1)) (.bin .add (.loc 2) (.lit (.int 1))))
 (.cons (.ife (.cmp .lt (.loc 2) (.blt .len (.cons (.idx (.loc 0) (.lit (.int 0))) .nil))) (.cons (.ret (.bin .mod (.idx (.idx (.loc 0) (.lit (.int 0))) (.loc 2)) (.loc 1)))
 .nil) .nil)
 (.cons (.ret (.bin .mod (.bin .add (.bin .fdiv (.bin .mul (.loc 2) (.bin .add (.loc 2) (.lit (.int 3)))) (.lit (.int 2))) (.lit (.int 2))) (.loc 1)))
 .nil))))
noncomputable def f_law_take : Fn := ⟨2, 3, b_law_take⟩
noncomputable def b_law_met : Ss := (.cons (.asg 5 (.list .nil))
 (.cons (.forT [6, 7] (.loc 2) (.cons (.asg 8 (.bin .add (.bin .mod (.loc 1) (.idx (.loc 0) (.lit (.int 0)))) (.loc 6)))
 (.cons (.asg 9 (.bin .add (.bin .fdiv (.loc 1) (.idx (.loc 0) (.lit (.int 0)))) (.loc 7)))
 (.cons (.asg 10 (.loc 3))
 (.cons (.while (.and (.cmp .gt (.loc 10) (.lit (.int 0))) (.and (.chain (.lit (.int 0)) .le (.loc 8) .lt (.idx (.loc 0) (.lit (.int 0)))) (.chain (.lit (.int 0)) .le (.loc 9) .lt (.idx (.loc 0) (.lit (.int 1)))))) (.cons (.expr (.append (.loc 5) (.bin .add (.bin .mul (.loc 9) (.idx (.loc 0) (.lit (.int 0)))) (.loc 8))))
 (.cons (.augLoc 10 .sub (.lit (.int 1)))
 (.cons (.ife (.cmp .in_ (.bin .add (.bin .mul (.loc 9) (.idx (.loc 0) (.lit (.int 0)))) (.loc 8)) (.loc 4)) (.cons (.asg 10 (.lit (.int 0)))
 .nil) .nil)
 (.cons (.augLoc 8 .add (.loc 6))
 (.cons (.augLoc 9 .add (.loc 7))
 .nil))))))
 .nil)))))
 (.cons (.ret (.loc 5))
 .nil)))
noncomputable def f_law_met : Fn := ⟨5, 11, b_law_met⟩
noncomputable def b_law_hits : Ss := (.cons (.ife (.cmp .eq (.loc 1) (.lit (.int 2))) (.cons (.ret (.call 26 (.cons (.loc 0) (.cons (.loc 2) (.cons (.lit (.gref 3)) (.cons (.lit (.int 1)) (.cons (.loc 3) .nil)))))))
 .nil) .nil)
 (.cons (.ife (.cmp .eq (.loc 1) (.lit (.int 3))) (.cons (.ret (.call 26 (.cons (.loc 0) (.cons (.loc 2) (.cons (.sfrom (.lit (.gref 2)) (.lit (.int 4))) (.cons (.lit (.int 9)) (.cons (.loc 3) .nil)))))))
 .nil) .nil)
 (.cons (.ife (.cmp .eq (.loc 1) (.lit (.int 4))) (.cons (.ret (.call 26 (.cons (.loc 0) (.cons (.loc 2) (.cons (.sto (.lit (.gref 2)) (.lit (.int 4))) (.cons (.lit (.int 9)) (.cons (.loc 3) .nil)))))))
 .nil) .nil)
 (.cons (.ret (.call 26 (.cons (.loc 0) (.cons (.loc 2) (.cons (.lit (.gref 2)) (.cons (.lit (.int 9)) (.cons (.loc 3) .nil)))))))
 .nil))))
noncomputable def f_law_hits : Fn := ⟨4, 4, b_law_hits⟩
noncomputable def b_law_close : Ss := (.cons (.ret (.and (.cmp .le (.blt .abs (.cons (.bin .sub (.bin .mod (.loc 1) (.idx (.loc 0) (.lit (.int 0)))) (.bin .mod (.loc 2) (.idx (.loc 0) (.lit (.int 0))))) .nil)) (.lit (.int 1))) (.cmp .le (.blt .abs (.cons (.bin .sub (.bin .fdiv (.loc 1) (.idx (.loc 0) (.lit (.int 0)))) (.bin .fdiv (.loc 2) (.idx (.loc 0) (.lit (.int 0))))) .nil)) (.lit (.int 1)))))
 .nil)
noncomputable def f_law_close : Fn := ⟨3, 3, b_law_close⟩
noncomputable def b_law_stands : Ss := (.cons (.unpack [4, 5, 6, 7] (.loc 3))
 (.cons (.ife (.or (.cmp .notin (.loc 5) (.loc 2)) (.or (.cmp .eq (.loc 5) (.loc 6)) (.or (.cmp .eq (.loc 6) (.loc 7)) (.call 28 (.cons (.loc 0) (.cons (.loc 5) (.cons (.loc 7) .nil))))))) (.cons (.ret (.lit (.bool false)))
 .nil) .nil)
 (.cons (.ret (.or (.cmp .eq (.loc 4) (.lit (.int 1))) (.cmp .notin (.loc 7) (.call 27 (.cons (.loc 0) (.cons (.loc 1) (.cons (.loc 6) (.cons (.list (.cons (.loc 5) (.cons (.loc 7) .nil))) .nil))))))))
 .nil)))
noncomputable def f_law_stands : Fn := ⟨4, 8, b_law_stands⟩
noncomputable def b_law_moves : Ss := (.cons (.unpack [4, 5, 6, 7] (.loc 3))
 (.cons (.asg 8 (.list .nil))
 (.cons (.ife (.cmp .eq (.loc 4) (.lit (.int 1))) (.cons (.for_ 9 (.call 26 (.cons (.loc 0) (.cons (.loc 7) (.cons (.lit (.gref 2)) (.cons (.lit (.int 1)) (.cons (.list .nil) .nil)))))) (.cons (.ife (.and (.cmp .eq (.loc 9) (.loc 6)) (.not (.call 28 (.cons (.loc 0) (.cons (.loc 5) (.cons (.loc 6) .nil)))))) (.cons (.expr (.append (.loc 8) (.tup (.cons (.loc 7) (.cons (.loc 9) (.cons (.lit .none) .nil))))))
 .nil) (.cons (.ife (.call 29 (.cons (.loc 0) (.cons (.loc 1) (.cons (.loc 2) (.cons (.tup (.cons (.lit (.int 0)) (.cons (.loc 5) (.cons (.loc 6) (.cons (.loc 9) .nil))))) .nil))))) (.cons (.expr (.append (.loc 8) (.tup (.cons (.loc 7) (.cons (.loc 9) (.cons (.tup (.cons (.lit (.int 0)) (.cons (.loc 5) (.cons (.loc 6) (.cons (.loc 9) .nil))))) .nil))))))
 .nil) .nil)
 .nil))
 .nil))
 (.cons (.ret (.loc 8))
 .nil)) .nil)
 (.cons (.for_ 9 (.call 26 (.cons (.loc 0) (.cons (.loc 5) (.cons (.lit (.gref 2)) (.cons (.lit (.int 1)) (.cons (.list .nil) .nil)))))) (.cons (.ife (.call 29 (.cons (.loc 0) (.cons (.loc 1) (.cons (.loc 2) (.cons (.tup (.cons (.lit (.int 1)) (.cons (.loc 9) (.cons (.loc 6) (.cons (.loc 7) .nil))))) .nil))))) (.cons (.expr (.append (.loc 8) (.tup (.cons (.loc 5) (.cons (.loc 9) (.cons (.tup (.cons (.lit (.int 1)) (.cons (.loc 9) (.cons (.loc 6) (.cons (.loc 7) .nil))))) .nil))))))
 .nil) .nil)
 .nil))
 (.cons (.for_ 9 (.call 27 (.cons (.loc 0) (.cons (.loc 1) (.cons (.loc 6) (.cons (.list (.cons (.loc 5) (.cons (.loc 7) .nil))) .nil))))) (.cons (.ife (.call 29 (.cons (.loc 0) (.cons (.loc 1) (.cons (.loc 2) (.cons (.tup (.cons (.lit (.int 1)) (.cons (.loc 5) (.cons (.loc 9) (.cons (.loc 7) .nil))))) .nil))))) (.cons (.expr (.append (.loc 8) (.tup (.cons (.loc 6) (.cons (.loc 9) (.cons (.tup (.cons (.lit (.int 1)) (.cons (.loc 5) (.cons (.loc 9) (.cons (.loc 7) .nil))))) .nil))))))
 .nil) .nil)
 .nil))
 (.cons (.ret (.loc 8))
 .nil))))))
noncomputable def f_law_moves : Fn := ⟨4, 10, b_law_moves⟩
noncomputable def b_law_word : Ss := (.cons (.ife (.cmp .is_ (.loc 3) (.lit .none)) (.cons (.ret (.neg (.lit (.int 1))))
 .nil) .nil)
 (.cons (.ret (.call 23 (.cons (.loc 0) (.cons (.loc 1) (.cons (.loc 2) (.cons (.idx (.loc 3) (.lit (.int 0))) (.cons (.idx (.loc 3) (.lit (.int 1))) (.cons (.idx (.loc 3) (.lit (.int 2))) (.cons (.idx (.loc 3) (.lit (.int 3))) .nil)))))))))
 .nil))
noncomputable def f_law_word : Fn := ⟨4, 4, b_law_word⟩
noncomputable def b_law_mated : Ss := (.cons (.ret (.and (.cmp .eq (.idx (.loc 3) (.lit (.int 0))) (.lit (.int 1))) (.and (.cmp .eq (.loc 4) (.list .nil)) (.not (.call 29 (.cons (.loc 0) (.cons (.loc 1) (.cons (.loc 2) (.cons (.bin .add (.tup (.cons (.lit (.int 0)) .nil)) (.sfrom (.loc 3) (.lit (.int 1)))) .nil)))))))))
 .nil)
noncomputable def f_law_mated : Fn := ⟨5, 5, b_law_mated⟩
noncomputable def b_law_want : Ss := (.cons (.asg 6 (.compIf [] (.loc 0) (.loc 5) (.cmp .ge (.loc 0) (.lit (.int 0)))))
 (.cons (.ife (.call 32 (.cons (.loc 0) (.cons (.loc 1) (.cons (.loc 2) (.cons (.loc 3) (.cons (.loc 4) .nil)))))) (.cons (.ret (.lit (.int 0)))
 .nil) .nil)
 (.cons (.ife (.and (.cmp .eq (.idx (.loc 3) (.lit (.int 0))) (.lit (.int 0))) (.cmp .ne (.loc 6) (.list .nil))) (.cons (.ret (.bin .add (.blt .min (.cons (.loc 6) .nil)) (.lit (.int 1))))
 .nil) .nil)
 (.cons (.ife (.and (.cmp .eq (.idx (.loc 3) (.lit (.int 0))) (.lit (.int 1))) (.and (.cmp .ne (.loc 4) (.list .nil)) (.cmp .eq (.blt .len (.cons (.loc 6) .nil)) (.blt .len (.cons (.loc 5) .nil))))) (.cons (.ret (.bin .add (.blt .max (.cons (.loc 6) .nil)) (.lit (.int 1))))
 .nil) .nil)
 (.cons (.ret (.neg (.lit (.int 1))))
 .nil)))))
noncomputable def f_law_want : Fn := ⟨6, 7, b_law_want⟩
noncomputable def b_law_right : Ss := (.cons (.asg 6 (.call 31 (.cons (.loc 0) (.cons (.loc 2) (.cons (.loc 3) (.cons (.loc 5) .nil))))))
 (.cons (.ife (.not (.call 29 (.cons (.loc 1) (.cons (.loc 3) (.cons (.loc 4) (.cons (.loc 5) .nil)))))) (.cons (.ret (.cmp .eq (.loc 6) (.neg (.lit (.int 2)))))
 .nil) .nil)
 (.cons (.asg 7 (.call 30 (.cons (.loc 1) (.cons (.loc 3) (.cons (.loc 4) (.cons (.loc 5) .nil))))))
 (.cons (.asg 8 (.comp [0, 2, 3] (.call 31 (.cons (.loc 0) (.cons (.loc 1) (.cons (.loc 2) (.cons (.idx (.loc 3) (.lit (.int 2))) .nil))))) (.loc 7)))
 (.cons (.ret (.cmp .eq (.loc 6) (.call 33 (.cons (.loc 1) (.cons (.loc 3) (.cons (.loc 4) (.cons (.loc 5) (.cons (.loc 7) (.cons (.loc 8) .nil)))))))))
 .nil)))))
noncomputable def f_law_right : Fn := ⟨6, 9, b_law_right⟩
noncomputable def b_law_drawn : Ss := (.cons (.asg 3 (.bin .mul (.idx (.loc 1) (.lit (.int 0))) (.idx (.loc 1) (.lit (.int 1)))))
 (.cons (.asg 4 (.idx (.loc 2) (.call 25 (.cons (.loc 0) (.cons (.blt .len (.cons (.loc 2) .nil)) .nil)))))
 (.cons (.asg 5 (.compIf [1, 4] (.loc 2) (.blt .range (.cons (.loc 3) .nil)) (.not (.call 28 (.cons (.loc 0) (.cons (.loc 1) (.cons (.loc 2) .nil)))))))
 (.cons (.ife (.cmp .eq (.loc 5) (.list .nil)) (.cons (.asg 5 (.list (.cons (.loc 4) .nil)))
 .nil) .nil)
 (.cons (.asg 6 (.idx (.loc 5) (.call 25 (.cons (.loc 0) (.cons (.blt .len (.cons (.loc 5) .nil)) .nil)))))
 (.cons (.asg 7 (.compIf [4, 6] (.loc 2) (.blt .range (.cons (.loc 3) .nil)) (.and (.cmp .ne (.loc 2) (.loc 0)) (.cmp .ne (.loc 2) (.loc 1)))))
 (.cons (.asg 8 (.idx (.loc 7) (.call 25 (.cons (.loc 0) (.cons (.blt .len (.cons (.loc 7) .nil)) .nil)))))
 (.cons (.ret (.tup (.cons (.call 25 (.cons (.loc 0) (.cons (.lit (.int 2)) .nil))) (.cons (.loc 4) (.cons (.loc 8) (.cons (.loc 6) .nil))))))
 .nil))))))))
noncomputable def f_law_drawn : Fn := ⟨3, 9, b_law_drawn⟩
noncomputable def b_law : Ss := (.cons (.asg 1 (.list (.cons (.sto (.loc 0) (.lit (.int 20))) (.cons (.lit (.int 0)) .nil))))
 (.cons (.asg 2 (.idx (.call 24 .nil) (.call 25 (.cons (.loc 1) (.cons (.lit (.int 6)) .nil)))))
 (.cons (.asg 3 (.idx (.list (.cons (.lit (.int 4)) (.cons (.lit (.int 5)) (.cons (.lit (.int 3)) (.cons (.lit (.int 2)) .nil))))) (.call 25 (.cons (.loc 1) (.cons (.lit (.int 4)) .nil)))))
 (.cons (.asg 4 (.bin .mul (.idx (.loc 2) (.lit (.int 0))) (.idx (.loc 2) (.lit (.int 1)))))
 (.cons (.asg 5 (.list (.cons (.call 25 (.cons (.loc 1) (.cons (.loc 4) .nil))) .nil)))
 (.cons (.asg 6 (.call 25 (.cons (.loc 1) (.cons (.bin .mul (.lit (.int 2)) (.loc 4)) .nil))))
 (.cons (.ife (.and (.cmp .lt (.loc 4) (.lit (.int 10))) (.and (.cmp .lt (.loc 6) (.loc 4)) (.cmp .ne (.loc 6) (.idx (.loc 5) (.lit (.int 0)))))) (.cons (.expr (.append (.loc 5) (.loc 6)))
 .nil) .nil)
 (.cons (.asg 7 (.call 7 (.cons (.idx (.loc 2) (.lit (.int 0))) (.cons (.idx (.loc 2) (.lit (.int 1))) (.cons (.lit (.bool false)) (.cons (.lit (.bool false)) .nil))))))
 (.cons (.ife (.cmp .eq (.loc 4) (.lit (.int 6))) (.cons (.asg 5 (.blt .list (.cons (.blt .range (.cons (.lit (.int 6)) .nil)) .nil)))
 (.cons (.asg 8 (.call 22 (.cons (.loc 7) (.cons (.loc 3) .nil))))
 .nil)) (.cons (.asg 8 (.call 21 (.cons (.loc 7) (.cons (.loc 3) (.cons (.blt .sum (.cons (.comp [] (.bin .pow (.lit (.int 2)) (.loc 0)) (.loc 5)) .nil)) .nil)))))
 .nil))
 (.cons (.for_ 9 (.blt .range (.cons (.lit (.int 2)) .nil)) (.cons (.ife (.not (.call 34 (.cons (.loc 7) (.cons (.loc 2) (.cons (.loc 8) (.cons (.loc 3) (.cons (.loc 5) (.cons (.call 35 (.cons (.loc 1) (.cons (.loc 2) (.cons (.loc 5) .nil)))) .nil)))))))) (.cons (.ret (.lit (.bool false)))
 .nil) .nil)
 .nil))
 (.cons (.asg 10 (.bin .sub (.call 25 (.cons (.loc 1) (.cons (.lit (.int 40)) .nil))) (.lit (.int 20))))
 (.cons (.ife (.and (.not (.chain (.lit (.int 2)) .le (.loc 10) .le (.lit (.int 5)))) (.not (.and (.call 40 (.cons (.loc 7) (.cons (.loc 10) .nil))) (.call 39 (.cons (.loc 7) (.cons (.loc 8) (.cons (.loc 10) (.cons (.tup (.cons (.lit (.int 0)) (.cons (.lit (.int 0)) (.cons (.lit (.int 1)) (.cons (.lit (.int 2)) .nil))))) .nil)))))))) (.cons (.ret (.lit (.bool false)))
 .nil) .nil)
 (.cons (.asg 11 (.bin .sub (.call 25 (.cons (.loc 1) (.cons (.lit (.int 4)) .nil))) (.lit (.int 1))))
 (.cons (.asg 12 (.comp [1, 4] (.bin .sub (.call 25 (.cons (.loc 0) (.cons (.bin .add (.loc 1) (.lit (.int 2))) .nil))) (.lit (.int 1))) (.blt .range (.cons (.lit (.int 3)) .nil))))
 (.cons (.asg 13 (.tup (.cons (.loc 11) (.cons (.idx (.loc 12) (.lit (.int 0))) (.cons (.idx (.loc 12) (.lit (.int 1))) (.cons (.idx (.loc 12) (.lit (.int 2))) .nil))))))
 (.cons (.ife (.and (.chain (.lit (.int 0)) .le (.loc 11) .le (.lit (.int 1))) (.and (.cmp .ge (.blt .min (.cons (.loc 12) .nil)) (.lit (.int 0))) (.cmp .lt (.blt .max (.cons (.loc 12) .nil)) (.loc 4)))) (.cons (.ret (.call 34 (.cons (.loc 7) (.cons (.loc 2) (.cons (.loc 8) (.cons (.loc 3) (.cons (.loc 5) (.cons (.loc 13) .nil))))))))
 .nil) .nil)
 (.cons (.ret (.and (.call 39 (.cons (.loc 7) (.cons (.loc 8) (.cons (.loc 3) (.cons (.loc 13) .nil))))) (.call 39 (.cons (.loc 7) (.cons (.sfrom (.loc 8) (.lit (.int 1))) (.cons (.loc 3) (.cons (.tup (.cons (.lit (.int 0)) (.cons (.lit (.int 0)) (.cons (.lit (.int 1)) (.cons (.lit (.int 2)) .nil))))) .nil)))))))
 .nil)))))))))))))))))
noncomputable def f_law : Fn := ⟨1, 14, b_law⟩
noncomputable def b_Geometry___init : Ss := (.cons (.setAttr (.loc 0) 0 (.loc 1))
 (.cons (.setAttr (.loc 0) 1 (.loc 2))
 (.cons (.setAttr (.loc 0) 2 (.bin .mul (.loc 1) (.loc 2)))
 (.cons (.setAttr (.loc 0) 3 (.bin .sub (.bin .shl (.lit (.int 1)) (.bin .mul (.loc 1) (.loc 2))) (.lit (.int 1))))
 (.cons (.setAttr (.loc 0) 4 (.and (.loc 3) (.cmp .ge (.loc 2) (.lit (.int 5)))))
 (.cons (.setAttr (.loc 0) 5 (.loc 4))
 (.cons (.setAttr (.loc 0) 6 (.list .nil))
 (.cons (.setAttr (.loc 0) 7 (.list .nil))
 (.cons (.setAttr (.loc 0) 8 (.list .nil))
 (.cons (.setAttr (.loc 0) 9 (.list .nil))
 (.cons (.setAttr (.loc 0) 10 (.list .nil))
 (.cons (.setAttr (.loc 0) 11 (.list (.cons (.list .nil) (.cons (.list .nil) .nil))))
 (.cons (.setAttr (.loc 0) 12 (.list .nil))
 (.cons (.setAttr (.loc 0) 13 (.list .nil))
 .nil))))))))))))))
noncomputable def f_Geometry___init : Fn := ⟨5, 5, b_Geometry___init⟩
noncomputable def fnL : List Fn := [f_is_growing, f_add_masks, f_inner_squares, f_add_rays, f_add_pawns, f_add_knights, f_add_castles, f_make_geometry, f_ray_attacks, f_rook_attacks, f_bishop_attacks, f_queen_attacks, f_slider_attacks, f_piece_attacks, f_solve, f_index_of, f_parts_of, f_mark_places, f_weak_moves, f_strong_moves, f_moves_at, f_build_zone, f_build_table, f_probe, f_law_shapes, f_law_take, f_law_met, f_law_hits, f_law_close, f_law_stands, f_law_moves, f_law_word, f_law_mated, f_law_want, f_law_right, f_law_drawn, f_law, f_Geometry___init]
noncomputable def fnOfId (f : Nat) : Option Fn := fnL[f]?
noncomputable def a2 (l : List V) (k : V -> V -> Option (V × Hp)) : Option (V × Hp) := match l with
 | [a, b] => k a b
 | _ => none
noncomputable def a4 (l : List V) (k : V -> V -> V -> V -> Option (V × Hp)) : Option (V × Hp) := match l with
 | [a, b, c, d] => k a b c d
 | _ => none
theorem a2_inv {l : List V} {k : V -> V -> Option (V × Hp)} {r : V × Hp} {X : Prop} (e : a2 l k = some r) (f : ∀ a b, l = [a, b] -> k a b = some r -> X) : X := by
 unfold a2 at e
 split at e
 · exact f _ _ rfl e
 · exact nn e
theorem a4_inv {l : List V} {k : V -> V -> V -> V -> Option (V × Hp)} {r : V × Hp} {X : Prop} (e : a4 l k = some r) (f : ∀ a b c d, l = [a, b, c, d] -> k a b c d = some r -> X) : X := by
 unfold a4 at e
 split at e
 · exact f _ _ _ _ rfl e
 · exact nn e
noncomputable def refused (g : List O) (args : List V) (σ : Hp) : Option (V × Hp) :=
 a4 args fun geo table kind place => b1 (tupOf g σ place) fun t => a4 t fun s a b c => b1 (attr σ geo 2) fun z => b1 (asInt z) fun z => b1 (asInt kind) fun k => b1 (listOf g σ table) fun xs => b1 (asInt s) fun s => b1 (asInt a) fun a => b1 (asInt b) fun b => b1 (asInt c) fun c =>
  if xs.length < 1000000 /\ 0 <= z /\ z <= 100 /\ ((k < 2 \/ 5 < k) \/ (xs.length : Int) ≠ 2 * z * z * z \/ (s ≠ 0 /\ s ≠ 1) \/ (a < 0 \/ z <= a) \/ (b < 0 \/ z <= b) \/ (c < 0 \/ z <= c)) then some (.bool true, σ) else none
noncomputable def unbuilt (args : List V) (σ : Hp) : Option (V × Hp) := a2 args fun _ k => b1 (asInt k) fun k => if k < 2 \/ 5 < k then some (.bool true, σ) else none
noncomputable def Phi (g : List O) : Nat -> CallF
 | 0 => fun _ _ _ => none
 | n + 1 => fun f args σ => match f with
   | 38 => b2 (Phi g n 37 (.ref (σ.length + 1) :: args) (σ ++ [.ns [], .inst σ.length])) fun v σ' => b1 (asNone v) fun _ => some (.ref (σ.length + 1), σ')
   | 39 => if 4 <= n then refused g args σ else none
   | 40 => if 4 <= n then unbuilt args σ else none
   | f => match fnOfId f with
     | some fn => runFn g (Phi g n) fn args σ
     | none => none
noncomputable def pairT (p : Int × Int) : O := .tup [.int p.1, .int p.2]
noncomputable def wayL : List (Int × Int) := [(0, 1), (1, 0), (0, -1), (-1, 0), (1, 1), (1, -1), (-1, -1), (-1, 1)]
noncomputable def leapL : List (Int × Int) := [(1, 2), (2, 1), (2, -1), (1, -2), (-1, -2), (-2, -1), (-2, 1), (-1, 2)]
noncomputable def stepF : List Int := [0, 1, 0, -1, 1, 1, -1, -1]
noncomputable def stepR : List Int := [1, 0, -1, 0, 1, -1, -1, 1]
noncomputable def gobj (ns : List Int) : List O :=
 [.tup (stepF.map .int), .tup (stepR.map .int), .list ((List.range 8).map fun i => .gref (4 + i)), .list ((List.range 8).map fun i => .gref (12 + i))]
 ++ wayL.map pairT ++ leapL.map pairT ++ [.list (ns.map .int)]
noncomputable def runLaw (ns : List Int) : Option (V × Hp) := Phi (gobj ns) 12 36 [.gref 20] []
theorem b1_of {α γ : Type} {x : Option α} {f : α -> Option γ} {a : α} {r : Option γ} (h : x = some a) (h2 : f a = r) : b1 x f = r := by subst h; exact h2
theorem b2_of {α γ : Type} {x : Option (α × Hp)} {f : α -> Hp -> Option γ} {a : α} {τ : Hp} {r : Option γ} (h : x = some (a, τ)) (h2 : f a τ = r) : b2 x f = r := by subst h; exact h2
theorem b3_of {γ : Type} {x : Option (Fl × Frm × Hp)} {f : Fl -> Frm -> Hp -> Option γ} {a : Fl} {m : Frm} {τ : Hp} {r : Option γ} (h : x = some (a, m, τ)) (h2 : f a m τ = r) : b3 x f = r := by subst h; exact h2
theorem slot_of {m : Frm} {i : Nat} {v : V} (h : m[i]? = some (some v)) : slot? m i = some v := by unfold slot?; rw [h]
theorem listAt_of {σ : Hp} {l : Nat} {xs : List V} (h : σ[l]? = some (.list xs)) : listAt? σ l = some xs := by unfold listAt?; rw [h]
theorem unpack_of {g : List O} {xs : List Nat} {v : V} {vs : List V} {m m1 : Frm} {σ : Hp} (h2 : getO g σ v = some (.tup vs)) (h3 : setAll xs vs m = some m1) : unpackTo g xs v m σ = some m1 := by unfold unpackTo; rw [h2]; exact h3
section
variable {g : List O} {Φ : CallF} {m m1 m2 : Frm} {σ σ1 σ2 : Hp} {fl : Fl}
theorem sC {st : S} {r : Ss} {res : Option (Fl × Frm × Hp)} (h1 : execS g Φ st m σ = some (.next, m1, σ1)) (h2 : execSs g Φ r m1 σ1 = res) : execSs g Φ (.cons st r) m σ = res := b3_of h1 h2
theorem ss_stop {st : S} {r : Ss} (h1 : execS g Φ st m σ = some (fl, m1, σ1)) (hn : ∀ (h : fl = .next), False) : execSs g Φ (.cons st r) m σ = some (fl, m1, σ1) := by
 cases fl with
 | next => exact (hn rfl).elim
 | _ => simp only [execSs, h1, b3]
theorem ss_ret {e : E} {r : Ss} {v : V} (h1 : vE g Φ e m σ = some (v, σ1)) : execSs g Φ (.cons (.ret e) r) m σ = some (.ret v, m, σ1) := b3_of (b2_of h1 rfl) rfl
theorem sN : execSs g Φ .nil m σ = some (.next, m, σ) := rfl
theorem run_ret {f : Fn} {args : List V} {v : V} (ha : args.length = f.nargs) (hm : args.map some ++ List.replicate (f.nloc - f.nargs) none = m) (h : execSs g Φ f.body m σ = some (.ret v, m1, σ1)) : runFn g Φ f args σ = some (v, σ1) := by
 unfold runFn
 rw [if_pos ha, hm, h]; rfl
theorem run_end {f : Fn} {args : List V} (ha : args.length = f.nargs) (hm : args.map some ++ List.replicate (f.nloc - f.nargs) none = m) (h : execSs g Φ f.body m σ = some (.next, m1, σ1)) : runFn g Φ f args σ = some (.none, σ1) := by
 unfold runFn
 rw [if_pos ha, hm, h]; rfl
theorem sA {x : Nat} {e : E} {v : V} (h : vE g Φ e m σ = some (v, σ1)) (hx : x < m.length) : execS g Φ (.asg x e) m σ = some (.next, m.set x (some v), σ1) := b2_of h (b1_of (if_pos hx) rfl)
theorem s_for {x : Nat} {it : E} {b : Ss} {v : V} {ii : It} (h : vE g Φ it m σ = some (v, σ1)) (hi : iter g σ1 v = some ii) (hl : forLoop g (fun v m _ => setLoc x v m) (fun m σ => execSs g Φ b m σ) loopFuel ii m σ1 = some (fl, m2, σ2)) : execS g Φ (.for_ x it b) m σ = some (fl, m2, σ2) := b2_of h (b1_of hi hl)
theorem eI {v : V} : vE g Φ (.lit v) m σ = some (v, σ) := rfl
theorem eL {i : Nat} {v : V} (h : m[i]? = some (some v)) : vE g Φ (.loc i) m σ = some (v, σ) := b1_of (slot_of h) rfl
theorem e_attr {a : E} {k : Nat} {x v : V} (h : vE g Φ a m σ = some (x, σ1)) (h2 : attr σ1 x k = some v) : vE g Φ (.attr a k) m σ = some (v, σ1) := b2_of h (b1_of h2 rfl)
theorem eX {a i : E} {x y v : V} (h : vE g Φ a m σ = some (x, σ1)) (h2 : vE g Φ i m σ1 = some (y, σ2)) (h3 : idx g σ2 x y = some v) : vE g Φ (.idx a i) m σ = some (v, σ2) := b2_of h (b2_of h2 (b1_of h3 rfl))
theorem e_bin {o : B} {a b : E} {x y r : Int} (h : vE g Φ a m σ = some (.int x, σ1)) (h2 : vE g Φ b m σ1 = some (.int y, σ2)) (h3 : arith o x y = some r) : vE g Φ (.bin o a b) m σ = some (.int r, σ2) := b2_of h (b2_of h2 (congrArg (Option.map _) h3))
theorem e_sfrom {a i : E} {x y : V} {r : Option (V × Hp)} (h : vE g Φ a m σ = some (x, σ1)) (h2 : vE g Φ i m σ1 = some (y, σ2)) (h3 : sfrom g σ2 x y = r) : vE g Φ (.sfrom a i) m σ = r := b2_of h (b2_of h2 h3)
theorem e_sto {a i : E} {x y : V} {r : Option (V × Hp)} (h : vE g Φ a m σ = some (x, σ1)) (h2 : vE g Φ i m σ1 = some (y, σ2)) (h3 : sto g σ2 x y = r) : vE g Φ (.sto a i) m σ = r := b2_of h (b2_of h2 h3)
theorem e_binop {o : B} {a b : E} {x y : V} {r : Option (V × Hp)} (h : vE g Φ a m σ = some (x, σ1)) (h2 : vE g Φ b m σ1 = some (y, σ2)) (h3 : binop g o x y σ2 = r) : vE g Φ (.bin o a b) m σ = r := b2_of h (b2_of h2 h3)
theorem e_inv {a : E} {x : Int} (h : vE g Φ a m σ = some (.int x, σ1)) : vE g Φ (.inv a) m σ = some (.int (PySem.Builtin.bitNot x), σ1) := b2_of h rfl
theorem e_neg {a : E} {x : Int} (h : vE g Φ a m σ = some (.int x, σ1)) : vE g Φ (.neg a) m σ = some (.int (-x), σ1) := b2_of h rfl
theorem e_not {a : E} {x : V} {b : Bool} (h : vE g Φ a m σ = some (x, σ1)) (h2 : truth x = some b) : vE g Φ (.not a) m σ = some (.bool (!b), σ1) := b2_of h (b1_of h2 rfl)
theorem e_cmp {o : C} {a b : E} {x y : V} {r : Bool} (h : vE g Φ a m σ = some (x, σ1)) (h2 : vE g Φ b m σ1 = some (y, σ2)) (h3 : cmpV g o x y σ2 = some r) : vE g Φ (.cmp o a b) m σ = some (.bool r, σ2) := b2_of h (b2_of h2 (b1_of h3 rfl))
theorem e_or_t {a b : E} {x : V} (h : vE g Φ a m σ = some (x, σ1)) (h2 : truth x = some true) : vE g Φ (.or a b) m σ = some (x, σ1) := b2_of h (b1_of h2 rfl)
theorem e_or_f {a b : E} {x : V} {res : Option (V × Hp)} (h : vE g Φ a m σ = some (x, σ1)) (h2 : truth x = some false) (h3 : vE g Φ b m σ1 = res) : vE g Φ (.or a b) m σ = res := b2_of h (b1_of h2 h3)
theorem e_and_f {a b : E} {x : V} (h : vE g Φ a m σ = some (x, σ1)) (h2 : truth x = some false) : vE g Φ (.and a b) m σ = some (x, σ1) := b2_of h (b1_of h2 rfl)
theorem e_and_t {a b : E} {x : V} {res : Option (V × Hp)} (h : vE g Φ a m σ = some (x, σ1)) (h2 : truth x = some true) (h3 : vE g Φ b m σ1 = res) : vE g Φ (.and a b) m σ = res := b2_of h (b1_of h2 h3)
theorem eN : evalEs g Φ .nil m σ = some ([], σ) := rfl
theorem eC {e : E} {r : Es} {x : V} {xs : List V} (h : vE g Φ e m σ = some (x, σ1)) (h2 : evalEs g Φ r m σ1 = some (xs, σ2)) : evalEs g Φ (.cons e r) m σ = some (x :: xs, σ2) := b2_of h (b2_of h2 rfl)
theorem e_call {f : Nat} {as : Es} {vs : List V} {res : Option (V × Hp)} (h : evalEs g Φ as m σ = some (vs, σ1)) (h2 : Φ f vs σ1 = res) : vE g Φ (.call f as) m σ = res := b2_of h h2
theorem e_list {es : Es} {vs : List V} (h : evalEs g Φ es m σ = some (vs, σ1)) (hl : vs.length < 1000) : vE g Φ (.list es) m σ = some (.ref σ1.length, σ1 ++ [.list vs]) := b2_of h (if_pos hl)
theorem e_tup {es : Es} {vs : List V} (h : evalEs g Φ es m σ = some (vs, σ1)) (hl : vs.length < 1000) : vE g Φ (.tup es) m σ = some (.ref σ1.length, σ1 ++ [.tup vs]) := b2_of h (if_pos hl)
theorem e_blt {f : F} {as : Es} {vs : List V} {res : Option (V × Hp)} (h : evalEs g Φ as m σ = some (vs, σ1)) (h2 : blt g f vs σ1 = res) : vE g Φ (.blt f as) m σ = res := b2_of h h2
theorem e_append {a v : E} {l : Nat} {y : V} {xs : List V} (h : vE g Φ a m σ = some (.ref l, σ1)) (h0 : ∃ ys, σ1[l]? = some (.list ys)) (h2 : vE g Φ v m σ1 = some (y, σ2)) (h3 : σ2[l]? = some (.list xs)) (hl : xs.length < 100000) : vE g Φ (.append a v) m σ = some (.none, σ2.set l (.list (xs ++ [y]))) := h0.elim fun ys h0 => b2_of h (b1_of rfl (b1_of (listAt_of h0) (b2_of h2 (b1_of (b1_of (listAt_of h3) (if_pos hl)) rfl))))
theorem s_expr {e : E} (h : vE g Φ e m σ = some (.none, σ1)) : execS g Φ (.expr e) m σ = some (.next, m, σ1) := b2_of h rfl
theorem s_if_t {c : E} {t f : Ss} {v : V} {res : Option (Fl × Frm × Hp)} (h : vE g Φ c m σ = some (v, σ1)) (h2 : truth v = some true) (h3 : execSs g Φ t m σ1 = res) : execS g Φ (.ife c t f) m σ = res := b2_of h (b1_of h2 h3)
theorem s_if_f {c : E} {t f : Ss} {v : V} {res : Option (Fl × Frm × Hp)} (h : vE g Φ c m σ = some (v, σ1)) (h2 : truth v = some false) (h3 : execSs g Φ f m σ1 = res) : execS g Φ (.ife c t f) m σ = res := b2_of h (b1_of h2 h3)
theorem s_aug {x : Nat} {o : B} {e : E} {a b r : Int} (hm : m[x]? = some (some (.int a))) (h : vE g Φ e m σ = some (.int b, σ1)) (h2 : arith o a b = some r) : execS g Φ (.augLoc x o e) m σ = some (.next, m.set x (some (.int r)), σ1) := b1_of (slot_of hm) (b1_of rfl (b2_of h (b1_of rfl (b1_of h2 (b1_of (if_pos (gsm hm).1) rfl)))))
theorem s_setIdx {a i v : E} {x y z : V} {σ3 σ4 : Hp} (h1 : vE g Φ v m σ = some (z, σ1)) (h2 : vE g Φ a m σ1 = some (x, σ2)) (h3 : vE g Φ i m σ2 = some (y, σ3)) (h4 : setIdx σ3 x y z = some σ4) : execS g Φ (.setIdx a i v) m σ = some (.next, m, σ4) := b2_of h1 (b2_of h2 (b2_of h3 (b1_of h4 rfl)))
theorem s_augIdx {a i e : E} {o : B} {x y : V} {p q r : Int} {σ3 σ4 : Hp} (h1 : vE g Φ a m σ = some (x, σ1)) (h2 : vE g Φ i m σ1 = some (y, σ2)) (h3 : idx g σ2 x y = some (.int p)) (h4 : vE g Φ e m σ2 = some (.int q, σ3)) (h5 : arith o p q = some r) (h6 : setIdx σ3 x y (.int r) = some σ4) :
 execS g Φ (.augIdx a i o e) m σ = some (.next, m, σ4) := b2_of h1 (b2_of h2 (b1_of h3 (b1_of rfl (b2_of h4 (b1_of rfl (b1_of h5 (b1_of h6 rfl)))))))
theorem s_unpack {xs : List Nat} {e : E} {v : V} {vs : List V} (h : vE g Φ e m σ = some (v, σ1)) (h2 : getO g σ1 v = some (.tup vs)) (h3 : setAll xs vs m = some m1) : execS g Φ (.unpack xs e) m σ = some (.next, m1, σ1) := b2_of h (b1_of (unpack_of h2 h3) rfl)
theorem setIdx_list {a i : Nat} {v : V} {xs : List V} (h : σ[a]? = some (.list xs)) (hi : i < xs.length) (hz : i < 2 ^ 62) : setIdx σ (.ref a) (.int i) v = some (σ.set a (.list (xs.set i v))) := by
 simp only [setIdx, h]
 rw [if_pos ⟨Int.natCast_nonneg _, Int.ofNat_lt.mpr hi, by exact_mod_cast hz⟩, Int.toNat_natCast]
theorem e_range1 {e : E} {b : Int} (h : vE g Φ e m σ = some (.int b, σ1)) (hb : b.natAbs < 100000) : vE g Φ (.blt .range (.cons e .nil)) m σ = some (.ref σ1.length, σ1 ++ [.range 0 b 1]) := b2_of (b2_of h rfl) (if_pos ⟨by decide, hb, .inl rfl⟩ : mkRange 0 b 1 σ1 = _)
theorem iter_range {a b : Int} {n : Nat} (hn : rangeLen a b 1 = n) : iter g (σ ++ [.range a b 1]) (.ref σ.length) = some (.range a 1 n) := by
 simp [iter, getO, hn]
end
end Mine
end
section
open PySem PySem.W PySem.Calls PyProof.Rows
namespace Mine
noncomputable def VR (gad ρ : List Addr) : V -> Value -> Prop
 | .none, v => v = .none
 | .bool b, v => v = .bool b
 | .int i, v => ∃ t, v = .int i t
 | .ref a, v => ∃ x, ρ[a]? = some x /\ v = .ref x
 | .gref k, v => ∃ x, gad[k]? = some x /\ v = .ref x
noncomputable def VRs (gad ρ : List Addr) : List V -> List Value -> Prop
 | [], vs => vs = []
 | x :: xs, vs => ∃ v r, vs = v :: r /\ VR gad ρ x v /\ VRs gad ρ xs r
noncomputable def fieldNames : List Str := ["files", "ranks", "size", "full", "has_double", "has_castling", "file_masks", "rank_masks", "rays", "king", "knight", "pawn", "castles", "rights_lost"]
noncomputable def FsR (gad ρ : List Addr) : List V -> List Str -> List DictEntry -> Prop
 | [], _, es => es = []
 | x :: xs, n :: ns, es => ∃ h t v r, es = ⟨h, .str n t, v⟩ :: r /\ VR gad ρ x v /\ FsR gad ρ xs ns r
 | _ :: _, [], _ => False
noncomputable def KVs (gad ρ : List Addr) : List (Int × V) -> List (Int × Value) -> Prop
 | [], l => l = []
 | (k, x) :: r, l => ∃ v t, l = (k, v) :: t /\ VR gad ρ x v /\ KVs gad ρ r t
noncomputable def geoCls : Addr := 65
noncomputable def OR (prog : Program) (w : World) (gad ρ : List Addr) : O -> Obj -> Prop
 | .list xs, o => ∃ vs n, o = { cls := .type "list", data := .seq vs n } /\ VRs gad ρ xs vs.toList
 | .tup xs, o => ∃ vs n, o = { cls := .type "tuple", data := .seq vs n } /\ VRs gad ρ xs vs.toList
 | .dict kv, o => ∃ kvs, o.IsDictOf (intKind prog w) kvs /\ KVs gad ρ kv kvs
 | .inst d, o => ∃ dx, ρ[d]? = some dx /\ o = instObj geoCls dx
 | .ns fs, o => ∃ es n, o = dictOf es n /\ FsR gad ρ fs fieldNames es
 | .range a b c, o => a.natAbs < 100000 /\ b.natAbs < 100000 /\ (c = 1 \/ c = -1) /\ ∃ t u v, o = { cls := .type "range", data := .fields #[.int a t, .int b u, .int c v] }
theorem VR.mono {gad ρ ρ' : List Addr} (hp : ρ <+: ρ') {x : V} {v : Value} (h : VR gad ρ x v) : VR gad ρ' x v := by
 cases x with
 | ref a =>
   refine x1_2 h fun y e r => ?_
   clear h
   obtain ⟨t, rfl⟩ := hp
   exact ⟨y, by rw [List.getElem?_append_left (gsm e).1]; exact e, r⟩
 | _ => exact h
theorem VRs.mono {gad ρ ρ' : List Addr} (hp : ρ <+: ρ') {xs : List V} {vs : List Value} (h : VRs gad ρ xs vs) : VRs gad ρ' xs vs := by
 induction xs generalizing vs with
 | nil => exact h
 | cons _ _ ih => exact x2_3 h fun v r e h hr => i2_3 v r e (h.mono hp) (ih hr)
theorem KVs.mono {gad ρ ρ' : List Addr} (hp : ρ <+: ρ') {xs : List (Int × V)} {l : List (Int × Value)} (h : KVs gad ρ xs l) : KVs gad ρ' xs l := by
 induction xs generalizing l with
 | nil => exact h
 | cons _ _ ih => exact x2_3 h fun v t e q hr => i2_3 v t e (q.mono hp) (ih hr)
theorem FsR.inv {gad ρ : List Addr} {x : V} {xs : List V} {ns : List Str} {es : List DictEntry} {X : Prop} (h : FsR gad ρ (x :: xs) ns es) (f : ∀ n ns' h t v r, ns = n :: ns' -> es = ⟨h, .str n t, v⟩ :: r -> VR gad ρ x v -> FsR gad ρ xs ns' r -> X) : X := by
 cases ns with
 | nil => exact h.elim
 | cons n ns => refine x4_3 h fun _ t v r q hv hr => ?_; clear h; rename_i h; exact f _ _ _ _ _ _ rfl q hv hr
theorem FsR.mono {gad ρ ρ' : List Addr} (hp : ρ <+: ρ') {xs : List V} {ns : List Str} {es : List DictEntry} (h : FsR gad ρ xs ns es) : FsR gad ρ' xs ns es := by
 induction xs generalizing ns es with
 | nil => exact h
 | cons _ _ ih => exact h.inv fun n ns' hh t v r q1 q hv hr => q1 ▸ (i4_3 hh t v r q (hv.mono hp) (ih hr))
theorem getElem?_mono {ρ ρ' : List Addr} (hp : ρ <+: ρ') {i : Nat} {a : Addr} (e : ρ[i]? = some a) : ρ'[i]? = some a := by
 obtain ⟨t, rfl⟩ := hp
 rw [List.getElem?_append_left (gsm e).1]; exact e
theorem OR.mono {prog : Program} {w : World} {gad ρ ρ' : List Addr} (hp : ρ <+: ρ') {x : O} {o : Obj} (h : OR prog w gad ρ x o) : OR prog w gad ρ' x o := by
 cases x with
 | list xs => refine x2_2 h fun vs n e _ => ?_; clear h; rename_i h; exact i2_2 vs n e (h.mono hp)
 | tup xs => refine x2_2 h fun vs n e _ => ?_; clear h; rename_i h; exact i2_2 vs n e (h.mono hp)
 | dict kv =>
   refine x1_2 h fun kvs e _ => ?_
   clear h; rename_i h
   exact ⟨kvs, e, h.mono hp⟩
 | inst d => refine x1_2 h fun dx e _ => ?_; clear h; rename_i h; exact ⟨dx, getElem?_mono hp e, h⟩
 | ns fs => refine x2_2 h fun es n e _ => ?_; clear h; rename_i h; exact i2_2 es n e (h.mono hp)
 | range a b c => exact h
theorem OR.notFreed {prog : Program} {w : World} {gad ρ : List Addr} {x : O} {o : Obj} (h : OR prog w gad ρ x o) : o.isFreed = false := by
 cases x with
 | list xs => refine x2_2 h fun vs n zz3 _ => ?_; clear h; rename_i h; subst zz3; rfl
 | tup xs => refine x2_2 h fun vs n zz4 _ => ?_; clear h; rename_i h; subst zz4; rfl
 | dict kv =>
   refine cps fun _ zk => ?_
   refine x1_2 h fun kvs zz5 _ => ?_
   clear h
   obtain ⟨es, ep, _, e, _⟩ := zz5
   obtain ⟨cl, d, dt, sl⟩ := o
   refine zk ?_; clear zk
   cases e; rfl
 | inst d => refine x1_2 h fun dx e zz6 => ?_; clear h; subst zz6; rfl
 | ns fs => refine x2_2 h fun es n zz7 _ => ?_; clear h; rename_i h; subst zz7; rfl
 | range a b c =>
   refine cps fun _ zk => ?_
   refine x0_4 h fun _ _ _ zz8 => ?_
   refine x3_1 zz8 fun t u v zz9 => ?_
   refine zk ?_; clear zk
   subst zz9
   rfl
noncomputable def Like (o o' : Obj) : Prop := o'.cls = o.cls /\ o'.data = o.data /\ o'.dict = o.dict /\ ((∃ vs, o.data = .fields vs) -> o'.slots = o.slots)
theorem Like.refl (o : Obj) : Like o o := ⟨rfl, rfl, rfl, fun _ => rfl⟩
theorem Like.trans {a b c : Obj} (x : Like a b) (y : Like b c) : Like a c :=
 ⟨y.1.trans x.1, y.2.1.trans x.2.1, y.2.2.1.trans x.2.2.1, fun h => (y.2.2.2 (by rw [x.2.1]; exact h)).trans (x.2.2.2 h)⟩
theorem Like.eq {a b : Obj} (x : Like a b) (h : ∃ vs, a.data = .fields vs) : b = a := by
 refine cps fun _ zk => ?_
 obtain ⟨c, d, dt, sl⟩ := a
 obtain ⟨c', d', dt', sl'⟩ := b
 refine x0_4 x fun h1 h2 h3 h4 => ?_
 clear x
 have h5 := h4 h
 dsimp only at h1 h2 h3 h5
 refine zk ?_; clear zk
 subst h1 h2 h3 h5
 rfl
structure HR (prog : Program) (w : World) (gad : List Addr) (h₀ : Heap) (ext : List (Addr × Obj)) (ρ : List Addr) (σ : Hp) (h : Heap) : Prop where
 keep : ∀ b o, h₀.get? b = some o -> h.get? b = some o
 exs : ∀ p ∈ ext, ∃ o, h.get? p.1 = some o /\ Like p.2 o
 len : ρ.length = σ.length
 obj : ∀ (i : Nat) (a : Addr) (o : O), ρ[i]? = some a -> σ[i]? = some o -> ∃ ob, h.get? a = some ob /\ OR prog w gad ρ o ob
 above : ∀ a ∈ ρ, h₀.objs.size <= a
 nd : ρ.Nodup
 disj : ∀ p ∈ ext, p.1 ∉ ρ
 exa : ∀ p ∈ ext, h₀.objs.size <= p.1
 size : h₀.objs.size <= h.objs.size
section
variable {prog : Program} {w : World} {gad ρ : List Addr} {h₀ h h' : Heap} {ext : List (Addr × Obj)} {σ : Hp}
theorem HR.at_ (H : HR prog w gad h₀ ext ρ σ h) {i : Nat} {o : O} (e : σ[i]? = some o) : ∃ a ob, ρ[i]? = some a /\ h.get? a = some ob /\ OR prog w gad ρ o ob := by
 have hi : i < ρ.length := by rw [H.len]; exact (gsm e).1
 refine x1_2 (H.obj i ρ[i] o (List.getElem?_eq_getElem hi) e) fun O h1 h2 => ?_
 exact i2_3 _ O (List.getElem?_eq_getElem hi) h1 h2
theorem HR.lt (H : HR prog w gad h₀ ext ρ σ h) {a : Addr} (ha : a ∈ ρ) : a < h.objs.size := by
 obtain ⟨i, hi, rfl⟩ := List.getElem_of_mem ha
 have hi' : i < σ.length := H.len ▸ hi
 refine x1_2 (H.obj i ρ[i] σ[i] (List.getElem?_eq_getElem hi) (List.getElem?_eq_getElem hi')) fun O h1 _ => ?_
 exact Heap.lt_size h1
theorem HR.extBut (H : HR prog w gad h₀ ext ρ σ h) {c : Addr} (hs : Heap.ExtBut c h h') (h1 : h₀.objs.size <= c) (h2 : c ∉ ρ) (h3 : ∀ p ∈ ext, p.1 ≠ c) (hz : h₀.objs.size <= h'.objs.size) : HR prog w gad h₀ ext ρ σ h' where
 keep := fun b o e => hs b o (fun q => Nat.lt_irrefl _ (Nat.lt_of_lt_of_le (Heap.lt_size e) (q ▸ h1))) (H.keep b o e)
 exs := fun p hp => let ⟨o, e, l⟩ := H.exs p hp; ⟨o, hs _ _ (h3 p hp) e, l⟩
 len := H.len
 obj := fun i a o e1 e2 => let ⟨O, q1, q2⟩ := H.obj i a o e1 e2; ⟨O, hs _ _ (fun q => h2 (q ▸ List.mem_of_getElem? e1)) q1, q2⟩
 above := H.above
 nd := H.nd
 disj := H.disj
 exa := H.exa
 size := hz
theorem HR.keeps (H : HR prog w gad h₀ ext ρ σ h) (hs : ∀ b o, h.get? b = some o -> h'.get? b = some o) (hz : h₀.objs.size <= h'.objs.size) : HR prog w gad h₀ ext ρ σ h' where
 keep := fun b o e => hs b o (H.keep b o e)
 exs := fun p hp => let ⟨o, e, l⟩ := H.exs p hp; ⟨o, hs _ _ e, l⟩
 len := H.len
 obj := fun i a o e1 e2 => let ⟨O, q1, q2⟩ := H.obj i a o e1 e2; ⟨O, hs _ _ q1, q2⟩
 above := H.above
 nd := H.nd
 disj := H.disj
 exa := H.exa
 size := hz
theorem HR.push (H : HR prog w gad h₀ ext ρ σ h) (o : Obj) : HR prog w gad h₀ ext ρ σ (h.push o) :=
 H.keeps (fun _ _ e => Heap.get?_push_of_some _ e) (by rw [Heap.size_push]; exact Nat.le_succ_of_le H.size)
theorem HR.newAt {a : Addr} (H : HR prog w gad h₀ ext ρ σ h) (ha : h.objs.size <= a) : a ∉ ρ /\ (∀ p ∈ ext, p.1 ≠ a) /\ h₀.objs.size <= a :=
 ⟨fun m => Nat.lt_irrefl _ (Nat.lt_of_lt_of_le (H.lt m) ha), fun p hp q => by refine x1_2 (H.exs p hp) fun o e _ => ?_; exact Nat.lt_irrefl _ (Nat.lt_of_lt_of_le (Heap.lt_size e) (q ▸ ha)), Nat.le_trans H.size ha⟩
theorem HR.alloc (H : HR prog w gad h₀ ext ρ σ h) {a : Addr} {o : O} {ob : Obj} (hk : ∀ b x, h.get? b = some x -> h'.get? b = some x) (hz : h₀.objs.size <= h'.objs.size)
 (ha : h.objs.size <= a) (e : h'.get? a = some ob) (r : OR prog w gad (ρ ++ [a]) o ob) : HR prog w gad h₀ ext (ρ ++ [a]) (σ ++ [o]) h' := by
 refine x0_3 (H.newAt ha) fun n1 n2 n3 => ?_
 have hp : ρ <+: ρ ++ [a] := pfa ..
 refine ⟨fun b x q => hk _ _ (H.keep _ _ q), fun p hp => let ⟨x, q, l⟩ := H.exs p hp; ⟨x, hk _ _ q, l⟩, by simp [H.len], fun i b x e1 e2 => ?_, fun b hb => ?_, ?_, fun p hp q => ?_, H.exa, hz⟩
 · by_cases hi : i < ρ.length
   · rw [List.getElem?_append_left hi] at e1
     rw [List.getElem?_append_left (H.len ▸ hi)] at e2
     refine x1_2 (H.obj i b x e1 e2) fun ob' q1 q2 => ?_
     exact i1_2 ob' (hk _ _ q1) (q2.mono hp)
   · have hi' := Nat.le_of_not_lt hi
     rw [List.getElem?_append_right hi'] at e1
     rw [List.getElem?_append_right (H.len ▸ hi'), <- H.len] at e2
     have h0 : i - ρ.length = 0 := by
      have := (gsm e1).1
      simp at this; omega
     rw [h0] at e1 e2
     refine so1 e1 ?_; refine so1 e2 ?_
     exact i1_2 ob e r
 · rcases List.mem_append.mp hb with hb | hb
   · exact H.above b hb
   · rw [List.mem_singleton.mp hb]; exact n3
 · rw [List.nodup_append]
   exact ⟨H.nd, by simp, fun x hx y hy q => n1 (by rw [List.mem_singleton.mp hy] at q; exact q ▸ hx)⟩
 · rcases List.mem_append.mp q with q | q
   · exact H.disj p hp q
   · exact n2 p hp (List.mem_singleton.mp q)
theorem HR.track (H : HR prog w gad h₀ ext ρ σ h) {a : Addr} {o : O} {ob : Obj} (n1 : a ∉ ρ) (n2 : ∀ p ∈ ext, p.1 ≠ a) (n3 : h₀.objs.size <= a) (e : h.get? a = some ob) (r : OR prog w gad (ρ ++ [a]) o ob) :
 HR prog w gad h₀ ext (ρ ++ [a]) (σ ++ [o]) h := by
 have hp : ρ <+: ρ ++ [a] := pfa ..
 refine ⟨H.keep, H.exs, by simp [H.len], fun i b x e1 e2 => ?_, fun b hb => ?_, ?_, fun p hp q => ?_, H.exa, H.size⟩
 · by_cases hi : i < ρ.length
   · rw [List.getElem?_append_left hi] at e1
     rw [List.getElem?_append_left (H.len ▸ hi)] at e2
     refine x1_2 (H.obj i b x e1 e2) fun ob' q1 q2 => ?_
     exact i1_2 ob' q1 (q2.mono hp)
   · have hi' := Nat.le_of_not_lt hi
     rw [List.getElem?_append_right hi'] at e1
     rw [List.getElem?_append_right (H.len ▸ hi'), <- H.len] at e2
     have h0 : i - ρ.length = 0 := by
      have := (gsm e1).1
      simp at this; omega
     rw [h0] at e1 e2
     refine so1 e1 ?_; refine so1 e2 ?_
     exact i1_2 ob e r
 · rcases List.mem_append.mp hb with hb | hb
   · exact H.above b hb
   · rw [List.mem_singleton.mp hb]; exact n3
 · rw [List.nodup_append]
   exact ⟨H.nd, by simp, fun x hx y hy q => n1 (by rw [List.mem_singleton.mp hy] at q; exact q ▸ hx)⟩
 · rcases List.mem_append.mp q with q | q
   · exact H.disj p hp q
   · exact n2 p hp (List.mem_singleton.mp q)
theorem HR.allocPush (H : HR prog w gad h₀ ext ρ σ h) {o : O} {ob : Obj} (r : OR prog w gad (ρ ++ [h.objs.size]) o ob) : HR prog w gad h₀ ext (ρ ++ [h.objs.size]) (σ ++ [o]) (h.push ob) :=
 H.alloc (fun _ _ e => Heap.get?_push_of_some _ e) (by rw [Heap.size_push]; exact Nat.le_succ_of_le H.size) (Nat.le_refl _) (Heap.get?_push_size _ r.notFreed) r
theorem HR.upd (H : HR prog w gad h₀ ext ρ σ h) {i : Nat} {a : Addr} {o : O} {ob : Obj} (hi : ρ[i]? = some a) (hs : Heap.SameBut a h h') (e : h'.get? a = some ob) (r : OR prog w gad ρ o ob) :
 HR prog w gad h₀ ext ρ (σ.set i o) h' := by
 have hm : a ∈ ρ := List.mem_of_getElem? hi
 refine ⟨fun b x q => ?_, fun p hp => ?_, by simp [H.len], fun j b x e1 e2 => ?_, H.above, H.nd, H.disj, H.exa, by rw [hs.1]; exact H.size⟩
 · exact (hs.2 b fun q' => Nat.lt_irrefl _ (Nat.lt_of_lt_of_le (Heap.lt_size q) (q' ▸ H.above a hm))).trans (H.keep b x q)
 · refine x1_2 (H.exs p hp) fun x q l => ?_
   exact ⟨x, (hs.2 p.1 fun (q' : p.1 = a) => H.disj p hp (by rw [q']; exact hm)).trans q, l⟩
 · by_cases hj : j = i
   · subst hj
     rw [hi] at e1; refine so1 e1 ?_
     rw [List.getElem?_set_self (by rw [<- H.len]; exact (gsm hi).1)] at e2
     refine so1 e2 ?_
     exact ⟨ob, e, r⟩
   · rw [List.getElem?_set_ne (Ne.symm hj)] at e2
     refine x1_2 (H.obj j b x e1 e2) fun ob' q1 q2 => ?_
     refine ⟨ob', (hs.2 b fun q => hj ?_).trans q1, q2⟩
     subst q
     have l1 := (gsm e1)
     have l2 := (gsm hi)
     exact (List.getElem_inj H.nd).mp (l1.2.trans l2.2.symm)
theorem HR.mono_ext {ext' : List (Addr × Obj)} (H : HR prog w gad h₀ ext ρ σ h) (hs : ∀ p ∈ ext', p ∈ ext) : HR prog w gad h₀ ext' ρ σ h :=
 ⟨H.keep, fun p hp => H.exs p (hs p hp), H.len, H.obj, H.above, H.nd, fun p hp => H.disj p (hs p hp), fun p hp => H.exa p (hs p hp), H.size⟩
theorem HR.cons_ext (H : HR prog w gad h₀ ext ρ σ h) {p : Addr × Obj} {o : Obj} (e : h.get? p.1 = some o) (l : Like p.2 o) (hn : p.1 ∉ ρ) (ha : h₀.objs.size <= p.1) : HR prog w gad h₀ (p :: ext) ρ σ h :=
 ⟨H.keep, fun q hq => by
  rcases List.mem_cons.mp hq with rfl | hq
  · exact ⟨o, e, l⟩
  · exact H.exs q hq, H.len, H.obj, H.above, H.nd, fun q hq => by
  rcases List.mem_cons.mp hq with rfl | hq
  · exact hn
  · exact H.disj q hq, fun q hq => by
  rcases List.mem_cons.mp hq with rfl | hq
  · exact ha
  · exact H.exa q hq, H.size⟩
theorem HR.sized {h' : Heap} (H : HR prog w gad h₀ ext ρ σ h) (hne : ext ≠ []) (hs : ∀ p ∈ ext, ∃ o, h'.get? p.1 = some o) : h₀.objs.size <= h'.objs.size := by
 cases ext with
 | nil => exact absurd rfl hne
 | cons p r =>
   obtain ⟨o, e⟩ := hs p (.head _)
   exact Nat.le_trans (H.exa p (.head _)) (Nat.le_of_lt (Heap.lt_size e))
theorem HR.keepsE {h' : Heap} (H : HR prog w gad h₀ ext ρ σ h) (hne : ext ≠ []) (hs : ∀ b o, h.get? b = some o -> h'.get? b = some o) : HR prog w gad h₀ ext ρ σ h' :=
 H.keeps hs (H.sized hne fun p hp => let ⟨o, e, _⟩ := H.exs p hp; ⟨o, hs _ _ e⟩)
theorem HR.allocE (H : HR prog w gad h₀ ext ρ σ h) (hne : ext ≠ []) {a : Addr} {o : O} {ob : Obj} (hk : ∀ b x, h.get? b = some x -> h'.get? b = some x)
 (ha : h.objs.size <= a) (e : h'.get? a = some ob) (r : OR prog w gad (ρ ++ [a]) o ob) : HR prog w gad h₀ ext (ρ ++ [a]) (σ ++ [o]) h' :=
 H.alloc hk (H.sized hne fun p hp => let ⟨o, e, _⟩ := H.exs p hp; ⟨o, hk _ _ e⟩) ha e r
end
structure St where
 prog : Program
 w : World
 gad : List Addr
 g : List O
 h₀ : Heap
 K : Frag
 p : Program
 loose : List Str
 mean : ExcName -> Option Value
 mg : Str -> Option Value
 mb : Str -> Option Value
 fad : List Addr
noncomputable abbrev St.HR (S : St) (ext : List (Addr × Obj)) (ρ : List Addr) (σ : Hp) (h : Heap) : Prop := Mine.HR S.prog S.w S.gad S.h₀ ext ρ σ h
noncomputable abbrev St.VR (S : St) (ρ : List Addr) (x : V) (v : Value) : Prop := Mine.VR S.gad ρ x v
noncomputable abbrev St.VRs (S : St) (ρ : List Addr) (x : List V) (v : List Value) : Prop := Mine.VRs S.gad ρ x v
noncomputable abbrev St.OR (S : St) (ρ : List Addr) (x : O) (o : Obj) : Prop := Mine.OR S.prog S.w S.gad ρ x o
noncomputable abbrev St.M (S : St) : Model := model S.prog S.w
structure St.Good (S : St) : Prop where
 X : S.K.In S.h₀
 T : Top S.p S.loose S.mean S.mg S.mb S.h₀
 geo : ∀ y ∈ fieldNames, plainGet S.K geoCls y = true /\ hasDictIn S.K geoCls = true /\ (∃ at_, findIn S.K (.ref geoCls) y = some at_ /\ noGet S.K at_ = true) /\ takerIn S.K geoCls y = some none
 geoSet : findIn S.K (.ref geoCls) "__setattr__" = some (some (.builtin "object.__setattr__")) /\ plainOver S.K geoCls = true
 G : ∀ (k : Nat) (o : O), S.g[k]? = some o -> ∃ a ob, S.gad[k]? = some a /\ S.h₀.get? a = some ob /\ S.OR [] o ob
structure Room (n : Nat) (A : Around) (ext : List (Addr × Obj)) : Prop where
 hd : A.handled = none
 depth : A.depth + n < recursionLimit
 units : A.units + 8 * n + 100 < cLine
 frames : ∃ l, A.frames = some l /\ ∀ env ∈ l, env.scope.kind = .function /\ ∃ L o es ep, env.frame = some L /\ (L, o) ∈ ext /\ o.data = .dict es ep
theorem Room.mono {n : Nat} {A : Around} {ext ext' : List (Addr × Obj)} (R : Room n A ext) (h : ∀ p ∈ ext, p ∈ ext') : Room n A ext' :=
 ⟨R.hd, R.depth, R.units, let ⟨l, e, q⟩ := R.frames; (i1_2 l e (fun env he => let ⟨k, L, o, es, ep, a, b, c⟩ := q env he; ⟨k, L, o, es, ep, a, h _ b, c⟩))⟩
noncomputable def Res (S : St) (s : Shared) (ext : List (Addr × Obj)) (ρ : List Addr) (σ' : Hp) (x : V) (v' : Value) (s' : Shared) : Prop :=
 ∃ ρ' h' t', ρ <+: ρ' /\ s' = { s with heap := h', toks := t' } /\ S.HR ext ρ' σ' h' /\ S.VR ρ' x v'
noncomputable def Ress (S : St) (s : Shared) (ext : List (Addr × Obj)) (ρ : List Addr) (σ' : Hp) (x : List V) (v' : List Value) (s' : Shared) : Prop :=
 ∃ ρ' h' t', ρ <+: ρ' /\ s' = { s with heap := h', toks := t' } /\ S.HR ext ρ' σ' h' /\ S.VRs ρ' x v'
noncomputable def Resb (S : St) (s : Shared) (ext : List (Addr × Obj)) (ρ : List Addr) (σ' : Hp) (x : Bool) (v' : Bool) (s' : Shared) : Prop :=
 ∃ ρ' h' t', ρ <+: ρ' /\ s' = { s with heap := h', toks := t' } /\ S.HR ext ρ' σ' h' /\ v' = x
noncomputable def Resu (S : St) (s : Shared) (ext : List (Addr × Obj)) (ρ : List Addr) (σ' : Hp) (s' : Shared) : Prop :=
 ∃ ρ' h' t', ρ <+: ρ' /\ s' = { s with heap := h', toks := t' } /\ S.HR ext ρ' σ' h'
noncomputable abbrev Nope : Value -> Shared -> Prop := fun _ _ => False
noncomputable def Reads1 (env : Env) (ext : List (Addr × Obj)) (x : Str) (v : Value) : Prop :=
 (env.kindOf x = some .local /\ ∃ o es ep, (env.locals, o) ∈ ext /\ o.data = .dict es ep /\ StrKeys es /\ nsFind es x = some v) \/
 ((env.kindOf x = some .cell \/ env.kindOf x = some .free) /\ ∃ c o, env.cells.lookup x = some c /\ (c, o) ∈ ext /\ o.data = .cell (some v))
noncomputable def Sees (S : St) (env : Env) (xs : List Str) (m : Frm) (ρ : List Addr) (ext : List (Addr × Obj)) : Prop :=
 ∀ (i : Nat) (x : Str) (u : V), xs[i]? = some x -> m[i]? = some (some u) -> ∃ v, S.VR ρ u v /\ Reads1 env ext x v
structure EnvOk (env : Env) (gl cn : List Str) : Prop where
 kind : env.scope.kind = .function
 glob : env.globals = mainGlobals
 blt : env.builtins = builtinsNs
 gk : ∀ x ∈ gl, env.kindOf x = some .globalImplicit
 ck : ∀ x ∈ cn, env.kindOf x = some .cell
theorem Sees.mono {S : St} {env : Env} {xs : List Str} {m : Frm} {ρ ρ' : List Addr} {ext ext' : List (Addr × Obj)} (h : Sees S env xs m ρ ext) (hp : ρ <+: ρ') (he : ∀ p ∈ ext, p ∈ ext') : Sees S env xs m ρ' ext' := by
 intro i x u e1 e2
 refine x1_2 (h i x u e1 e2) fun v q r => ?_
 refine ⟨v, q.mono hp, ?_⟩
 rcases r with ⟨k, o, es, ep, e, r⟩ | ⟨k, c, o, e3, e4, r⟩
 · exact .inl ⟨k, o, es, ep, he _ e, r⟩
 · exact .inr ⟨k, c, o, e3, he _ e4, r⟩
section
variable {S : St} {s s₁ : Shared} {ext : List (Addr × Obj)} {ρ ρ₁ : List Addr} {σ σ₁ σ' : Hp} {x : V} {A : Around} {h₁ : Heap} {t₁ : Nat}
theorem Res.from {v : Value} {s' : Shared} (h : Res S { s with heap := h₁, toks := t₁ } ext ρ₁ σ' x v s') (hp : ρ <+: ρ₁) : Res S s ext ρ σ' x v s' := by
 refine x3_4 h fun ρ' h' t' q e H r => ?_
 clear h
 exact i3_4 ρ' h' t' (hp.trans q) e H r
theorem Ress.from {xs : List V} {v : List Value} {s' : Shared} (h : Ress S { s with heap := h₁, toks := t₁ } ext ρ₁ σ' xs v s') (hp : ρ <+: ρ₁) : Ress S s ext ρ σ' xs v s' := by
 refine x3_4 h fun ρ' h' t' q e H r => ?_
 clear h
 exact i3_4 ρ' h' t' (hp.trans q) e H r
theorem Resb.from {b v : Bool} {s' : Shared} (h : Resb S { s with heap := h₁, toks := t₁ } ext ρ₁ σ' b v s') (hp : ρ <+: ρ₁) : Resb S s ext ρ σ' b v s' := by
 refine x3_4 h fun ρ' h' t' q e H r => ?_
 clear h
 exact i3_4 ρ' h' t' (hp.trans q) e H r
theorem andThen {t : Sem Value} {Q : Value -> Shared -> Prop} (h : wpAny S.M A t (Res S s ext ρ σ₁ x) Nope s)
 (k : ∀ v ρ₁ h₁ t₁, ρ <+: ρ₁ -> S.HR ext ρ₁ σ₁ h₁ -> S.VR ρ₁ x v -> Q v { s with heap := h₁, toks := t₁ }) {E : Value -> Shared -> Prop} : wpAny S.M A t Q E s :=
 wpAny_mono h (fun v s' ⟨ρ', h', t', hp, e, H, r⟩ => e ▸ k v ρ' h' t' hp H r) fun _ _ f => f.elim
theorem andThens {t : Sem (List Value)} {xs : List V} {Q : List Value -> Shared -> Prop} (h : wpAny S.M A t (Ress S s ext ρ σ₁ xs) Nope s)
 (k : ∀ v ρ₁ h₁ t₁, ρ <+: ρ₁ -> S.HR ext ρ₁ σ₁ h₁ -> S.VRs ρ₁ xs v -> Q v { s with heap := h₁, toks := t₁ }) {E : Value -> Shared -> Prop} : wpAny S.M A t Q E s :=
 wpAny_mono h (fun v s' ⟨ρ', h', t', hp, e, H, r⟩ => e ▸ k v ρ' h' t' hp H r) fun _ _ f => f.elim
theorem andThenb {t : Sem Bool} {b : Bool} {Q : Bool -> Shared -> Prop} (h : wpAny S.M A t (Resb S s ext ρ σ₁ b) Nope s)
 (k : ∀ ρ₁ h₁ t₁, ρ <+: ρ₁ -> S.HR ext ρ₁ σ₁ h₁ -> Q b { s with heap := h₁, toks := t₁ }) {E : Value -> Shared -> Prop} : wpAny S.M A t Q E s :=
 wpAny_mono h (fun v s' ⟨ρ', h', t', hp, e, H, r⟩ => by subst r; exact e ▸ k ρ' h' t' hp H) fun _ _ f => f.elim
theorem Res.same {v : Value} {h : Heap} {t : Nat} (H : S.HR ext ρ σ h) (r : S.VR ρ x v) : Res S s ext ρ σ x v { s with heap := h, toks := t } := i3_4 ρ h t (List.prefix_refl _) rfl H r
theorem Res.now {v : Value} (H : S.HR ext ρ σ s.heap) (r : S.VR ρ x v) : Res S s ext ρ σ x v s := i3_4 ρ s.heap s.toks (List.prefix_refl _) rfl H r
theorem VR.getRef {gad ρ : List Addr} {a : Nat} {v : Value} (h : VR gad ρ (.ref a) v) : ∃ x, ρ[a]? = some x /\ v = .ref x := h
theorem objAt (G : S.Good) (H : S.HR ext ρ σ s.heap) {x : V} {o : O} {v : Value} (e : getO S.g σ x = some o) (r : S.VR ρ x v) : ∃ a ob, v = .ref a /\ s.heap.get? a = some ob /\ S.OR ρ o ob := by
 cases x with
 | ref i =>
   refine x1_2 r fun a h1 zz1 => ?_
   clear r
   subst zz1
   refine x2_3 (H.at_ e) fun a' ob q1 q2 q3 => ?_
   rw [h1] at q1; cases q1
   exact i2_3 a ob rfl q2 q3
 | gref k =>
   refine x1_2 r fun a h1 zz2 => ?_
   clear r
   subst zz2
   refine x2_3 (G.G k o e) fun a' ob q1 q2 q3 => ?_
   rw [h1] at q1; cases q1
   exact i2_3 a ob rfl (H.keep _ _ q2) (q3.mono List.nil_prefix)
 | _ => exact nn e
theorem VRs.length {gad ρ : List Addr} {xs : List V} {vs : List Value} (h : VRs gad ρ xs vs) : xs.length = vs.length := by
 induction xs generalizing vs with
 | nil => cases h; rfl
 | cons _ _ ih => refine x2_3 h fun v r e _ hr => ?_; subst e; exact congrArg (· + 1) (ih hr)
theorem VRs.at_ {gad ρ : List Addr} {xs : List V} {vs : List Value} (h : VRs gad ρ xs vs) {i : Nat} {x : V} (hx : xs[i]? = some x) : ∃ v, vs[i]? = some v /\ VR gad ρ x v := by
 induction xs generalizing vs i with
 | nil => exact nn hx
 | cons _ _ ih =>
   refine x2_3 h fun v r e a hr => ?_
   subst e
   cases i with
   | zero => cases hx; exact i1_2 v rfl a
   | succ i => exact ih hr hx
theorem VRs.none_at {gad ρ : List Addr} {xs : List V} {vs : List Value} (h : VRs gad ρ xs vs) {i : Nat} (hx : xs[i]? = none) : vs[i]? = none := by
 rw [List.getElem?_eq_none_iff] at hx ⊢; rw [<- h.length]; exact hx
theorem VRs.append {gad ρ : List Addr} {xs ys : List V} {vs us : List Value} (h : VRs gad ρ xs vs) (h' : VRs gad ρ ys us) : VRs gad ρ (xs ++ ys) (vs ++ us) := by
 induction xs generalizing vs with
 | nil => cases h; exact h'
 | cons _ _ ih => refine x2_3 h fun v r e a hr => ?_; subst e; exact i2_3 v _ rfl a (ih hr)
theorem VRs.drop {gad ρ : List Addr} {xs : List V} {vs : List Value} (n : Nat) (h : VRs gad ρ xs vs) : VRs gad ρ (xs.drop n) (vs.drop n) := by
 induction n generalizing xs vs with
 | zero => exact h
 | succ n ih =>
   cases xs with
   | nil => cases h; rfl
   | cons _ _ => refine x2_3 h fun v r e a hr => ?_; subst e; exact ih hr
theorem VRs.take {gad ρ : List Addr} {xs : List V} {vs : List Value} (n : Nat) (h : VRs gad ρ xs vs) : VRs gad ρ (xs.take n) (vs.take n) := by
 induction n generalizing xs vs with
 | zero => rfl
 | succ n ih =>
   cases xs with
   | nil => cases h; rfl
   | cons _ _ => refine x2_3 h fun v r e a hr => ?_; subst e; exact i2_3 v _ rfl a (ih hr)
theorem VRs.set {gad ρ : List Addr} {xs : List V} {vs : List Value} (n : Nat) {x : V} {v : Value} (h : VRs gad ρ xs vs) (q : VR gad ρ x v) : VRs gad ρ (xs.set n x) (vs.set n v) := by
 induction xs generalizing vs n with
 | nil => cases h; rfl
 | cons _ _ ih =>
   refine x2_3 h fun u r e a hr => ?_
   subst e
   cases n with
   | zero => exact i2_3 _ _ rfl q hr
   | succ n => exact i2_3 u _ rfl a (ih n hr)
theorem VRs.replicate {gad ρ : List Addr} {x : V} {v : Value} (h : VR gad ρ x v) : ∀ n, VRs gad ρ (List.replicate n x) (List.replicate n v)
 | 0 => rfl
 | n + 1 => i2_3 v _ rfl h (VRs.replicate h n)
theorem intsOf_are {gad ρ : List Addr} {xs : List V} {l : List Int} {vs : List Value} (e : intsOf xs = some l) (h : VRs gad ρ xs vs) : IntsAre vs l := by
 induction xs generalizing l vs with
 | nil => cases e; cases h; exact .nil
 | cons x r ih =>
   refine x2_3 h fun v us q a hr => ?_
   subst q
   cases x with
   | int i =>
     obtain ⟨t, rfl⟩ := a
     refine x1_2 (Option.map_eq_some_iff.mp e) fun l' e' y1 => ?_
     subst y1
     exact .cons _ _ (ih e' hr)
   | _ => exact nn e
end
noncomputable def opB : Operator -> Option B
 | .Add => some .add | .Sub => some .sub | .Mult => some .mul | .FloorDiv => some .fdiv | .Mod => some .mod | .BitAnd => some .and | .BitOr => some .or
 | .BitXor => some .xor | .LShift => some .shl | .RShift => some .shr | .Pow => some .pow | _ => none
noncomputable def opC : CmpOp -> Option C
 | .Lt => some .lt | .LtE => some .le | .Gt => some .gt | .GtE => some .ge | .Eq => some .eq | .NotEq => some .ne | .Is => some .is_ | .In => some .in_ | .NotIn => some .notin | _ => none
section
variable {S : St} {s : Shared} {ext : List (Addr × Obj)} {ρ : List Addr} {σ σ' : Hp} {A : Around} {n : Nat}
theorem HR.toks {t : Nat} (H : S.HR ext ρ σ s.heap) : S.HR ext ρ σ ({ s with toks := t } : Shared).heap := H
theorem intRes {i : Int} {t u : Nat} (H : S.HR ext ρ σ s.heap) : Res S s ext ρ σ (.int i) (.int i u) { s with toks := t } := i3_4 ρ s.heap t (List.prefix_refl _) rfl H ⟨u, rfl⟩
noncomputable def opOfB : B -> Operator
 | .add => .Add | .sub => .Sub | .mul => .Mult | .fdiv => .FloorDiv | .mod => .Mod | .and => .BitAnd | .or => .BitOr | .xor => .BitXor | .shl => .LShift | .shr => .RShift | .pow => .Pow
theorem opB_inv {op : Operator} {o : B} (h : opB op = some o) : op = opOfB o := by cases op <;> cases h <;> rfl
noncomputable def opOfC : C -> CmpOp
 | .lt => .Lt | .le => .LtE | .gt => .Gt | .ge => .GtE | .eq => .Eq | .ne => .NotEq | .is_ => .Is | .in_ => .In | .notin => .NotIn
theorem opC_inv {op : CmpOp} {o : C} (h : opC op = some o) : op = opOfC o := by cases op <;> cases h <;> rfl
theorem le_mega {b : Int} (h : b <= 1000) : b <= 1000000 := Int.le_trans h (by decide)
theorem arith_snd {o : B} {op : Operator} {a b r : Int} {t u : Tok} (ho : opB op = some o) (e : arith o a b = some r) (H : S.HR ext ρ σ s.heap) :
 wpAny S.M A (binaryOp op (.int a t) (.int b u)) (Res S s ext ρ σ (.int r)) Nope s := by
 cases opB_inv ho
 cases o with
 | add => exact so1 e (add_int (intRes H))
 | sub => exact so1 e (sub_int (intRes H))
 | mul => exact if_inv e fun q e => so1 e (mul_int (intRes H) (IntMulOk.of_left (intBits_le q.1)))
 | mod => exact if_inv e fun q e => so1 e (mod_int q (intRes H))
 | pow => exact if_inv e fun q e => so1 e (pow_int_small q.1 (le_mega q.2.1) q.2.2 (intRes H))
 | shl => exact if_inv e fun q e => so1 e (lshift_int_small q.1 (le_mega q.2.1) q.2.2 (intRes H))
 | shr => exact if_inv e fun q e => so1 e (rshift_int q.1 (intRes H))
 | or => exact so1 e (or_int (intRes H))
 | xor => exact so1 e (xor_int (intRes H))
 | and => exact so1 e (and_int (intRes H))
 | fdiv => exact if_inv e fun q e => so1 e (floordiv_int q.1 (intRes H) (.inl (PyProof.noPylong_small q.2)))
theorem arithI_snd {o : B} {op : Operator} {a b r : Int} {t u : Tok} (ho : opB op = some o) (e : arith o a b = some r) (H : S.HR ext ρ σ s.heap) :
 wpAny S.M A (inplaceOp op (.int a t) (.int b u)) (Res S s ext ρ σ (.int r)) Nope s := by
 cases opB_inv ho
 cases o with
 | add => exact so1 e (iadd_int (intRes H))
 | sub => exact so1 e (isub_int (intRes H))
 | mul => exact if_inv e fun q e => so1 e (imul_int (intRes H) (IntMulOk.of_left (intBits_le q.1)))
 | mod => exact if_inv e fun q e => so1 e (imod_int q (intRes H))
 | pow => exact if_inv e fun q e => so1 e (ipow_int_small q.1 (le_mega q.2.1) q.2.2 (intRes H))
 | shl => exact if_inv e fun q e => so1 e (ilshift_int_small q.1 (le_mega q.2.1) q.2.2 (intRes H))
 | shr => exact if_inv e fun q e => so1 e (irshift_int q.1 (intRes H))
 | or => exact so1 e (ior_int (intRes H))
 | xor => exact so1 e (ixor_int (intRes H))
 | and => exact so1 e (iand_int (intRes H))
 | fdiv => exact if_inv e fun q e => so1 e (ifloordiv_int q.1 (intRes H) (.inl (PyProof.noPylong_small q.2)))
theorem seqSz {xs : List V} {vs : Array Value} {gad : List Addr} (h : VRs gad ρ xs vs.toList) : vs.size = xs.length := by rw [h.length]; simp
theorem listAt (G : S.Good) (H : S.HR ext ρ σ s.heap) {x : V} {xs : List V} {v : Value} (e : listOf S.g σ x = some xs) (r : S.VR ρ x v) {X : Prop} (k : ∀ a vs n, v = .ref a -> s.heap.get? a = some { cls := .type "list", data := .seq vs n } -> S.VRs ρ xs vs.toList -> X) : X := by
 unfold listOf at e
 split at e <;> cases e
 rename_i q
 refine x2_3 (objAt G H q r) fun l ob y hl z => ?_
 refine x2_2 z fun vs n z r => ?_
 cases z
 exact k l vs n y hl r
theorem tupAt (G : S.Good) (H : S.HR ext ρ σ s.heap) {x : V} {xs : List V} {v : Value} (e : tupOf S.g σ x = some xs) (r : S.VR ρ x v) {X : Prop} (k : ∀ a vs n, v = .ref a -> s.heap.get? a = some { cls := .type "tuple", data := .seq vs n } -> S.VRs ρ xs vs.toList -> X) : X := by
 refine x2_3 (objAt G H (tupOf_inv e) r) fun l ob y hl z => ?_
 refine x2_2 z fun vs n z r => ?_
 cases z
 exact k l vs n y hl r
theorem rep_one {zv : Value} {k : Nat} : ∀ acc : Array Value, List.foldl (fun x1 x2 => x1 ++ x2) acc (List.replicate k #[zv]) = acc ++ (List.replicate k zv).toArray := by
 induction k with
 | zero => intro acc; simp
 | succ k ih => intro acc; rw [List.replicate_succ, List.foldl_cons, ih]; apply Array.toList_inj.mp; simp [List.replicate_succ]
theorem rep_snd {x y v : V} {a b : Value} (G : S.Good) (e : repV S.g x y σ = some (v, σ')) (H : S.HR ext ρ σ s.heap) (ra : S.VR ρ x a) (rb : S.VR ρ y b) : wpAny S.M A (binaryOp .Mult a b) (Res S s ext ρ σ' v) Nope s := by
 refine x1_2 (b1_inv e) fun xs q e => ?_
 match xs, q, e with
 | [z], q, e =>
   refine x1_2 (b1_inv e) fun n q2 e => if_inv e fun q3 e => ?_
   refine so2 e ?_
   rw [asInt_inv q2] at rb
   refine Exists.elim rb fun u y => ?_
   subst y
   refine listAt G H q ra fun l vs k y hl r => ?_
   subst y
   refine x2_3 r fun zv r' ev rz hr => ?_
   cases hr
   have hvs : vs = #[zv] := by apply Array.toList_inj.mp; exact ev
   subst hvs
   refine wpAny_binaryOp_repeat_ref (T := "list") (U := "int") (by decide) ⟨_, hl, rfl⟩ (fun s' => typeIs_int s' _ u) noFill_list_mul F.fills_int_mul F.slot_int_rmul repeat_list F.slot_int_index.lookup
    (call_meets F.slot_int_rmul (typeIs_int s _ u) F.entry_int_rmul (F.args_int_rmul_2 _ _) (int___rmul___int_list n u l #[zv] k)
     ⟨hl, rfl, ⟨_, hl, rfl⟩, call_meets F.slot_list_mul ⟨_, hl, rfl⟩ F.entry_list_mul (F.args_list_mul_2 _ _)
      (AutoListH.list___mul___list_int_3 l #[zv] k n u (by simp [Builtin.List.listFitsIndex]; lia) (by simp only [List.size_toArray, List.length_cons, List.length_nil]; lia) (by simp [Builtin.List.listTooLong, sizeLine]; lia))
      ⟨hl, ?_⟩⟩)
   have e1 : (List.foldl (fun x1 x2 => x1 ++ x2) #[] (List.replicate (if (#[zv] : Array Value).isEmpty = true then 0 else n.toNat) #[zv])) = (List.replicate n.toNat zv).toArray := by
    rw [rep_one]; simp
   rw [e1]
   exact i3_4 (ρ ++ [s.heap.objs.size]) _ _ (pfa ..) rfl (H.allocPush (i2_2 _ _ rfl (VRs.replicate (rz.mono (pfa ..)) _))) (i1_2 _ (by rw [<- H.len]; simp) rfl)
 | [], _, e => exact nn e
 | _ :: _ :: _, _, e => exact nn e
theorem cat_snd {x y v : V} {a b : Value} (G : S.Good) (e : catV S.g x y σ = some (v, σ')) (H : S.HR ext ρ σ s.heap) (ra : S.VR ρ x a) (rb : S.VR ρ y b) : wpAny S.M A (binaryOp .Add a b) (Res S s ext ρ σ' v) Nope s := by
 refine x1_2 (b1_inv e) fun xs q1 e => x1_2 (b1_inv e) fun ys q2 e => if_inv e fun q3 e => ?_
 refine so2 e ?_
 refine tupAt G H q1 ra fun l vs k y hl r => ?_
 subst y
 refine tupAt G H q2 rb fun l2 vs2 k2 y hl2 r2 => ?_
 subst y
 have z1 := seqSz r
 have z3 := seqSz r2
 refine PySem.P.add_tuple hl hl2 (fun q => ?_) (fun q => ?_) ?_ ?_
 · rw [Array.isEmpty_iff.mp q] at z1; exact absurd q3.1.1 (by rw [<- z1]; exact Nat.lt_irrefl 0)
 · rw [Array.isEmpty_iff.mp q] at z3; exact absurd q3.1.2 (by rw [<- z3]; exact Nat.lt_irrefl 0)
 · exact i3_4 (ρ ++ [s.heap.objs.size]) _ _ (pfa ..) rfl (H.allocPush (i2_2 _ _ rfl (by simpa using (r.append r2).mono (pfa ρ [s.heap.objs.size])))) (i1_2 _ (by rw [<- H.len]; simp) rfl)
 · rw [z1, z3, sizeLine_eq]; lia
theorem binop_snd {o : B} {op : Operator} {x y v : V} {a b : Value} (G : S.Good) (ho : opB op = some o) (e : binop S.g o x y σ = some (v, σ')) (H : S.HR ext ρ σ s.heap) (ra : S.VR ρ x a) (rb : S.VR ρ y b) :
 wpAny S.M A (binaryOp op a b) (Res S s ext ρ σ' v) Nope s := by
 refine onInts_inv e (fun i j hx hy e => ?_) fun e => ?_
 · subst hx hy
   refine Exists.elim ra fun t y => Exists.elim rb fun u z => ?_
   subst y z
   refine x1_2 (Option.map_eq_some_iff.mp e) fun r e2 y => ?_
   cases y
   exact arith_snd ho e2 H
 · cases opB_inv ho
   cases o with
   | mul => exact rep_snd G e H ra rb
   | add => exact cat_snd G e H ra rb
   | _ => exact nn e
theorem truth_snd {x : V} {b : Bool} {v : Value} (e : truth x = some b) (H : S.HR ext ρ σ s.heap) (r : S.VR ρ x v) : wpAny S.M A (truthy v) (Resb S s ext ρ σ b) Nope s := by
 cases x with
 | bool c => refine so1 e ?_; cases r; exact wpAny_truthy_bool (i3_4 ρ s.heap s.toks (List.prefix_refl _) rfl H rfl)
 | int i =>
   refine so1 e ?_
   obtain ⟨t, rfl⟩ := r
   refine truthy_int (i3_4 ρ s.heap s.toks (List.prefix_refl _) rfl H ?_)
   by_cases h : i = 0 <;> simp [h]
 | _ => exact nn e
theorem beq_dec {a b : Int} : (a == b) = decide (a = b) := by by_cases h : a = b <;> simp [h]
theorem bne_dec {a b : Int} : (a != b) = decide (a ≠ b) := by by_cases h : a = b <;> simp [h]
theorem cmpI_snd {o : C} {op : CmpOp} {a b : Int} {r : Bool} {t u : Tok} (ho : opC op = some o) (e : cmpI o a b = some r) (H : S.HR ext ρ σ s.heap) :
 wpAny S.M A (compareOp op (.int a t) (.int b u)) (Res S s ext ρ σ (.bool r)) Nope s := by
 have fin : ∀ {c : Bool}, c = r -> Res S s ext ρ σ (.bool r) (.bool c) s := fun q => q ▸ Res.now H rfl
 cases opC_inv ho
 cases o with
 | eq => exact eq_int (fin (Option.some.inj e ▸ beq_dec))
 | ne => exact ne_int (fin (Option.some.inj e ▸ bne_dec))
 | lt => exact lt_int (fin (Option.some.inj e))
 | le => exact le_int (fin (Option.some.inj e))
 | gt => exact gt_int (fin (Option.some.inj e))
 | ge => exact ge_int (fin (Option.some.inj e))
 | _ => exact nn e
theorem isList_of {a : Addr} {vs : Array Value} {n : Nat} {h : Heap} (e : h.get? a = some { cls := .type "list", data := .seq vs n }) : h.IsList a vs := ⟨_, e, rfl, n, rfl⟩
theorem any_mem {l : List Int} {a : Int} : (l.any (· == a)) = decide (a ∈ l) := by
 induction l with
 | nil => simp
 | cons x r ih =>
   rw [List.any_cons, ih]
   by_cases h : x = a
   · simp [h]
   · have : ¬ a = x := fun q => h q.symm
     simp [h, this]
theorem eqList_snd {a b : Addr} {vs us : Array Value} {n k : Nat} (hu : A.units < cLine) (ha : s.heap.get? a = some { cls := .type "list", data := .seq vs n }) (hb : s.heap.get? b = some { cls := .type "list", data := .seq us k })
 (hz : us.size = 0) {Q : Value -> Shared -> Prop} (h : Q (.bool (decide (vs.size = 0))) s) {E : Value -> Shared -> Prop} : wpAny S.M A (compareOp .Eq (.ref a) (.ref b)) Q E s := by
 by_cases hv : vs.size = 0
 · refine PySem.SeqAt.eq_listAt (e := fun _ => true) (isList_of ha) (isList_of hb) (by rw [hv, hz]) hu (fun j h1 => absurd h1 (by lia)) ?_
   rw [hv] at h ⊢
   simpa using h
 · refine PySem.SeqAt.eq_list_lengthsAt (isList_of ha) (isList_of hb) (by simp [hz, hv]) hu ?_
   simpa [hv] using h
theorem neList_snd {a b : Addr} {vs us : Array Value} {n k : Nat} (hu : A.units < cLine) (ha : s.heap.get? a = some { cls := .type "list", data := .seq vs n }) (hb : s.heap.get? b = some { cls := .type "list", data := .seq us k })
 (hz : us.size = 0) {Q : Value -> Shared -> Prop} (h : Q (.bool (decide (vs.size ≠ 0))) s) {E : Value -> Shared -> Prop} : wpAny S.M A (compareOp .NotEq (.ref a) (.ref b)) Q E s := by
 by_cases hv : vs.size = 0
 · refine PySem.SeqAt.RcNeAt.lists (e := fun _ => true) (isList_of ha) (isList_of hb) (by rw [hv, hz]) hu (fun j h1 => absurd h1 (by lia)) _ _ _ _ ?_
   rw [hv] at h ⊢
   simpa using h
 · refine PySem.SeqAt.RcNeAt.lists_lengths (isList_of ha) (isList_of hb) (by simp [hz, hv]) hu _ _ _ _ ?_
   simpa [hv] using h
theorem isNone_snd {x : V} {a : Value} (H : S.HR ext ρ σ s.heap) (ra : S.VR ρ x a) : wpAny S.M A (compareOp .Is a .none) (Res S s ext ρ σ (.bool (isNo x))) Nope s := by
 have h : ∀ b, Res S s ext ρ σ (.bool b) (.bool b) s := fun b => Res.now H rfl
 cases x with
 | none => cases ra; exact is_none_gen (h _)
 | bool b => cases ra; exact is_none_ne (fun q => nomatch q) (h _)
 | int i => refine Exists.elim ra fun t y => ?_; subst y; exact is_none_ne (fun q => nomatch q) (h _)
 | ref i => refine x1_2 ra fun t _ y => ?_; subst y; exact is_none_ne (fun q => nomatch q) (h _)
 | gref i => refine x1_2 ra fun t _ y => ?_; subst y; exact is_none_ne (fun q => nomatch q) (h _)
theorem cmp_snd {o : C} {op : CmpOp} {x y : V} {r : Bool} {a b : Value} (G : S.Good) (ho : opC op = some o) (hu : A.units + 64 < cLine) (e : cmpV S.g o x y σ = some r) (H : S.HR ext ρ σ s.heap) (ra : S.VR ρ x a) (rb : S.VR ρ y b) :
 wpAny S.M A (compareOp op a b) (Res S s ext ρ σ (.bool r)) Nope s := by
 have hu' : A.units < cLine := by lia
 refine onInts_inv e (fun i j hx hy e => ?_) fun e => ?_
 · subst hx hy
   refine Exists.elim ra fun t y => Exists.elim rb fun u z => ?_
   subst y z
   exact cmpI_snd ho e H
 · cases opC_inv ho
   cases o with
   | is_ =>
     refine x1_2 (b1_inv e) fun _ q e => ?_
     rw [asNone_inv q] at rb
     cases rb
     exact so1 e (isNone_snd H ra)
   | eq =>
     refine x1_2 (b1_inv e) fun xs q1 e => x1_2 (b1_inv e) fun ys q2 e => if_inv e fun q3 e => ?_
     refine so1 e ?_
     refine listAt G H q1 ra fun l vs k y hl r1 => ?_
     subst y
     refine listAt G H q2 rb fun l2 vs2 k2 y hl2 r2 => ?_
     subst y
     refine eqList_snd hu' hl hl2 ((seqSz r2).trans q3) (Res.now H ?_)
     exact congrArg Value.bool (by rw [seqSz r1]; cases xs <;> simp)
   | ne =>
     refine x1_2 (b1_inv e) fun xs q1 e => x1_2 (b1_inv e) fun ys q2 e => if_inv e fun q3 e => ?_
     refine so1 e ?_
     refine listAt G H q1 ra fun l vs k y hl r1 => ?_
     subst y
     refine listAt G H q2 rb fun l2 vs2 k2 y hl2 r2 => ?_
     subst y
     refine neList_snd hu' hl hl2 ((seqSz r2).trans q3) (Res.now H ?_)
     exact congrArg Value.bool (by rw [seqSz r1]; cases xs <;> simp)
   | in_ =>
     refine x1_2 (b1_inv e) fun i q1 e => x1_2 (b1_inv e) fun l q2 e => ?_
     refine so1 e ?_
     rw [asInt_inv q1] at ra
     refine Exists.elim ra fun t y => ?_
     subst y
     refine x1_2 (b1_inv q2) fun ys q3 q4 => ?_
     refine listAt G H q3 rb fun l2 vs2 k2 y hl2 r2 => ?_
     subst y
     exact in_list_ints (ns := l) (vs := vs2.toList) (isList_of hl2) (intsOf_are q4 r2) (Res.now H (congrArg Value.bool any_mem))
   | notin =>
     refine x1_2 (b1_inv e) fun i q1 e => x1_2 (b1_inv e) fun l q2 e => ?_
     refine so1 e ?_
     rw [asInt_inv q1] at ra
     refine Exists.elim ra fun t y => ?_
     subst y
     refine x1_2 (b1_inv q2) fun ys q3 q4 => ?_
     refine listAt G H q3 rb fun l2 vs2 k2 y hl2 r2 => ?_
     subst y
     exact notin_list_ints (ns := l) (vs := vs2.toList) (isList_of hl2) (intsOf_are q4 r2) (Res.now H (congrArg Value.bool (by rw [any_mem]; simp)))
   | _ => exact nn e
end
section
variable {S : St} {s : Shared} {ext : List (Addr × Obj)} {ρ : List Addr} {σ σ' : Hp} {A : Around} {n : Nat}
theorem kvGet_at {gad ρ : List Addr} {k : Int} : ∀ {kv : List (Int × V)} {l : List (Int × Value)} {x : V}, KVs gad ρ kv l -> kvGet k kv = some x -> ∃ v, valueAt l k = some v /\ VR gad ρ x v
 | [], _, _, _, e => by exact nn e
 | (i, u) :: r, _, x, ⟨v, t, q, hv, hr⟩, e => by
   subst q
   unfold kvGet at e
   unfold valueAt
   rw [List.find?_cons]
   by_cases h : i = k
   · rw [if_pos h] at e; refine so1 e ?_
     simp only [h, decide_true]
     exact i1_2 v rfl hv
   · rw [if_neg h] at e
     simp only [h, decide_false]
     exact kvGet_at hr e
theorem idx_snd {x y v : V} {a b : Value} {value slice : Expr} (G : S.Good) (e : idx S.g σ x y = some v) (H : S.HR ext ρ σ s.heap) (ra : S.VR ρ x a) (rb : S.VR ρ y b)
 (hs : ∀ o i, subscripted slice false o i = operate [o, i] (getItem o i)) : wpAny S.M A (subscriptTail value slice a b) (Res S s ext ρ σ v) Nope s := by
 unfold idx at e
 split at e
 · rename_i xs i q
   split at e
   · rename_i q2
     obtain ⟨t, rfl⟩ := rb
     refine x2_3 (objAt G H q ra) fun l ob y1 hl y2 => ?_
     subst y1
     refine x2_2 y2 fun vs k zz2 r => ?_
     clear y2
     subst zz2
     refine x1_2 (r.at_ e) fun u hu ru => ?_
     have hl' := isList_of hl
     exact tail_any hl'.typeIs slot_list_getitem.lookup (wpAny_getItem_list hl' q2.1 (by lia) (by rw [<- Array.getElem?_toList]; exact hu) (Res.now H ru)) (hs _ _)
   · exact nn e
 · rename_i xs i q
   split at e
   · rename_i q2
     obtain ⟨t, rfl⟩ := rb
     refine x2_3 (objAt G H q ra) fun l ob y3 hl y4 => ?_
     subst y3
     refine x2_2 y4 fun vs k zz4 r => ?_
     clear y4
     subst zz4
     refine x1_2 (r.at_ e) fun u hu ru => ?_
     have hT : IsTup s.heap l vs := ⟨_, hl, rfl, k, rfl⟩
     have hlt : i.toNat < vs.size := by have := (gsm hu).1; simpa using this
     exact tail_any hT.typeIs slot_tuple_getitem.lookup (PyProof.Rows.getItem_tuple hT (by lia) (by lia) (seqIndex_of q2.1 (by lia)) (by rw [<- Array.getElem?_toList]; exact hu) (Res.now H ru)) (hs _ _)
   · exact nn e
 · rename_i kv i q
   obtain ⟨t, rfl⟩ := rb
   refine x2_3 (objAt G H q ra) fun l ob y5 hl y6 => ?_
   subst y5
   refine cps fun _ zk => ?_
   refine x1_2 y6 fun kvs hd r => ?_
   clear y6
   refine x1_2 (kvGet_at r e) fun u hu ru => ?_
   have hD : s.heap.DictOf (intKind S.prog S.w) l kvs := Heap.dictOf_iff.mpr (i1_2 _ hl hd)
   refine zk ?_; clear zk
   exact tail_any hD.typeIs slot_dict_getitem.lookup (wpAny_getItem_of (intKind_is _ _ i t) hD.mapOf hu (i3_4 ρ _ _ (List.prefix_refl _) rfl H ru)) (hs _ _)
 · exact nn e
theorem fields_nodup : fieldNames.Nodup := by decide +kernel
theorem isStr_str (n y : Str) (t : Tok) : (Value.str n t).isStr y = (n == y) := rfl
theorem ny_of {n y : Str} {ns : List Str} {k : Nat} (hn : (n :: ns).Nodup) (e : ns[k]? = some y) : (n == y) = false := beq_eq_false_iff_ne.mpr fun q => (List.nodup_cons.mp hn).1 (q ▸ List.mem_of_getElem? e)
theorem putL_hit {y : Str} {hs h : Int} {k v u : Value} {t : Tok} {r : List DictEntry} : putL y hs k u (⟨h, .str y t, v⟩ :: r) = ⟨h, .str y t, u⟩ :: r := if_pos (beq_self_eq_true y)
theorem putL_miss {n y : Str} {hs h : Int} {k v u : Value} {t : Tok} {r : List DictEntry} (hny : (n == y) = false) : putL y hs k u (⟨h, .str n t, v⟩ :: r) = ⟨h, .str n t, v⟩ :: putL y hs k u r := by rw [putL]; simp only [isStr_str, hny, Bool.false_eq_true, if_false]
theorem FsR.find {gad ρ : List Addr} {fs : List V} {ns : List Str} {es : List DictEntry} {k : Nat} {x : V} {y : Str} (hn : ns.Nodup) (h : FsR gad ρ fs ns es) (e1 : fs[k]? = some x) (e2 : ns[k]? = some y) :
 ∃ e, es.find? (fun e => e.key.isStr y) = some e /\ VR gad ρ x e.val := by
 induction fs generalizing ns es k with
 | nil => exact nn e1
 | cons u fs ih =>
   refine h.inv fun n ns' hh t v r q1 q2 hv hr => ?_
   clear h
   subst q1 q2
   cases k with
   | zero => cases e1; cases e2; exact i1_2 _ (List.find?_cons_of_pos (beq_self_eq_true y)) hv
   | succ k => rw [List.find?_cons, show (Value.str n t).isStr y = false from ny_of hn e2]; exact ih (List.nodup_cons.mp hn).2 hr e1 e2
theorem FsR.noRef {gad ρ : List Addr} {fs : List V} {ns : List Str} {es : List DictEntry} (h : FsR gad ρ fs ns es) : es.any (fun e => e.refKey) = false := by
 induction fs generalizing ns es with
 | nil => cases h; rfl
 | cons u fs ih => refine h.inv fun n ns' hh t v r q1 q2 hv hr => ?_; subst q2; have q := ih hr; exact q
theorem FsR.len {gad ρ : List Addr} {fs : List V} {ns : List Str} {es : List DictEntry} (h : FsR gad ρ fs ns es) : es.length = fs.length := by
 induction fs generalizing ns es with
 | nil => cases h; rfl
 | cons u fs ih => refine h.inv fun n ns' hh t v r q1 q2 hv hr => ?_; subst q2; exact congrArg (· + 1) (ih hr)
theorem FsR.put {gad ρ : List Addr} {hs : Int} {tk : Tok} {u : Value} {fs : List V} {ns : List Str} {es : List DictEntry} {k : Nat} {x : V} {y : Str} (hn : ns.Nodup) (h : FsR gad ρ fs ns es) (hu : VR gad ρ x u) (e2 : ns[k]? = some y) (hk : k < fs.length) :
 FsR gad ρ (fs.set k x) ns (putL y hs (.str y tk) u es) := by
 induction fs generalizing ns es k with
 | nil => exact (Nat.not_lt_zero _ hk).elim
 | cons w fs ih =>
   refine h.inv fun n ns' hh t v r q1 q2 hv hr => ?_
   clear h
   subst q1 q2
   cases k with
   | zero => cases e2; rw [putL_hit]; exact i4_3 hh t u r rfl hu hr
   | succ k => rw [putL_miss (ny_of hn e2)]; exact i4_3 hh t v _ rfl hv (ih (List.nodup_cons.mp hn).2 hr e2 (Nat.lt_of_succ_lt_succ hk))
theorem FsR.add {gad ρ : List Addr} {hs : Int} {tk : Tok} {u : Value} {fs : List V} {ns : List Str} {es : List DictEntry} {x : V} {y : Str} (hn : ns.Nodup) (h : FsR gad ρ fs ns es) (hu : VR gad ρ x u) (e2 : ns[fs.length]? = some y) :
 FsR gad ρ (fs ++ [x]) ns (putL y hs (.str y tk) u es) := by
 induction fs generalizing ns es with
 | nil =>
   cases ns with
   | nil => exact nn e2
   | cons n ns => cases h; refine so1 e2 ?_; exact i4_3 hs tk u ([]) rfl hu rfl
 | cons w fs ih =>
   refine h.inv fun n ns' hh t v r q1 q2 hv hr => ?_
   clear h
   subst q1 q2
   rw [putL_miss (ny_of (k := fs.length) hn e2)]; exact i4_3 hh t v _ rfl hv (ih (List.nodup_cons.mp hn).2 hr e2)
theorem instAt (G : S.Good) (H : S.HR ext ρ σ s.heap) {r : Nat} {d : Nat} {fs : List V} {a : Value} (e1 : σ[r]? = some (.inst d)) (e2 : σ[d]? = some (.ns fs)) (ra : S.VR ρ (.ref r) a) :
 ∃ x dx od, a = .ref x /\ ρ[d]? = some dx /\ s.heap.get? dx = some od /\ S.OR ρ (.ns fs) od /\ InstAt s.heap x (instObj geoCls dx) geoCls (some od) := by
 refine x1_2 ra fun x h1 zz6 => ?_
 clear ra
 subst zz6
 refine cps fun _ zk => ?_
 refine x2_3 (H.at_ e1) fun x' ob q1 q2 y7 => ?_
 refine x1_2 y7 fun dx q3 zz7 => ?_
 clear y7
 refine zk ?_; clear zk
 subst zz7
 rw [h1] at q1; cases q1
 refine x2_3 (H.at_ e2) fun dx' od z1 z2 z3 => ?_
 rw [q3] at z1; cases z1
 exact i3_5 x dx od rfl q3 z2 z3 ⟨q2, rfl, rfl, z2⟩
theorem handed_VR {gad ρ : List Addr} {x : V} {v : Value} (h : VR gad ρ x v) : handedIn v = true := by
 cases x with
 | none => cases h; rfl
 | bool b => cases h; rfl
 | int i => obtain ⟨t, rfl⟩ := h; rfl
 | ref i => refine x1_2 h fun t _ zz9 => ?_; clear h; subst zz9; rfl
 | gref i => refine x1_2 h fun t _ zz10 => ?_; clear h; subst zz10; rfl
theorem attr_snd {x v : V} {k : Nat} {a : Value} {y : Str} {b : Bool} (G : S.Good) (hy : fieldNames[k]? = some y) (e : attr σ x k = some v) (H : S.HR ext ρ σ s.heap) (ra : S.VR ρ x a) :
 wpAny S.M A (getAttr a y b) (Res S s ext ρ σ v) Nope s := by
 unfold attr at e
 split at e
 · rename_i r
   split at e
   · rename_i d q1
     split at e
     · rename_i fs q2
       refine x3_5 (instAt G H q1 q2 ra) fun xa dx od y8 hdx hod y9 I => ?_
       subst y8
       refine x2_2 y9 fun es ep zz11 hf => ?_
       clear y9
       subst zz11
       refine cps fun _ zk => ?_
       refine x1_2 (hf.find fields_nodup e hy) fun en hen ru => ?_
       refine x0_4 (G.geo y (List.mem_of_getElem? hy)) fun g1 g2 y10 _ => ?_
       refine x1_2 y10 fun at_ g3 g4 => ?_
       clear y10
       refine zk ?_; clear zk
       refine get_value (X := G.X.keeps H.keep) I (plainGet_of g1).1 (findObj_own g2 g3 g4 ?_) (handed_VR ru) (i3_4 ρ _ _ (List.prefix_refl _) rfl H ru)
       rw [lookIn_dict]
       unfold getL
       rw [hen]
     · exact nn e
   · exact nn e
 · exact nn e
theorem kvPut_snd {gad ρ : List Addr} {k : Int} {x : V} {v : Value} (hv : VR gad ρ x v) {kv : List (Int × V)} {l : List (Int × Value)} (h : KVs gad ρ kv l) : KVs gad ρ (kvPut k x kv) (stored l k v) := by
 have h1 : ∀ {kv : List (Int × V)} {l : List (Int × Value)}, KVs gad ρ kv l -> kv.any (fun kv => kv.1 = k) = l.any (fun kv => kv.1 = k) := by
  intro kv
  induction kv with
  | nil => intro l h; cases h; rfl
  | cons p r ih =>
    obtain ⟨i, u⟩ := p
    rintro l ⟨v, t, q, _, hr⟩
    subst q
    simp [ih hr]
 have h2 : ∀ {kv : List (Int × V)} {l : List (Int × Value)}, KVs gad ρ kv l -> KVs gad ρ (kv.map (fun kv => if kv.1 = k then (kv.1, x) else kv)) (l.map (fun kv => if kv.1 = k then (kv.1, v) else kv)) := by
  intro kv
  induction kv with
  | nil => intro l h; cases h; rfl
  | cons p r ih =>
    obtain ⟨i, u⟩ := p
    rintro l ⟨v', t, q, hv', hr⟩
    subst q
    by_cases e : i = k
    · simp only [List.map_cons, e, if_true]; exact i2_3 v _ rfl hv (ih hr)
    · simp only [List.map_cons, e, if_false]; exact i2_3 v' _ rfl hv' (ih hr)
 have h3 : ∀ {kv : List (Int × V)} {l : List (Int × Value)}, KVs gad ρ kv l -> KVs gad ρ (kv ++ [(k, x)]) (l ++ [(k, v)]) := by
  intro kv
  induction kv with
  | nil => intro l h; cases h; exact i2_3 v ([]) rfl hv rfl
  | cons p r ih =>
    obtain ⟨i, u⟩ := p
    rintro l ⟨v', t, q, hv', hr⟩
    subst q
    exact i2_3 v' _ rfl hv' (ih hr)
 unfold kvPut stored
 rw [h1 h]
 split
 · exact h2 h
 · exact h3 h
theorem KVs.len {gad ρ : List Addr} : ∀ {kv : List (Int × V)} {l : List (Int × Value)}, KVs gad ρ kv l -> l.length = kv.length
 | [], _, h => by cases h; rfl
 | (_, _) :: _, _, ⟨v, t, q, _, hr⟩ => by subst q; simp [hr.len]
theorem setIdx_snd {x y v : V} {a b c : Value} (e : setIdx σ x y v = some σ') (H : S.HR ext ρ σ s.heap) (ra : S.VR ρ x a) (rb : S.VR ρ y b) (rc : S.VR ρ v c) :
 wpAny S.M A (setItem a b c) (fun _ s' => ∃ h' t', s' = { s with heap := h', toks := t' } /\ S.HR ext ρ σ' h') Nope s := by
 unfold setIdx at e
 split at e
 · rename_i r i
   obtain ⟨u, rfl⟩ := rb
   split at e
   · rename_i xs q
     split at e
     · rename_i q2
       refine so1 e ?_
       refine x1_2 ra fun l h1 zz13 => ?_
       clear ra
       subst zz13
       refine cps fun _ zk => ?_
       refine x2_3 (H.at_ q) fun l' ob z1 hl y11 => ?_
       refine x2_2 y11 fun vs k zz14 r2 => ?_
       clear y11
       refine zk ?_; clear zk
       subst zz14
       rw [h1] at z1; cases z1
       have hsz := seqSz r2
       have hk : i.toNat < vs.size := by lia
       obtain ⟨n', hn'⟩ : ∃ n', Obj.mapSeq (·.setIfInBounds i.toNat c) { cls := .type "list", data := .seq vs k } = { cls := .type "list", data := .seq (vs.setIfInBounds i.toNat c) n' } := ⟨_, rfl⟩
       refine ki_setAt hl q2.1 (by lia) (by lia) (i2_2 _ _ rfl (H.upd h1 (Heap.SameBut.update ..) (Heap.get?_update_self _ hl (by rw [hn']; rfl)) (i2_2 _ n' hn' ?_)))
       rw [Array.toList_setIfInBounds]
       exact r2.set _ rc
     · exact nn e
   · rename_i kv q
     split at e
     · rename_i q2
       refine so1 e ?_
       refine x1_2 ra fun l h1 zz15 => ?_
       clear ra
       subst zz15
       refine cps fun _ zk => ?_
       refine x2_3 (H.at_ q) fun l' ob z1 hl y12 => ?_
       refine x1_2 y12 fun kvs hd r2 => ?_
       clear y12
       refine zk ?_; clear zk
       rw [h1] at z1; cases z1
       refine wpAny_setItem_pairs (knd := intKind S.prog S.w) (intKind_is _ _ i u) (Heap.dictOf_iff.mpr (i1_2 _ hl hd)) (fun h' hD hs => ?_) (by have := r2.len; rw [sizeLine_eq]; lia)
       refine x1_2 (Heap.dictOf_iff.mp hD) fun o' ho' hd' => ?_
       exact i2_2 h' _ rfl (H.upd h1 hs ho' ⟨_, hd', kvPut_snd rc r2⟩)
     · exact nn e
   · exact nn e
 · exact nn e
end
section
variable {S : St} {s : Shared} {ext : List (Addr × Obj)} {ρ : List Addr} {σ σ' : Hp} {A : Around} {n : Nat}
theorem put_snd {K : Frag} {prog : Program} {w : World} {x C dx : Addr} {y : Str} {c : Value} {es : List DictEntry} {k : Nat} {Q : Unit -> Shared -> Prop} {E : Value -> Shared -> Prop}
 (X : K.In s.heap) (I : InstAt s.heap x (instObj C dx) C (some (dictOf es k))) (h1 : findIn K (.ref C) "__setattr__" = some (some (.builtin "object.__setattr__"))) (h2 : plainOver K C = true)
 (h3 : takerIn K C y = some none) (h4 : hasDictIn K C = true) (h5 : es.any (fun e => e.refKey) = false) (hz : (putL y (PyData.keyHash w.params y) (.str y (s.toks + 1)) c es).length <= 1000)
 (h : ∀ h', Heap.SameBut dx s.heap h' -> h'.get? dx = some (dictOf (putL y (PyData.keyHash w.params y) (.str y (s.toks + 1)) c es) (putN y es k)) -> Q () { s with heap := h', toks := s.toks + 2 }) :
 wpAny (model prog w) A (PySem.setAttr (.ref x) y c) Q E s := by
 refine set_plain X I h1 ?_
 have I' : InstAt ({ s with toks := s.toks + 1 } : Shared).heap x (instObj C dx) C (some (dictOf es k)) := I
 refine osa_open (s := { s with toks := s.toks + 1 }) X I' h2 h3 fun b => ?_
 refine x1_2 (any_some h4) fun cd hc hd => ?_
 have L1 : Looks (model prog w) ({ s with toks := s.toks + 1 } : Shared).heap (classData C) cd := looks_clsIn X hc
 have D : s.heap.get? dx = some (dictOf es k) := I.dict
 have hx := I.at_
 show wpAny _ _ (Builtin.ObjectAttr.storeInOwnDict (.ref x) (.ref C) _ y c b) _ _ _
 refine wpAny_bind (wpAny_pure (wpAny_bind (wpAny_bind (wpAny_loadPart hx (wpAny_bind (L1.here ?_))))))
 rw [hd]
 refine wpAny_pure (a := some dx) (wpAny_bind (wpAny_pure (wpAny_bind ?_)))
 unfold nsSet
 refine wpAny_bind (wpAny_bind (wpAny_askSetting (wpAny_pure (wpAny_bind (wpAny_mkText (wpAny_bind (wpAny_loadPart D ?_)))))))
 have q : (!es.toArray.any (·.key.isStr y) && es.toArray.any (·.refKey)) = false := by
  rw [<- Array.any_toList, <- Array.any_toList]
  simp only [h5, Bool.and_false]
 dsimp only
 rw [aRefKeyMayBeTheName_at, q]
 refine wpAny_updatePart D ?_
 have e1 : Obj.putName y (PyData.keyHash w.params y) (.str y (s.toks + 1)) c (dictOf es k) = dictOf (putL y (PyData.keyHash w.params y) (.str y (s.toks + 1)) c es) (putN y es k) := putName_dict ..
 have D' : (s.heap.update dx (Obj.putName y (PyData.keyHash w.params y) (.str y (s.toks + 1)) c)).get? dx = some (dictOf (putL y (PyData.keyHash w.params y) (.str y (s.toks + 1)) c es) (putN y es k)) := by
  rw [Heap.get?_update_self _ D (by rw [e1]; rfl), e1]
 refine wpAny_bind (wpAny_lookBehind D' (pastItsLine_dict (by rw [List.size_toArray, sizeLine_eq]; lia)) ?_)
 exact wpAny_pure (h _ (Heap.SameBut.update ..) D')
theorem FsR.short {gad ρ : List Addr} : ∀ {fs : List V} {ns : List Str} {es : List DictEntry}, FsR gad ρ fs ns es -> fs.length <= ns.length
 | [], _, _, _ => Nat.zero_le _
 | _ :: _, _ :: _, _, ⟨h, t, v, r, q, hv, hr⟩ => by simpa using hr.short
theorem setAttr_snd {x v : V} {k : Nat} {a c : Value} {y : Str} (G : S.Good) (hy : fieldNames[k]? = some y) (e : setAttr σ x k v = some σ') (H : S.HR ext ρ σ s.heap) (ra : S.VR ρ x a) (rc : S.VR ρ v c) :
 wpAny S.M A (PySem.setAttr a y c) (fun _ s' => ∃ h' t', s' = { s with heap := h', toks := t' } /\ S.HR ext ρ σ' h') Nope s := by
 unfold Mine.setAttr at e
 split at e
 · rename_i r
   split at e
   · rename_i d q1
     split at e
     · rename_i fs q2
       refine x3_5 (instAt G H q1 q2 ra) fun xa dx od y1 hdx hod y2 I => ?_
       subst y1
       refine x2_2 y2 fun es ep zz1 hf => ?_
       clear y2
       subst zz1
       refine x0_4 (G.geo y (List.mem_of_getElem? hy)) fun g1 g2 _ g5 => ?_
       have hk : k < 14 := (gsm hy).1
       have hl := hf.len
       split at e
       · rename_i q3
         refine so1 e ?_
         have hp := hf.put (hs := PyData.keyHash S.w.params y) (tk := s.toks + 1) fields_nodup rc hy q3
         have hfl : fs.length <= 14 := hf.short
         refine put_snd (G.X.keeps H.keep) I G.geoSet.1 G.geoSet.2 g5 g2 hf.noRef ?_ fun h' hs e' => i2_2 h' _ rfl (H.upd hdx hs e' (i2_2 _ _ rfl hp))
         rw [hp.len, List.length_set]; lia
       · split at e
         · rename_i q3
           refine so1 e ?_
           obtain ⟨rfl, q4⟩ := q3
           have hp := hf.add (hs := PyData.keyHash S.w.params y) (tk := s.toks + 1) fields_nodup rc hy
           refine put_snd (G.X.keeps H.keep) I G.geoSet.1 G.geoSet.2 g5 g2 hf.noRef ?_ fun h' hs e' => i2_2 h' _ rfl (H.upd hdx hs e' (i2_2 _ _ rfl hp))
           rw [hp.len, List.length_append]; simp only [List.length_cons, List.length_nil]; lia
         · exact nn e
     · exact nn e
   · exact nn e
 · exact nn e
noncomputable def fval : F -> Value
 | .len => .builtin "len" | .range => .type "range" | .abs => .builtin "abs" | .min => .builtin "min" | .max => .builtin "max" | .sum => .builtin "sum" | .list => .type "list"
theorem rangeSize_eq {a b c : Int} (hc : c = 1 \/ c = -1) : Builtin.Range.rangeSize a b c = (rangeLen a b c : Int) := by
 unfold Builtin.Range.rangeSize rangeLen
 rcases hc with rfl | rfl
 · simp only [show (1 : Int) > 0 by decide, if_true, Int.ediv_one]
   split <;> lia
 · simp only [show ¬ ((-1 : Int) > 0) by decide, if_false, show ¬ ((-1 : Int) = 1) by decide, Int.neg_neg, Int.ediv_one]
   split <;> lia
theorem small_of {a b c : Int} (ha : a.natAbs < 100000) (hb : b.natAbs < 100000) (hc : c = 1 \/ c = -1) : Builtin.Range.small a b c = true := by
 unfold Builtin.Range.small
 rw [rangeSize_eq hc]
 unfold Builtin.Range.rangeFitsLong rangeLen
 rcases hc with rfl | rfl <;> simp <;> omega
theorem rangeInts_get {a c : Int} : ∀ {n i : Nat}, i < n -> (rangeInts a c n)[i]? = some (.int (a + i * c))
 | 0, _, h => absurd h (Nat.not_lt_zero _)
 | n + 1, 0, _ => by simp [rangeInts]
 | n + 1, i + 1, h => by
   simp only [rangeInts, List.getElem?_cons_succ]
   rw [rangeInts_get (Nat.lt_of_succ_lt_succ h)]
   congr 2
   rw [Int.natCast_add]; simp [Int.add_mul]; lia
theorem rangeInts_len {a c : Int} : ∀ {n : Nat}, (rangeInts a c n).length = n
 | 0 => rfl
 | n + 1 => by simp [rangeInts, rangeInts_len]
theorem VRs.of_get {gad ρ : List Addr} {xs : List V} {vs : List Value} (hl : xs.length = vs.length) (h : ∀ (i : Nat) (x : V) (v : Value), xs[i]? = some x -> vs[i]? = some v -> VR gad ρ x v) : VRs gad ρ xs vs := by
 induction xs generalizing vs with
 | nil => exact List.length_eq_zero_iff.mp hl.symm
 | cons x xs ih =>
   cases vs with
   | nil => cases hl
   | cons v vs => exact i2_3 v vs rfl (h 0 x v rfl rfl) (ih (Nat.succ.inj hl) fun i x v e1 e2 => h (i + 1) x v e1 e2)
theorem minI_le : ∀ (l : List Int) (m : Int), (minI m l <= m /\ ∀ a ∈ l, minI m l <= a) /\ (minI m l = m \/ minI m l ∈ l)
 | [], m => ⟨⟨Int.le_refl _, fun a h => by cases h⟩, .inl rfl⟩
 | x :: r, m => by
   obtain ⟨⟨h1, h2⟩, h3⟩ := minI_le r (if x < m then x else m)
   unfold minI
   refine ⟨⟨?_, fun a ha => ?_⟩, ?_⟩
   · split at h1 <;> split <;> lia
   · rcases List.mem_cons.mp ha with rfl | ha
     · split at h1 <;> split <;> lia
     · exact h2 a ha
   · rcases h3 with h3 | h3
     · by_cases q : x < m
       · rw [if_pos q] at h3 ⊢; exact .inr (by rw [h3]; exact .head _)
       · rw [if_neg q] at h3 ⊢; exact .inl h3
     · exact .inr (.tail _ h3)
theorem maxI_le : ∀ (l : List Int) (m : Int), (m <= maxI m l /\ ∀ a ∈ l, a <= maxI m l) /\ (maxI m l = m \/ maxI m l ∈ l)
 | [], m => ⟨⟨Int.le_refl _, fun a h => by cases h⟩, .inl rfl⟩
 | x :: r, m => by
   obtain ⟨⟨h1, h2⟩, h3⟩ := maxI_le r (if m < x then x else m)
   unfold maxI
   refine ⟨⟨?_, fun a ha => ?_⟩, ?_⟩
   · split at h1 <;> split <;> lia
   · rcases List.mem_cons.mp ha with rfl | ha
     · split at h1 <;> split <;> lia
     · exact h2 a ha
   · rcases h3 with h3 | h3
     · by_cases q : m < x
       · rw [if_pos q] at h3 ⊢; exact .inr (by rw [h3]; exact .head _)
       · rw [if_neg q] at h3 ⊢; exact .inl h3
     · exact .inr (.tail _ h3)
theorem ints_items {vs : Array Value} {l : List Int} (h : IntsAre vs.toList l) : ∃ xs : Array (Int × Tok), vs = intItems xs /\ l = xs.toList.map (·.1) := by
 obtain ⟨xs, e⟩ := h.allInts.items
 refine i1_2 xs (by simpa using e) ?_
 have h2 := h.numsOf
 rw [<- h2, <- nums_intItems, <- e]
theorem best_eq {items : Array (Int × Tok)} {x : Int} {r : List Int} (hit : x :: r = items.toList.map (·.1)) {j : Nat} (h1 : j <= items.size - 1) (h2 : ∀ i, i <= items.size - 1 -> numAt items j <= numAt items i) : numAt items j = minI x r := by
 have hl : r.length + 1 = items.size := by have := congrArg List.length hit; simpa using this
 have hj : numAt items j ∈ x :: r := by rw [hit, numAt_eq]; exact getD_mem (by rw [List.length_map, Array.length_toList]; omega)
 refine cps fun _ zk => ?_
 obtain ⟨⟨a1, a2⟩, a3⟩ := minI_le r x
 have hm : minI x r ∈ x :: r := by rcases a3 with a3 | a3; rw [a3]; exact .head _; exact .tail _ a3
 rw [hit] at hm
 refine x1_2 (mem_getD hm) fun i hi e => ?_
 rw [List.length_map, Array.length_toList] at hi
 rw [<- numAt_eq] at e
 have b1 := h2 i (by lia)
 have b2 : minI x r <= numAt items j := by rcases List.mem_cons.mp hj with q | q; rw [q]; exact a1; exact a2 _ q
 refine zk ?_; clear zk
 lia
theorem bestG_eq {items : Array (Int × Tok)} {x : Int} {r : List Int} (hit : x :: r = items.toList.map (·.1)) {j : Nat} (h1 : j <= items.size - 1) (h2 : ∀ i, i <= items.size - 1 -> numAt items i <= numAt items j) : numAt items j = maxI x r := by
 have hl : r.length + 1 = items.size := by have := congrArg List.length hit; simpa using this
 have hj : numAt items j ∈ x :: r := by rw [hit, numAt_eq]; exact getD_mem (by rw [List.length_map, Array.length_toList]; omega)
 refine cps fun _ zk => ?_
 obtain ⟨⟨a1, a2⟩, a3⟩ := maxI_le r x
 have hm : maxI x r ∈ x :: r := by rcases a3 with a3 | a3; rw [a3]; exact .head _; exact .tail _ a3
 rw [hit] at hm
 refine x1_2 (mem_getD hm) fun i hi e => ?_
 rw [List.length_map, Array.length_toList] at hi
 rw [<- numAt_eq] at e
 have b1 := h2 i (by lia)
 have b2 : numAt items j <= maxI x r := by rcases List.mem_cons.mp hj with q | q; rw [q]; exact a1; exact a2 _ q
 refine zk ?_; clear zk
 lia
theorem mkRange_snd {a b c : Int} {v : V} {t u w : Tok} {tk : Nat} (e : mkRange a b c σ = some (v, σ')) (H : S.HR ext ρ σ s.heap) :
 Res S s ext ρ σ' v (.ref s.heap.objs.size) { s with heap := s.heap.push { cls := .type "range", data := .fields #[.int a t, .int b u, .int c w] }, toks := tk } := by
 unfold mkRange at e
 split at e
 · rename_i q
   refine so2 e ?_
   exact i3_4 (ρ ++ [s.heap.objs.size]) _ _ (pfa ..) rfl (H.allocPush ⟨q.1, q.2.1, q.2.2, t, u, w, rfl⟩) (i1_2 _ (by rw [<- H.len]; simp) rfl)
 · exact nn e
theorem one_case {γ : Prop} {xs : List V} {K : V -> Option (V × Hp)} {r : V × Hp} {as : List Value} (e : oneV xs K = some r) (ra : S.VRs ρ xs as) (f : ∀ x a, K x = some r -> S.VR ρ x a -> as = [a] -> γ) : γ := by
 unfold oneV at e
 split at e
 · exact x2_3 ra fun a r h1 h2 h3 => f _ a e h2 (h1.trans (congrArg _ h3))
 · exact nn e
theorem ints_case {α : Type} {γ : Prop} {x : V} {a : Value} {K : List Int -> Option α} {r : α} (G : S.Good) (H : S.HR ext ρ σ s.heap) (e : b1 (intsAt S.g σ x) K = some r) (ra : S.VR ρ x a) (f : ∀ l items, K (items.toList.map (·.1)) = some r -> a = .ref l -> s.heap.IsList l (intItems items) -> γ) : γ :=
 x1_2 (b1_inv e) fun ys q e => x1_2 (b1_inv q) fun xs q1 q2 => listAt G H q1 ra fun l vs k y hl r1 => x1_2 (ints_items (intsOf_are q2 r1)) fun items y2 hit => f l items (hit ▸ e) y (y2 ▸ isList_of hl)
theorem min_inv {l : List Int} {m : Int} (e : minO l = some m) : ∃ x r, x :: r = l /\ m = minI x r := by
 cases l with
 | nil => exact nn e
 | cons x r => refine so1 e ?_; exact i2_2 x r rfl rfl
theorem max_inv {l : List Int} {m : Int} (e : maxO l = some m) : ∃ x r, x :: r = l /\ m = maxI x r := by
 cases l with
 | nil => exact nn e
 | cons x r => refine so1 e ?_; exact i2_2 x r rfl rfl
theorem size_pos {items : Array (Int × Tok)} {x : Int} {r : List Int} (h : x :: r = items.toList.map (·.1)) : 0 < items.size := by
 have q := congrArg List.length h
 rw [List.length_map, Array.length_toList] at q
 exact Nat.lt_of_lt_of_eq (Nat.succ_pos _) q
theorem listR_snd {x : V} {a : Value} {v : V} (G : S.Good) (hh : A.handled = none) (hne : ext ≠ []) (H : S.HR ext ρ σ s.heap) (r : S.VR ρ x a) {b c d : Int} (q : getO S.g σ x = some (.range b c d)) (e : some (V.ref σ.length, σ ++ [O.list (rangeInts b d (rangeLen b c d))]) = some (v, σ')) :
 wpAny S.M A (call (fval .list) [a]) (Res S s ext ρ σ' v) Nope s := by
 refine so2 e ?_
 refine x2_3 (objAt G H q r) fun l ob y17 hl y18 => ?_
 subst y17
 refine cps fun _ zk => ?_
 refine x0_4 y18 fun q1 q2 q3 zz7 => ?_
 refine x3_1 zz7 fun t u w zz8 => ?_
 refine zk ?_; clear zk
 subst zz8
 refine call_list_range hh hl (small_of q1 q2 q3) (rangeSize_eq q3) (by unfold rangeLen; split <;> lia) fun h' tk acc c' hk hl' hI => ?_
 refine i3_4 (ρ ++ [s.heap.objs.size]) h' tk (pfa ..) rfl (H.allocE hne hk (Nat.le_refl _) hl' (i2_2 acc c' rfl ?_)) (i1_2 _ (by rw [<- H.len]; simp) rfl)
 refine VRs.of_get (by rw [rangeInts_len]; exact hI.1.symm) fun i x v e1 e2 => ?_
 have hi : i < rangeLen b c d := by have := (gsm e1).1; rwa [rangeInts_len] at this
 rw [rangeInts_get hi] at e1
 refine so1 e1 ?_
 obtain ⟨t, rfl⟩ := hI.2 i v (by rw [<- Array.getElem?_toList]; exact e2)
 exact ⟨t, rfl⟩
theorem range_snd {l : List Int} {as : List Value} {v : V} (e : ranges l σ = some (v, σ')) (H : S.HR ext ρ σ s.heap) (I : IntsAre as l) : wpAny S.M A (call (fval .range) as) (Res S s ext ρ σ' v) Nope s := by
 unfold ranges at e
 split at e
 · cases I with | cons _ t I => cases I; exact call_range_1 (mkRange_snd e H)
 · cases I with | cons _ t I => cases I with | cons _ u I => cases I; exact call_range_2 (mkRange_snd e H)
 · rename_i a b c
   have hc : c = 1 \/ c = -1 := by
    unfold mkRange at e
    split at e
    · rename_i q; exact q.2.2
    · exact nn e
   cases I with | cons _ t I => cases I with | cons _ u I => cases I with | cons _ w I => cases I; exact call_range_3 (by lia) (mkRange_snd e H) (.inl (PyProof.noPylong_small (by rcases hc with rfl | rfl <;> decide)))
 · exact nn e
theorem blt_snd {f : F} {xs : List V} {v : V} {as : List Value} (G : S.Good) (hh : A.handled = none) (hne : ext ≠ []) (e : blt S.g f xs σ = some (v, σ')) (H : S.HR ext ρ σ s.heap) (ra : S.VRs ρ xs as) :
 wpAny S.M A (call (fval f) as) (Res S s ext ρ σ' v) Nope s := by
 cases f with
 | range => exact x1_2 (b1_inv e) fun l q e => range_snd e H (intsOf_are q ra)
 | len =>
   refine one_case e ra fun x a e r ha => ?_
   subst ha
   refine x1_2 (b1_inv e) fun xs q e => ?_
   split at e
   · rename_i q2
     refine so2 e ?_
     refine listAt G H q r fun l vs k y8 hl r1 => ?_
     subst y8
     have hz := seqSz r1
     exact call_len_list (isList_of hl) (by lia) (i3_4 ρ _ _ (List.prefix_refl _) rfl H ⟨_, by rw [hz]⟩)
   · exact nn e
 | abs =>
   refine one_case e ra fun x a e r ha => ?_
   subst ha
   refine x1_2 (b1_inv e) fun i q e => ?_
   cases asInt_inv q
   obtain ⟨t, rfl⟩ := r
   refine so2 e ?_
   exact call_abs_int fun u tk => i3_4 ρ _ _ (List.prefix_refl _) rfl H ⟨u, rfl⟩
 | min =>
   refine one_case e ra fun x a e r ha => ints_case G H e r fun l items e y hl => ?_
   subst ha y
   refine x1_2 (b1_inv e) fun m q e => x2_2 (min_inv q) fun x r hit y => ?_
   refine so2 e ?_
   refine min_intList hh hl (size_pos hit) fun v h' tk hv hk => ?_
   obtain ⟨t, rfl⟩ := intItems_at hv
   refine i3_4 ρ h' tk (List.prefix_refl _) rfl (H.keepsE hne hk) ⟨t, ?_⟩
   rw [y, best_eq hit (argBest_lt (numAt items) (items.size - 1)).1 (argBest_lt (numAt items) (items.size - 1)).2]
 | max =>
   refine one_case e ra fun x a e r ha => ints_case G H e r fun l items e y hl => ?_
   subst ha y
   refine x1_2 (b1_inv e) fun m q e => x2_2 (max_inv q) fun x r hit y => ?_
   refine so2 e ?_
   refine max_intList hh hl (size_pos hit) fun v h' tk hv hk => ?_
   obtain ⟨t, rfl⟩ := intItems_at hv
   refine i3_4 ρ h' tk (List.prefix_refl _) rfl (H.keepsE hne hk) ⟨t, ?_⟩
   rw [y, bestG_eq hit (argBest_gt (numAt items) (items.size - 1)).1 (argBest_gt (numAt items) (items.size - 1)).2]
 | sum =>
   refine one_case e ra fun x a e r ha => ints_case G H e r fun l items e y hl => ?_
   subst ha y
   refine so2 e ?_
   refine sum_intListG hh hl fun h' tk t' hk => ?_
   refine i3_4 ρ h' tk (List.prefix_refl _) rfl (H.keepsE hne hk) ⟨t', ?_⟩
   rw [preSum_eq, List.take_of_length_le (by simp)]
 | list =>
   refine one_case e ra fun x a e r ha => ?_
   subst ha
   refine x1_2 (b1_inv e) fun o q e => x1_2 (b1_inv e) fun t q2 e => ?_
   cases o <;> cases q2
   exact listR_snd G hh hne H r q e
end
noncomputable def CallsOk (S : St) (n : Nat) (Φ : CallF) : Prop := ∀ (f : Nat) (args : List V) (σ : Hp) (v : V) (σ' : Hp) (a : Addr) (A : Around) (ext : List (Addr × Obj)) (ρ : List Addr) (s : Shared) (vals : List Value),
 Φ f args σ = some (v, σ') -> S.fad[f]? = some a -> Room n A ext -> ext ≠ [] -> S.HR ext ρ σ s.heap -> S.VRs ρ args vals -> wpAny S.M A (call (.ref a) vals) (Res S s ext ρ σ' v) Nope s
structure Sur (S : St) (n : Nat) (xs gl cn : List Str) (env : Env) (A : Around) (ext : List (Addr × Obj)) (ρ : List Addr) (m : Frm) : Prop where
 ok : EnvOk env gl cn
 sees : Sees S env xs m ρ ext
 room : Room n A ext
 ne : ext ≠ []
theorem Sur.mono {S : St} {n : Nat} {xs gl cn : List Str} {env : Env} {A : Around} {ext : List (Addr × Obj)} {ρ ρ' : List Addr} {m : Frm} (h : Sur S n xs gl cn env A ext ρ m) (hp : ρ <+: ρ') : Sur S n xs gl cn env A ext ρ' m :=
 ⟨h.ok, h.sees.mono hp fun _ q => q, h.room, h.ne⟩
noncomputable def SE (S : St) (n : Nat) (Φ : CallF) (xs gl cn : List Str) (ex : Expr) (e : E) : Prop :=
 ∀ (env : Env) (A : Around) (ext : List (Addr × Obj)) (ρ : List Addr) (m : Frm) (σ : Hp) (v : V) (σ' : Hp) (s : Shared), Sur S n xs gl cn env A ext ρ m -> S.HR ext ρ σ s.heap ->
   vE S.g Φ e m σ = some (v, σ') -> wpAny S.M A (eval ex env) (Res S s ext ρ σ' v) Nope s
noncomputable def SEs (S : St) (n : Nat) (Φ : CallF) (xs gl cn : List Str) (ex : List Expr) (e : Es) : Prop :=
 ∀ (env : Env) (A : Around) (ext : List (Addr × Obj)) (ρ : List Addr) (m : Frm) (σ : Hp) (v : List V) (σ' : Hp) (s : Shared), Sur S n xs gl cn env A ext ρ m -> S.HR ext ρ σ s.heap ->
   evalEs S.g Φ e m σ = some (v, σ') -> wpAny S.M A (spliced (ex.map fun e => (false, eval e env))) (Ress S s ext ρ σ' v) Nope s
section
variable {S : St} {n : Nat} {Φ : CallF} {xs gl cn : List Str}
theorem se_loc {i : Nat} {x : Str} {pos : Pos} (h1 : xs[i]? = some x) (h2 : (x == ("__debug__" : Str)) = false) (h3 : (x == ("__classdict__" : Str)) = false) : SE S n Φ xs gl cn (.Name x pos) (.loc i) := by
 intro env A ext ρ m σ v σ' s Y H e
 refine x1_2 (b1_inv e) fun u q e => ?_
 cases e
 have q := slot_inv q
 refine x1_2 (Y.sees i x v h1 q) fun u r q2 => ?_
 rcases q2 with ⟨k, o, es, ep, hm, hd, hk, hf⟩ | ⟨k, c, o, hc, hm, hd⟩
 · refine x1_2 (H.exs _ hm) fun o' ho hl => ?_
   exact wpAny_Name (wpAny_loadName_local (m := fun y => nsFind es y) Y.ok.kind k (i3_4 o' es ep ho (hl.2.1.trans hd) hk (fun _ => rfl)) hf (Res.now H r)) h2
 · refine x1_2 (H.exs _ hm) fun o' ho hl => ?_
   rcases k with k | k
   · exact wpAny_Name (wpAny_loadName_cell Y.ok.kind k hc ⟨o', ho, hl.2.1.trans hd⟩ (Res.now H r)) h2
   · exact wpAny_Name (wpAny_loadName_free Y.ok.kind k hc ⟨o', ho, hl.2.1.trans hd⟩ (Res.now H r) h3) h2
theorem globalName {x : Str} {pos : Pos} {u : Value} {env : Env} {A : Around} {ext : List (Addr × Obj)} {ρ : List Addr} {m : Frm} {σ : Hp} {s : Shared} {Q : Value -> Shared -> Prop} {E : Value -> Shared -> Prop} (G : S.Good) (Y : Sur S n xs gl cn env A ext ρ m) (H : S.HR ext ρ σ s.heap) (hx : x ∈ gl)
 (e : nsIn S.K mainGlobals x = some (some u)) (hd : (x == ("__debug__" : Str)) = false) (h : Q u s) : wpAny S.M A (eval (.Name x pos) env) Q E s :=
 Name_function_global Y.ok.kind (Y.ok.gk x hx) (loadGlobal_global (by rw [Y.ok.glob]; exact G.T.g.keeps H.keep) (mg_of G.X G.T.g e) h) hd
theorem se_gint (G : S.Good) {x : Str} {pos : Pos} {i : Int} {t : Tok} (hx : x ∈ gl) (e1 : nsIn S.K mainGlobals x = some (some (.int i t))) (hd : (x == ("__debug__" : Str)) = false) : SE S n Φ xs gl cn (.Name x pos) (.lit (.int i)) := by
 intro env A ext ρ m σ v σ' s Y H e
 refine so2 e ?_
 exact globalName G Y H hx e1 hd (Res.now H ⟨t, rfl⟩)
theorem se_gobj (G : S.Good) {x : Str} {pos : Pos} {k : Nat} {a : Addr} (hx : x ∈ gl) (e1 : nsIn S.K mainGlobals x = some (some (.ref a))) (ha : S.gad[k]? = some a) (hd : (x == ("__debug__" : Str)) = false) : SE S n Φ xs gl cn (.Name x pos) (.lit (.gref k)) := by
 intro env A ext ρ m σ v σ' s Y H e
 refine so2 e ?_
 exact globalName G Y H hx e1 hd (Res.now H ⟨a, ha, rfl⟩)
theorem se_int {i : Int} {k : Nat} {pos : Pos} : SE S n Φ xs gl cn (.Constant (.int i) k pos) (.lit (.int i)) := by
 intro env A ext ρ m σ v σ' s Y H e
 refine so2 e ?_
 exact wpAny_Constant_int (intRes H)
theorem se_bool {b : Bool} {k : Nat} {pos : Pos} : SE S n Φ xs gl cn (.Constant (.bool b) k pos) (.lit (.bool b)) := by
 intro env A ext ρ m σ v σ' s Y H e
 refine so2 e ?_
 exact wpAny_Constant_bool (Res.now H rfl)
theorem se_none {k : Nat} {pos : Pos} : SE S n Φ xs gl cn (.Constant .none k pos) (.lit .none) := by
 intro env A ext ρ m σ v σ' s Y H e
 refine so2 e ?_
 exact wpAny_Constant_none (Res.now H rfl)
theorem se_bin (G : S.Good) {l r : Expr} {op : Operator} {pos : Pos} {o : B} {a b : E} (ho : opB op = some o) (i1 : SE S n Φ xs gl cn l a) (i2 : SE S n Φ xs gl cn r b) : SE S n Φ xs gl cn (.BinOp l op r pos) (.bin o a b) := by
 intro env A ext ρ m σ v σ' s Y H e
 refine cps fun _ zk => ?_
 refine x2_2 (b2_inv e) fun x σ₁ e1 e => ?_
 refine x2_2 (b2_inv e) fun y σ₂ e2 e => ?_
 refine zk ?_; clear zk
 refine wpAny_BinOp (andThen (i1 env A ext ρ m σ x σ₁ s Y H e1) fun u ρ₁ h₁ t₁ p₁ H₁ r₁ => ?_)
 refine andThen (i2 env A ext ρ₁ m σ₁ y σ₂ _ (Y.mono p₁) H₁ e2) fun w ρ₂ h₂ t₂ p₂ H₂ r₂ => ?_
 exact wpAny_mono (binop_snd (s := { s with heap := h₂, toks := t₂ }) G ho e H₂ (r₁.mono p₂) r₂) (fun v' s' q => q.from (p₁.trans p₂)) fun _ _ q => q
theorem se_not {x : Expr} {pos : Pos} {a : E} (i1 : SE S n Φ xs gl cn x a) : SE S n Φ xs gl cn (.UnaryOp .Not x pos) (.not a) := by
 intro env A ext ρ m σ v σ' s Y H e
 refine cps fun _ zk => ?_
 refine x2_2 (b2_inv e) fun x σ₁ e1 e => ?_
 refine x1_2 (b1_inv e) fun b e2 e => ?_
 refine zk ?_; clear zk
 refine so2 e ?_
 refine wpAny_UnaryOp (andThen (i1 env A ext ρ m σ x _ s Y H e1) fun u ρ₁ h₁ t₁ p₁ H₁ r₁ => ?_)
 refine not_of (andThenb (truth_snd (s := { s with heap := h₁, toks := t₁ }) e2 H₁ r₁) fun ρ₂ h₂ t₂ p₂ H₂ => ?_)
 exact i3_4 ρ₂ h₂ t₂ (p₁.trans p₂) rfl H₂ rfl
theorem se_neg {x : Expr} {pos : Pos} {a : E} (i1 : SE S n Φ xs gl cn x a) : SE S n Φ xs gl cn (.UnaryOp .USub x pos) (.neg a) := by
 intro env A ext ρ m σ v σ' s Y H e
 refine cps fun _ zk => ?_
 refine x2_2 (b2_inv e) fun x σ₁ e1 e => ?_
 refine x1_2 (b1_inv e) fun i e2 e => ?_
 refine zk ?_; clear zk
 cases asInt_inv e2
 refine so2 e ?_
 refine wpAny_UnaryOp (andThen (i1 env A ext ρ m σ _ _ s Y H e1) fun u ρ₁ h₁ t₁ p₁ H₁ r₁ => ?_)
 obtain ⟨t, rfl⟩ := r₁
 exact neg_int (i3_4 ρ₁ _ _ p₁ rfl H₁ ⟨_, rfl⟩)
theorem se_inv {x : Expr} {pos : Pos} {a : E} (i1 : SE S n Φ xs gl cn x a) : SE S n Φ xs gl cn (.UnaryOp .Invert x pos) (.inv a) := by
 intro env A ext ρ m σ v σ' s Y H e
 refine cps fun _ zk => ?_
 refine x2_2 (b2_inv e) fun x σ₁ e1 e => ?_
 refine x1_2 (b1_inv e) fun i e2 e => ?_
 refine zk ?_; clear zk
 cases asInt_inv e2
 refine so2 e ?_
 refine wpAny_UnaryOp (andThen (i1 env A ext ρ m σ _ _ s Y H e1) fun u ρ₁ h₁ t₁ p₁ H₁ r₁ => ?_)
 obtain ⟨t, rfl⟩ := r₁
 exact invert_int (i3_4 ρ₁ _ _ p₁ rfl H₁ ⟨_, rfl⟩)
theorem Room.units64 {A : Around} {ext : List (Addr × Obj)} (R : Room n A ext) : A.units + 64 < cLine := by have := R.units; lia
theorem se_cmp (G : S.Good) {l r : Expr} {op : CmpOp} {pos : Pos} {o : C} {a b : E} (ho : opC op = some o) (hm : behindInMarks op r = false) (i1 : SE S n Φ xs gl cn l a) (i2 : SE S n Φ xs gl cn r b) :
 SE S n Φ xs gl cn (.Compare l [op] [r] pos) (.cmp o a b) := by
 intro env A ext ρ m σ v σ' s Y H e
 refine cps fun _ zk => ?_
 refine x2_2 (b2_inv e) fun x σ₁ e1 e => ?_
 refine x2_2 (b2_inv e) fun y σ₂ e2 e => ?_
 refine x1_2 (b1_inv e) fun q e3 e => ?_
 refine zk ?_; clear zk
 refine so2 e ?_
 refine wpAny_Compare1 (andThen (i1 env A ext ρ m σ x σ₁ s Y H e1) fun u ρ₁ h₁ t₁ p₁ H₁ r₁ => ?_) hm
 refine andThen (i2 env A ext ρ₁ m σ₁ y _ _ (Y.mono p₁) H₁ e2) fun w ρ₂ h₂ t₂ p₂ H₂ r₂ => ?_
 exact wpAny_mono (cmp_snd (s := { s with heap := h₂, toks := t₂ }) G ho Y.room.units64 e3 H₂ (r₁.mono p₂) r₂) (fun v' s' q => q.from (p₁.trans p₂)) fun _ _ q => q
theorem se_chain (G : S.Good) {l r₁ r₂ : Expr} {op₁ op₂ : CmpOp} {pos : Pos} {o p : C} {a b c : E} (ho : opC op₁ = some o) (hp : opC op₂ = some p) (hm : lastMarks [op₁, op₂] [r₁, r₂] = false) (i1 : SE S n Φ xs gl cn l a) (i2 : SE S n Φ xs gl cn r₁ b) (i3 : SE S n Φ xs gl cn r₂ c) :
 SE S n Φ xs gl cn (.Compare l [op₁, op₂] [r₁, r₂] pos) (.chain a o b p c) := by
 intro env A ext ρ m σ v σ' s Y H e
 refine cps fun _ zk => ?_
 refine x2_2 (b2_inv e) fun x σ₁ e1 e => ?_
 refine x2_2 (b2_inv e) fun y σ₂ e2 e => ?_
 refine x1_2 (b1_inv e) fun t e3 e => ?_
 refine zk ?_; clear zk
 refine Compare_chain (andThen (i1 env A ext ρ m σ x σ₁ s Y H e1) fun u ρ₁ h₁ t₁ p₁ H₁ r₁ => ?_) hm
 show wpAny S.M A (compareChain pos u (op₁ :: [op₂]) (eval _ env :: [eval _ env])) _ _ _
 simp only [compareChain]
 refine wpAny_bind (wpAny_holding (andThen (i2 env A ext ρ₁ m σ₁ y _ _ (Y.mono p₁) H₁ e2) fun w ρ₂ h₂ t₂ p₂ H₂ r₂ => ?_))
 refine wpAny_bind (wpAny_standAt (wpAny_bind (wpAny_holding (andThen (cmp_snd (s := { s with heap := h₂, toks := t₂ }) G ho Y.room.units64 e3 H₂ (r₁.mono p₂) r₂) fun z ρ₃ h₃ t₃ p₃ H₃ r₃ => ?_))))
 refine wpAny_bind (wpAny_release' (wpAny_bind (wpAny_holding ?_)))
 cases r₃
 refine wpAny_truthy_bool ?_
 cases t with
 | false =>
   simp only [Bool.false_eq_true, if_false] at e ⊢
   refine so2 e ?_
   exact wpAny_pure (i3_4 ρ₃ h₃ t₃ (p₁.trans (p₂.trans p₃)) rfl H₃ rfl)
 | true =>
   simp only [if_true] at e ⊢
   refine cps fun _ zk => ?_
   refine x2_2 (b2_inv e) fun z σ₃ e4 e => ?_
   refine x1_2 (b1_inv e) fun q e5 e => ?_
   refine zk ?_; clear zk
   refine so2 e ?_
   refine wpAny_bind (wpAny_holding (andThen (i3 env A ext ρ₃ m σ₂ z _ _ (Y.mono (p₁.trans (p₂.trans p₃))) H₃ e4) fun k ρ₄ h₄ t₄ p₄ H₄ r₄ => ?_))
   refine wpAny_bind (wpAny_standAt (wpAny_operate' ?_))
   exact wpAny_mono (cmp_snd (s := { s with heap := h₄, toks := t₄ }) G hp Y.room.units64 e5 H₄ ((r₂.mono p₃).mono p₄) r₄) (fun v' s' q => q.from (p₁.trans (p₂.trans (p₃.trans p₄)))) fun _ _ q => q
theorem se_idx (G : S.Good) {v i : Expr} {pos : Pos} {a b : E} (hs : ∀ o u, subscripted i false o u = operate [o, u] (getItem o u)) (i1 : SE S n Φ xs gl cn v a) (i2 : SE S n Φ xs gl cn i b) : SE S n Φ xs gl cn (.Subscript v i pos) (.idx a b) := by
 intro env A ext ρ m σ v σ' s Y H e
 refine cps fun _ zk => ?_
 refine x2_2 (b2_inv e) fun x σ₁ e1 e => ?_
 refine x2_2 (b2_inv e) fun y σ₂ e2 e => ?_
 refine x1_2 (b1_inv e) fun q e3 e => ?_
 refine zk ?_; clear zk
 refine so2 e ?_
 refine Subscript_ (andThen (i1 env A ext ρ m σ x σ₁ s Y H e1) fun u ρ₁ h₁ t₁ p₁ H₁ r₁ => ?_)
 refine andThen (i2 env A ext ρ₁ m σ₁ y _ _ (Y.mono p₁) H₁ e2) fun w ρ₂ h₂ t₂ p₂ H₂ r₂ => ?_
 exact wpAny_mono (idx_snd (s := { s with heap := h₂, toks := t₂ }) G e3 H₂ (r₁.mono p₂) r₂ hs) (fun v' s' q => q.from (p₁.trans p₂)) fun _ _ q => q
theorem se_attr (G : S.Good) {o : Expr} {y : Str} {pos : Pos} {k : Nat} {a : E} (hy : fieldNames[k]? = some y) (hb : ∀ env whole, attributeBase o y env whole = whole) (i1 : SE S n Φ xs gl cn o a) : SE S n Φ xs gl cn (.Attribute o y pos) (.attr a k) := by
 intro env A ext ρ m σ v σ' s Y H e
 refine cps fun _ zk => ?_
 refine x2_2 (b2_inv e) fun x σ₁ e1 e => ?_
 refine x1_2 (b1_inv e) fun q e3 e => ?_
 refine zk ?_; clear zk
 refine so2 e ?_
 refine Attribute_any_ (andThen (i1 env A ext ρ m σ x _ s Y H e1) fun u ρ₁ h₁ t₁ p₁ H₁ r₁ => ?_) (by
  show (do
   let o <- attributeBase o y env (eval o env)
   standAt pos.atName
   let r <- holding [o] (getAttr o y true)
   letTemporaryGo _ o r
   pure r) = _
  rw [hb])
 exact wpAny_mono (attr_snd (s := { s with heap := h₁, toks := t₁ }) G hy e3 H₁ r₁) (fun v' s' q => q.from p₁) fun _ _ q => q
theorem ses_nil : SEs S n Φ xs gl cn [] .nil := by
 intro env A ext ρ m σ v σ' s Y H e
 refine so2 e ?_
 exact spliced_nil (i3_4 ρ _ _ (List.prefix_refl _) rfl H rfl)
theorem ses_cons {e : Expr} {r : List Expr} {a : E} {b : Es} (i1 : SE S n Φ xs gl cn e a) (i2 : SEs S n Φ xs gl cn r b) : SEs S n Φ xs gl cn (e :: r) (.cons a b) := by
 intro env A ext ρ m σ v σ' s Y H e
 simp only [evalEs] at e
 refine cps fun _ zk => ?_
 refine x2_2 (b2_inv e) fun x σ₁ e1 e => ?_
 refine x2_2 (b2_inv e) fun y σ₂ e2 e => ?_
 refine zk ?_; clear zk
 refine so2 e ?_
 refine spliced_cons (andThen (i1 env A ext ρ m σ x σ₁ s Y H e1) fun u ρ₁ h₁ t₁ p₁ H₁ r₁ => ?_)
 refine andThens (i2 env A ext ρ₁ m σ₁ y _ _ (Y.mono p₁) H₁ e2) fun w ρ₂ h₂ t₂ p₂ H₂ r₂ => ?_
 exact i3_4 ρ₂ h₂ t₂ (p₁.trans p₂) rfl H₂ (i2_3 u w rfl (r₁.mono p₂) r₂)
theorem callArgs {f : Value} {first : List Value} {args : List Expr} {env : Env} {A : Around} {s : Shared} {pos : Pos} {P : Heap -> Prop} {Q : Value -> Shared -> Prop} {E : Value -> Shared -> Prop}
 (hk : ∀ h, P h -> ∃ k, (k = Keeper.frame \/ k = Keeper.machine \/ k = Keeper.boundFrame) /\ Looks S.M h (keeperOf f) k)
 (h : wpAny S.M A (spliced (args.map fun e => (false, eval e env))) (fun vs s₁ => P s₁.heap /\ wpAny S.M A (call f (first ++ vs)) Q E s₁) E s) :
 wpAny S.M A (callWith pos f first (args.map fun e => (false, eval e env)) []) Q E s := by
 refine callWith_of (P := P) (by induction args with | nil => rfl | cons _ _ ih => simp) hk ?_
 cases args with
 | nil =>
   have h' := h
   unfold evalArgs
   show wpAny S.M A (spliced [] >>= _) _ _ s
   exact wpAny_bind (wpAny_mono h (fun vs s' h' => wpAny_holding (wpAny_bind (wpAny_pure (wpAny_bind (wpAny_pure (wpAny_pure h')))))) fun _ _ q => q)
 | cons e r => exact evalArgs_plain h
theorem se_call (G : S.Good) (hΦ : CallsOk S n Φ) {x : Str} {p pos : Pos} {args : List Expr} {f : Nat} {a : Addr} {as : Es} (hx : x ∈ gl) (e1 : nsIn S.K mainGlobals x = some (some (.ref a))) (hf : S.fad[f]? = some a)
 (hk : keepIn S.K (.ref a) = true) (hd : (x == ("__debug__" : Str)) = false) (htr : ∀ env, backTo pos (starEach args env) = args.map fun e => (false, eval e env)) (i : SEs S n Φ xs gl cn args as) : SE S n Φ xs gl cn (.Call (.Name x p) args [] pos) (.call f as) := by
 intro env A ext ρ m σ v σ' s Y H e
 refine x2_2 (b2_inv e) fun vs σ₁ e2 e => ?_
 refine Call_ (globalName G Y H hx e1 hd ?_)
 rw [htr]
 refine callArgs (P := fun h => S.K.In h) (fun h hh => keeps_K hk h hh) (andThens (i env A ext ρ m σ vs σ₁ s Y H e2) fun w ρ₁ h₁ t₁ p₁ H₁ r₁ => ⟨G.X.keeps H₁.keep, ?_⟩)
 exact wpAny_mono (hΦ f vs σ₁ v σ' a A ext ρ₁ { s with heap := h₁, toks := t₁ } w e hf Y.room Y.ne H₁ r₁) (fun v' s' q => q.from p₁) fun _ _ q => q.elim
theorem se_blt (G : S.Good) {x : Str} {p pos : Pos} {args : List Expr} {f : F} {as : Es} (hx : x ∈ gl) (e1 : nsIn S.K mainGlobals x = some none) (hb : bootBuiltins x = some (fval f)) (hn : x ≠ "__name__")
 (hd : (x == ("__debug__" : Str)) = false) (htr : ∀ env, backTo pos (starEach args env) = args.map fun e => (false, eval e env)) (i : SEs S n Φ xs gl cn args as) : SE S n Φ xs gl cn (.Call (.Name x p) args [] pos) (.blt f as) := by
 intro env A ext ρ m σ v σ' s Y H e
 refine x2_2 (b2_inv e) fun vs σ₁ e2 e => ?_
 refine Call_ (Name_function_global Y.ok.kind (Y.ok.gk x hx) (loadGlobal_builtin (by rw [Y.ok.glob]; exact G.T.g.keeps H.keep) (mg_none_of G.X G.T.g e1) (by rw [Y.ok.blt]; exact G.T.b.keeps H.keep) ((G.T.builtins x hn).trans hb) ?_) hd)
 rw [htr]
 refine callArgs (P := fun _ => True) (fun h _ => ⟨.machine, .inr (.inl rfl), by cases f <;> exact Looks.of_pure rfl⟩) (andThens (i env A ext ρ m σ vs σ₁ s Y H e2) fun w ρ₁ h₁ t₁ p₁ H₁ r₁ => ⟨trivial, ?_⟩)
 exact wpAny_mono (blt_snd (s := { s with heap := h₁, toks := t₁ }) G Y.room.hd Y.ne e H₁ r₁) (fun v' s' q => q.from p₁) fun _ _ q => q.elim
theorem se_list {es : List Expr} {pos : Pos} {as : Es} (htr : ∀ env, backTo pos (starEach es env) = es.map fun e => (false, eval e env)) (i : SEs S n Φ xs gl cn es as) : SE S n Φ xs gl cn (.List es pos) (.list as) := by
 intro env A ext ρ m σ v σ' s Y H e
 refine x2_2 (b2_inv e) fun vs σ₁ e2 e => ?_
 split at e
 · rename_i hz
   refine so2 e ?_
   refine List_ ?_
   rw [htr]
   refine andThens (i env A ext ρ m σ vs _ s Y H e2) fun w ρ₁ h₁ t₁ p₁ H₁ r₁ => ?_
   refine wpAny_newObj_type (s := { s with heap := h₁, toks := t₁ }) (i3_4 (ρ₁ ++ [h₁.objs.size]) _ _ (p₁.trans (pfa ..)) rfl (H₁.allocPush (i2_2 _ _ rfl ?_)) (i1_2 _ ?_ rfl)) ?_
   · simpa using VRs.mono (pfa ..) r₁
   · rw [<- H₁.len]; simp
   · show w.toArray.size <= sizeLine
     rw [List.size_toArray, <- r₁.length, sizeLine_eq]; lia
 · exact nn e
theorem se_tup {es : List Expr} {pos : Pos} {k : Nat} {as : Es} (htr : ∀ env, backTo pos (starEach es env) = es.map fun e => (false, eval e env)) (i : SEs S n Φ xs gl cn es as) : SE S n Φ xs gl cn (.Tuple es k pos) (.tup as) := by
 intro env A ext ρ m σ v σ' s Y H e
 refine x2_2 (b2_inv e) fun vs σ₁ e2 e => ?_
 split at e
 · rename_i hz
   refine so2 e ?_
   refine Tuple_ ?_
   rw [htr]
   refine andThens (i env A ext ρ m σ vs _ s Y H e2) fun w ρ₁ h₁ t₁ p₁ H₁ r₁ => ?_
   refine wpAny_newObj_type (s := { s with heap := h₁, toks := t₁ }) (i3_4 (ρ₁ ++ [h₁.objs.size]) _ _ (p₁.trans (pfa ..)) rfl (H₁.allocPush (i2_2 _ _ rfl ?_)) (i1_2 _ ?_ rfl)) ?_
   · simpa using VRs.mono (pfa ..) r₁
   · rw [<- H₁.len]; simp
   · show w.toArray.size <= sizeLine
     rw [List.size_toArray, <- r₁.length, sizeLine_eq]; lia
 · exact nn e
theorem se_sfrom (G : S.Good) {x : Str} {p p2 pos : Pos} {l : Expr} {a b : E} (i1 : SE S n Φ xs gl cn (.Name x p) a) (i2 : SE S n Φ xs gl cn l b) : SE S n Φ xs gl cn (.Subscript (.Name x p) (.Slice (some l) none none p2) pos) (.sfrom a b) := by
 intro env A ext ρ m σ v σ' s Y H e
 refine cps fun _ zk => ?_
 refine x2_2 (b2_inv e) fun x σ₁ e1 e => ?_
 refine x2_2 (b2_inv e) fun y σ₂ e2 e => ?_
 unfold sfrom at e
 refine zk ?_; clear zk
 split at e
 · rename_i ys i q
   split at e
   · rename_i q2
     refine so2 e ?_
     refine wpAny_Subscript_list_slice (andThen (i1 env A ext ρ m σ x σ₁ s Y H e1) fun u ρ₁ h₁ t₁ p₁ H₁ r₁ => ?_)
     rw [evalPart_some]
     refine andThen (i2 env A ext ρ₁ m σ₁ _ σ₂ _ (Y.mono p₁) H₁ e2) fun w ρ₂ h₂ t₂ p₂ H₂ r₂ => ?_
     rw [evalPart_none]
     obtain ⟨t, rfl⟩ := r₂
     refine x2_3 (objAt (s := { s with heap := h₂, toks := t₂ }) G H₂ q (r₁.mono p₂)) fun l ob y1 hl y2 => ?_
     subst y1
     refine x2_2 y2 fun vs k zz4 r => ?_
     clear y2
     subst zz4
     have hz := seqSz r
     refine wpAny_pure (i4_6 l vs (some i) none rfl (isList_of hl) (by rw [hz, sizeLine_eq]; lia) (.int _ _) (.none) ?_)
     have hp := H₂.push { cls := .type "slice", data := .fields #[.int i t, .none, .none] }
     have := hp.allocPush (o := .list (ys.drop i.toNat)) (ob := { cls := .type "list", data := .seq (slicePick vs (some i) none none) }) ⟨_, _, rfl, by
      obtain ⟨k, rfl⟩ := Int.eq_ofNat_of_zero_le q2.1
      rw [slicePick_from']
      simpa using VRs.mono (pfa ..) (r.drop k)⟩
     rw [Heap.size_push] at this
     exact i3_4 _ _ _ (p₁.trans (p₂.trans (pfa ..))) rfl this (i1_2 _ (by rw [<- H₂.len]; simp) rfl)
   · exact nn e
 · rename_i ys i q
   split at e
   · rename_i q2
     refine so2 e ?_
     refine wpAny_Subscript_Slice (T := "tuple") slot_tuple_getitem.lookup (andThen (i1 env A ext ρ m σ x σ₁ s Y H e1) fun u ρ₁ h₁ t₁ p₁ H₁ r₁ => ?_)
     refine wpAny_Slice ?_
     rw [evalPart_some]
     refine andThen (i2 env A ext ρ₁ m σ₁ _ σ₂ _ (Y.mono p₁) H₁ e2) fun w ρ₂ h₂ t₂ p₂ H₂ r₂ => ?_
     rw [evalPart_none]
     obtain ⟨t, rfl⟩ := r₂
     refine x2_3 (objAt (s := { s with heap := h₂, toks := t₂ }) G H₂ q (r₁.mono p₂)) fun l ob y4 hl y5 => ?_
     subst y4
     refine x2_2 y5 fun vs k zz7 r => ?_
     clear y5
     subst zz7
     have hz := seqSz r
     refine wpAny_pure (wpAny_pure ⟨i1_2 _ (Heap.get?_push_of_some _ hl) rfl, ?_⟩)
     obtain ⟨k, rfl⟩ := Int.eq_ofNat_of_zero_le (show 0 <= i by lia)
     have hp := H₂.push { cls := .type "slice", data := .fields #[.int (k : Int) t, .none, .none] }
     refine getItem_tuple_from (items := vs) (a := k) (u := t) (i1_3 _ (Heap.get?_push_of_some _ hl) rfl ⟨_, rfl⟩) (Heap.IsSliceOf.new ..) (by have := q2.1; simp at this; assumption) (by have := q2.2.1; simp at this; lia) ?_ (by rw [hz, sizeLine_eq]; lia)
     have := hp.allocPush (o := .tup (ys.drop k)) (ob := { cls := .type "tuple", data := .seq (vs.toList.drop k).toArray }) (i2_2 _ _ rfl (by simpa using VRs.mono (pfa ..) (r.drop k)))
     exact i3_4 _ _ _ (p₁.trans (p₂.trans (pfa ..))) rfl this (i1_2 _ (by rw [<- H₂.len]; simp) rfl)
   · exact nn e
 · exact nn e
theorem se_sto (G : S.Good) {x : Str} {p p2 pos : Pos} {l : Expr} {a b : E} (i1 : SE S n Φ xs gl cn (.Name x p) a) (i2 : SE S n Φ xs gl cn l b) : SE S n Φ xs gl cn (.Subscript (.Name x p) (.Slice none (some l) none p2) pos) (.sto a b) := by
 intro env A ext ρ m σ v σ' s Y H e
 refine cps fun _ zk => ?_
 refine x2_2 (b2_inv e) fun x σ₁ e1 e => ?_
 refine x2_2 (b2_inv e) fun y σ₂ e2 e => ?_
 unfold sto at e
 refine zk ?_; clear zk
 split at e
 · rename_i ys i q
   split at e
   · rename_i q2
     refine so2 e ?_
     refine wpAny_Subscript_list_slice (andThen (i1 env A ext ρ m σ x σ₁ s Y H e1) fun u ρ₁ h₁ t₁ p₁ H₁ r₁ => ?_)
     rw [evalPart_none]
     refine wpAny_pure ?_
     rw [evalPart_some]
     refine andThen (i2 env A ext ρ₁ m σ₁ _ σ₂ _ (Y.mono p₁) H₁ e2) fun w ρ₂ h₂ t₂ p₂ H₂ r₂ => ?_
     obtain ⟨t, rfl⟩ := r₂
     refine x2_3 (objAt (s := { s with heap := h₂, toks := t₂ }) G H₂ q (r₁.mono p₂)) fun l ob y7 hl y8 => ?_
     subst y7
     refine x2_2 y8 fun vs k zz10 r => ?_
     clear y8
     subst zz10
     have hz := seqSz r
     refine i4_6 l vs none (some i) rfl (isList_of hl) (by rw [hz, sizeLine_eq]; lia) (.none) (.int _ _) ?_
     have hp := H₂.push { cls := .type "slice", data := .fields #[.none, .int i t, .none] }
     have := hp.allocPush (o := .list (ys.take i.toNat)) (ob := { cls := .type "list", data := .seq (slicePick vs none (some i) none) }) ⟨_, _, rfl, by
      obtain ⟨k, rfl⟩ := Int.eq_ofNat_of_zero_le q2.1
      rw [slicePick_upto']
      simpa using VRs.mono (pfa ..) (r.take k)⟩
     rw [Heap.size_push] at this
     exact i3_4 _ _ _ (p₁.trans (p₂.trans (pfa ..))) rfl this (i1_2 _ (by rw [<- H₂.len]; simp) rfl)
   · exact nn e
 · exact nn e
end
noncomputable def STr (S : St) (n : Nat) (Φ : CallF) (xs gl cn : List Str) (ex : Expr) (e : E) : Prop :=
 ∀ (env : Env) (A : Around) (ext : List (Addr × Obj)) (ρ : List Addr) (m : Frm) (σ : Hp) (v : V) (σ' : Hp) (b : Bool) (s : Shared), Sur S n xs gl cn env A ext ρ m -> S.HR ext ρ σ s.heap ->
   vE S.g Φ e m σ = some (v, σ') -> truth v = some b -> wpAny S.M A (isTrue ex env (eval ex env)) (Resb S s ext ρ σ' b) Nope s
noncomputable def SB (pos : Pos) (op : BoolOp) (S : St) (n : Nat) (Φ : CallF) (xs gl cn : List Str) (vs : List Expr) (e : E) : Prop :=
 ∀ (env : Env) (A : Around) (ext : List (Addr × Obj)) (ρ : List Addr) (m : Frm) (σ : Hp) (v : V) (σ' : Hp) (s : Shared), Sur S n xs gl cn env A ext ρ m -> S.HR ext ρ σ s.heap ->
   vE S.g Φ e m σ = some (v, σ') -> wpAny S.M A (boolOp pos op (evalEach vs env)) (Res S s ext ρ σ' v) Nope s
noncomputable def SBT (op : BoolOp) (S : St) (n : Nat) (Φ : CallF) (xs gl cn : List Str) (vs : List Expr) (e : E) : Prop :=
 ∀ (env : Env) (A : Around) (ext : List (Addr × Obj)) (ρ : List Addr) (m : Frm) (σ : Hp) (v : V) (σ' : Hp) (b : Bool) (s : Shared), Sur S n xs gl cn env A ext ρ m -> S.HR ext ρ σ s.heap ->
   vE S.g Φ e m σ = some (v, σ') -> truth v = some b -> wpAny S.M A (allTrue op vs env) (Resb S s ext ρ σ' b) Nope s
section
variable {S : St} {n : Nat} {Φ : CallF} {xs gl cn : List Str}
theorem st_plain {ex : Expr} {e : E} (h : SE S n Φ xs gl cn ex e) (he : ∀ env, isTrue ex env (eval ex env) = (do let v <- eval ex env; standAt ex.pos; holding [v] (truthy v))) : STr S n Φ xs gl cn ex e := by
 intro env A ext ρ m σ v σ' b s Y H e1 e2
 refine isTrue_plain (andThen (h env A ext ρ m σ v σ' s Y H e1) fun u ρ₁ h₁ t₁ p₁ H₁ r₁ => ?_) (he env)
 exact wpAny_mono (truth_snd (s := { s with heap := h₁, toks := t₁ }) e2 H₁ r₁) (fun v' s' q => q.from p₁) fun _ _ q => q
theorem st_not {x : Expr} {pos : Pos} {a : E} (i : STr S n Φ xs gl cn x a) : STr S n Φ xs gl cn (.UnaryOp .Not x pos) (.not a) := by
 intro env A ext ρ m σ v σ' b s Y H e1 e2
 refine cps fun _ zk => ?_
 refine x2_2 (b2_inv e1) fun x σ₁ e3 e1 => ?_
 refine x1_2 (b1_inv e1) fun t e4 e1 => ?_
 refine zk ?_; clear zk
 cases e1; refine so1 e2 ?_
 exact isTrue_not (andThenb (i env A ext ρ m σ x _ t s Y H e3 e4) fun ρ₁ h₁ t₁ p₁ H₁ => i3_4 ρ₁ h₁ t₁ p₁ rfl H₁ rfl)
theorem st_cmp (G : S.Good) {l r : Expr} {op : CmpOp} {pos : Pos} {o : C} {a b : E} (ho : opC op = some o) (hm : behindInMarks op r = false) (i1 : SE S n Φ xs gl cn l a) (i2 : SE S n Φ xs gl cn r b) :
 STr S n Φ xs gl cn (.Compare l [op] [r] pos) (.cmp o a b) := by
 intro env A ext ρ m σ v σ' b s Y H e e2
 refine cps fun _ zk => ?_
 refine x2_2 (b2_inv e) fun x σ₁ e1 e => ?_
 refine x2_2 (b2_inv e) fun y σ₂ e3 e => ?_
 refine x1_2 (b1_inv e) fun q e4 e => ?_
 refine zk ?_; clear zk
 cases e; refine so1 e2 ?_
 refine wpAny_isTrue_Compare1 (andThen (i1 env A ext ρ m σ x σ₁ s Y H e1) fun u ρ₁ h₁ t₁ p₁ H₁ r₁ => ?_) hm
 refine andThen (i2 env A ext ρ₁ m σ₁ y _ _ (Y.mono p₁) H₁ e3) fun w ρ₂ h₂ t₂ p₂ H₂ r₂ => ?_
 refine andThen (cmp_snd (s := { s with heap := h₂, toks := t₂ }) G ho Y.room.units64 e4 H₂ (r₁.mono p₂) r₂) fun z ρ₃ h₃ t₃ p₃ H₃ r₃ => ?_
 cases r₃
 exact wpAny_truthy_bool (i3_4 ρ₃ h₃ t₃ (p₁.trans (p₂.trans p₃)) rfl H₃ rfl)
theorem st_chain (G : S.Good) {l r₁ r₂ : Expr} {op₁ op₂ : CmpOp} {pos : Pos} {o p : C} {a b c : E} (ho : opC op₁ = some o) (hp : opC op₂ = some p) (hm : lastMarks [op₁, op₂] [r₁, r₂] = false) (i1 : SE S n Φ xs gl cn l a) (i2 : SE S n Φ xs gl cn r₁ b) (i3 : SE S n Φ xs gl cn r₂ c) :
 STr S n Φ xs gl cn (.Compare l [op₁, op₂] [r₁, r₂] pos) (.chain a o b p c) := by
 intro env A ext ρ m σ v σ' b s Y H e eb
 refine cps fun _ zk => ?_
 refine x2_2 (b2_inv e) fun x σ₁ e1 e => ?_
 refine x2_2 (b2_inv e) fun y σ₂ e2 e => ?_
 refine x1_2 (b1_inv e) fun t e3 e => ?_
 refine zk ?_; clear zk
 refine isTrue_chain (andThen (i1 env A ext ρ m σ x σ₁ s Y H e1) fun u ρ₁ h₁ t₁ p₁ H₁ r₁ => ?_) hm
 show wpAny S.M A (testChain pos u (op₁ :: [op₂]) (eval _ env :: [eval _ env])) _ _ _
 simp only [testChain]
 refine wpAny_bind (wpAny_holding (andThen (i2 env A ext ρ₁ m σ₁ y _ _ (Y.mono p₁) H₁ e2) fun w ρ₂ h₂ t₂ p₂ H₂ r₂ => ?_))
 refine wpAny_bind (wpAny_standAt (wpAny_bind (wpAny_holding (andThen (cmp_snd (s := { s with heap := h₂, toks := t₂ }) G ho Y.room.units64 e3 H₂ (r₁.mono p₂) r₂) fun z ρ₃ h₃ t₃ p₃ H₃ r₃ => ?_))))
 refine wpAny_bind (wpAny_release' (wpAny_bind (wpAny_holding ?_)))
 cases r₃
 refine wpAny_truthy_bool ?_
 cases t with
 | false =>
   simp only [Bool.false_eq_true, if_false] at e ⊢
   cases e; refine so1 eb ?_
   exact wpAny_pure (i3_4 ρ₃ h₃ t₃ (p₁.trans (p₂.trans p₃)) rfl H₃ rfl)
 | true =>
   simp only [if_true] at e ⊢
   refine cps fun _ zk => ?_
   refine x2_2 (b2_inv e) fun z σ₃ e4 e => ?_
   refine x1_2 (b1_inv e) fun q e5 e => ?_
   refine zk ?_; clear zk
   cases e; refine so1 eb ?_
   refine wpAny_bind (wpAny_holding (andThen (i3 env A ext ρ₃ m σ₂ z _ _ (Y.mono (p₁.trans (p₂.trans p₃))) H₃ e4) fun k ρ₄ h₄ t₄ p₄ H₄ r₄ => ?_))
   refine wpAny_bind (wpAny_standAt (wpAny_bind (wpAny_operate' ?_)))
   refine andThen (cmp_snd (s := { s with heap := h₄, toks := t₄ }) G hp Y.room.units64 e5 H₄ ((r₂.mono p₃).mono p₄) r₄) fun z ρ₅ h₅ t₅ p₅ H₅ r₅ => ?_
   cases r₅
   exact wpAny_holding (wpAny_truthy_bool (i3_4 ρ₅ h₅ t₅ (p₁.trans (p₂.trans (p₃.trans (p₄.trans p₅)))) rfl H₅ rfl))
theorem sb_one {pos : Pos} {op : BoolOp} {e : Expr} {a : E} (i : SE S n Φ xs gl cn e a) : SB pos op S n Φ xs gl cn [e] a := by
 intro env A ext ρ m σ v σ' s Y H e1
 show wpAny S.M A (boolOp pos op [eval e env]) _ _ _
 simp only [boolOp]
 exact i env A ext ρ m σ v σ' s Y H e1
theorem sb_and {pos : Pos} {e e2 : Expr} {r : List Expr} {a b : E} (i1 : SE S n Φ xs gl cn e a) (i2 : SB pos .And S n Φ xs gl cn (e2 :: r) b) : SB pos .And S n Φ xs gl cn (e :: e2 :: r) (.and a b) := by
 intro env A ext ρ m σ v σ' s Y H e
 refine cps fun _ zk => ?_
 refine x2_2 (b2_inv e) fun x σ₁ e1 e => ?_
 refine x1_2 (b1_inv e) fun t e3 e => ?_
 refine zk ?_; clear zk
 show wpAny S.M A (boolOp pos .And (eval _ env :: eval _ env :: evalEach r env)) _ _ _
 simp only [boolOp]
 refine wpAny_bind (andThen (i1 env A ext ρ m σ x σ₁ s Y H e1) fun u ρ₁ h₁ t₁ p₁ H₁ r₁ => ?_)
 refine wpAny_bind (wpAny_standAt (wpAny_bind (wpAny_holding (andThenb (truth_snd (s := { s with heap := h₁, toks := t₁ }) e3 H₁ r₁) fun ρ₂ h₂ t₂ p₂ H₂ => ?_))))
 cases t with
 | false =>
   simp only [Bool.false_eq_true, if_false] at e
   refine so2 e ?_
   exact wpAny_pure (i3_4 ρ₂ h₂ t₂ (p₁.trans p₂) rfl H₂ (r₁.mono p₂))
 | true =>
   simp only [if_true] at e
   exact wpAny_mono (i2 env A ext ρ₂ m σ₁ v σ' { s with heap := h₂, toks := t₂ } (Y.mono (p₁.trans p₂)) H₂ e) (fun v' s' q => q.from (p₁.trans p₂)) fun _ _ q => q
theorem sb_or {pos : Pos} {e e2 : Expr} {r : List Expr} {a b : E} (i1 : SE S n Φ xs gl cn e a) (i2 : SB pos .Or S n Φ xs gl cn (e2 :: r) b) : SB pos .Or S n Φ xs gl cn (e :: e2 :: r) (.or a b) := by
 intro env A ext ρ m σ v σ' s Y H e
 refine cps fun _ zk => ?_
 refine x2_2 (b2_inv e) fun x σ₁ e1 e => ?_
 refine x1_2 (b1_inv e) fun t e3 e => ?_
 refine zk ?_; clear zk
 show wpAny S.M A (boolOp pos .Or (eval _ env :: eval _ env :: evalEach r env)) _ _ _
 simp only [boolOp]
 refine wpAny_bind (andThen (i1 env A ext ρ m σ x σ₁ s Y H e1) fun u ρ₁ h₁ t₁ p₁ H₁ r₁ => ?_)
 refine wpAny_bind (wpAny_standAt (wpAny_bind (wpAny_holding (andThenb (truth_snd (s := { s with heap := h₁, toks := t₁ }) e3 H₁ r₁) fun ρ₂ h₂ t₂ p₂ H₂ => ?_))))
 cases t with
 | true =>
   simp only [if_true] at e
   refine so2 e ?_
   exact wpAny_pure (i3_4 ρ₂ h₂ t₂ (p₁.trans p₂) rfl H₂ (r₁.mono p₂))
 | false =>
   simp only [Bool.false_eq_true, if_false] at e
   exact wpAny_mono (i2 env A ext ρ₂ m σ₁ v σ' { s with heap := h₂, toks := t₂ } (Y.mono (p₁.trans p₂)) H₂ e) (fun v' s' q => q.from (p₁.trans p₂)) fun _ _ q => q
theorem sbt_one_and {e : Expr} {a : E} (i : STr S n Φ xs gl cn e a) : SBT .And S n Φ xs gl cn [e] a := by
 intro env A ext ρ m σ v σ' b s Y H e1 e2
 show wpAny S.M A (isTrue (.BoolOp .And [e] e.pos) env (eval e env)) _ _ _
 refine isTrue_and (andThenb (i env A ext ρ m σ v σ' b s Y H e1 e2) fun ρ₁ h₁ t₁ p₁ H₁ => ?_)
 cases b with
 | false => exact i3_4 ρ₁ h₁ t₁ p₁ rfl H₁ rfl
 | true => exact isTrue_and_nil (i3_4 ρ₁ h₁ t₁ p₁ rfl H₁ rfl)
theorem sbt_one_or {e : Expr} {a : E} (i : STr S n Φ xs gl cn e a) : SBT .Or S n Φ xs gl cn [e] a := by
 intro env A ext ρ m σ v σ' b s Y H e1 e2
 show wpAny S.M A (isTrue (.BoolOp .Or [e] e.pos) env (eval e env)) _ _ _
 refine isTrue_or (andThenb (i env A ext ρ m σ v σ' b s Y H e1 e2) fun ρ₁ h₁ t₁ p₁ H₁ => ?_)
 cases b with
 | true => exact i3_4 ρ₁ h₁ t₁ p₁ rfl H₁ rfl
 | false => exact isTrue_or_nil (i3_4 ρ₁ h₁ t₁ p₁ rfl H₁ rfl)
theorem sbt_and {e e2 : Expr} {r : List Expr} {a b : E} (i1 : STr S n Φ xs gl cn e a) (i2 : SBT .And S n Φ xs gl cn (e2 :: r) b) : SBT .And S n Φ xs gl cn (e :: e2 :: r) (.and a b) := by
 intro env A ext ρ m σ v σ' b s Y H e eb
 refine cps fun _ zk => ?_
 refine x2_2 (b2_inv e) fun x σ₁ e1 e => ?_
 refine x1_2 (b1_inv e) fun t e3 e => ?_
 refine zk ?_; clear zk
 show wpAny S.M A (isTrue (.BoolOp .And (_ :: e2 :: r) e2.pos) env (eval e2 env)) _ _ _
 refine isTrue_and (andThenb (i1 env A ext ρ m σ x σ₁ t s Y H e1 e3) fun ρ₁ h₁ t₁ p₁ H₁ => ?_)
 cases t with
 | false =>
   simp only [Bool.false_eq_true, if_false] at e ⊢
   cases e
   rw [e3] at eb; refine so1 eb ?_
   exact i3_4 ρ₁ h₁ t₁ p₁ rfl H₁ rfl
 | true =>
   simp only [if_true] at e ⊢
   exact wpAny_mono (i2 env A ext ρ₁ m σ₁ v σ' b { s with heap := h₁, toks := t₁ } (Y.mono p₁) H₁ e eb) (fun v' s' q => q.from p₁) fun _ _ q => q
theorem sbt_or {e e2 : Expr} {r : List Expr} {a b : E} (i1 : STr S n Φ xs gl cn e a) (i2 : SBT .Or S n Φ xs gl cn (e2 :: r) b) : SBT .Or S n Φ xs gl cn (e :: e2 :: r) (.or a b) := by
 intro env A ext ρ m σ v σ' b s Y H e eb
 refine cps fun _ zk => ?_
 refine x2_2 (b2_inv e) fun x σ₁ e1 e => ?_
 refine x1_2 (b1_inv e) fun t e3 e => ?_
 refine zk ?_; clear zk
 show wpAny S.M A (isTrue (.BoolOp .Or (_ :: e2 :: r) e2.pos) env (eval e2 env)) _ _ _
 refine isTrue_or (andThenb (i1 env A ext ρ m σ x σ₁ t s Y H e1 e3) fun ρ₁ h₁ t₁ p₁ H₁ => ?_)
 cases t with
 | true =>
   simp only [if_true] at e ⊢
   cases e
   rw [e3] at eb; refine so1 eb ?_
   exact i3_4 ρ₁ h₁ t₁ p₁ rfl H₁ rfl
 | false =>
   simp only [Bool.false_eq_true, if_false] at e ⊢
   exact wpAny_mono (i2 env A ext ρ₁ m σ₁ v σ' b { s with heap := h₁, toks := t₁ } (Y.mono p₁) H₁ e eb) (fun v' s' q => q.from p₁) fun _ _ q => q
theorem push_snd {s : Shared} {ext : List (Addr × Obj)} {ρ : List Addr} {σ σ' : Hp} {A : Around} {l : Nat} {a : Addr} {x : V} {u : Value} (e : push? σ l x = some σ') (H : S.HR ext ρ σ s.heap) (ha : ρ[l]? = some a) (r : S.VR ρ x u) :
 wpAny S.M A (call (.builtin "list.append") [.ref a, u]) (Res S s ext ρ σ' .none) Nope s := by
 unfold push? at e
 refine x1_2 (b1_inv e) fun ys q e => ?_
 split at e
 · rename_i hz
   refine so1 e ?_
   refine cps fun _ zk => ?_
   refine x2_3 (H.at_ (listAt_inv q)) fun a' ob z1 hl y1 => ?_
   refine x2_2 y1 fun vs k zz1 r2 => ?_
   clear y1
   refine zk ?_; clear zk
   subst zz1
   rw [ha] at z1; cases z1
   have hs := seqSz r2
   refine wpAny_list_append_plain (items := vs) ⟨k, hl⟩ (fun h' hp hsb => ?_) (by rw [hs, sizeLine_eq]; lia)
   obtain ⟨k', e'⟩ := hp
   refine i3_4 ρ h' _ (List.prefix_refl _) rfl (H.upd ha hsb e' (i2_2 _ _ rfl ?_)) rfl
   rw [Array.toList_push]
   exact r2.append (i2_3 u ([]) rfl r rfl)
 · exact nn e
theorem se_append (G : S.Good) {o v : Expr} {apos pos : Pos} {a b : E} (hb : ∀ env, attributeBase o "append" env (eval o env) = eval o env) (hl : (apos.endLine == pos.line) = true)
 (hst : ∀ env, starEach [v] env = [(false, eval v env)]) (i1 : SE S n Φ xs gl cn o a) (i2 : SE S n Φ xs gl cn v b) : SE S n Φ xs gl cn (.Call (.Attribute o "append" apos) [v] [] pos) (.append a b) := by
 intro env A ext ρ m σ v σ' s Y H e
 refine cps fun _ zk => ?_
 refine x2_2 (b2_inv e) fun x σ₁ e1 f1 => ?_
 refine x1_2 (b1_inv f1) fun l e2 f2 => ?_
 refine x1_2 (b1_inv f2) fun ys e3 f3 => ?_
 refine x2_2 (b2_inv f3) fun y σ₂ e4 f4 => ?_
 refine x1_2 (b1_inv f4) fun σ₃ e5 f5 => ?_
 refine zk ?_; clear zk
 cases f5
 have hx := asRef_inv e2
 subst hx
 refine wpAny_Call_append (hb env) (by rw [hst]; rfl) hl (by rw [hst]; rfl) (andThen (i1 env A ext ρ m σ _ σ₁ s Y H e1) fun u ρ₁ h₁ t₁ p₁ H₁ r₁ => ?_)
 refine x1_2 r₁ fun D hD zz2 => ?_
 clear r₁
 subst zz2
 refine cps fun _ zk => ?_
 refine x2_3 (H₁.at_ (listAt_inv e3)) fun D' ob z1 hl y2 => ?_
 refine x2_2 y2 fun vs k zz3 r2 => ?_
 clear y2
 refine zk ?_; clear zk
 subst zz3
 rw [hD] at z1; cases z1
 refine i2_3 D vs rfl (i2_4 _ k hl rfl rfl rfl) ?_
 refine andThen (i2 env A ext ρ₁ m σ₁ y σ₂ _ (Y.mono p₁) H₁ e4) fun w ρ₂ h₂ t₂ p₂ H₂ r₂ => ?_
 exact wpAny_mono (push_snd (s := { s with heap := h₂, toks := t₂ }) e5 H₂ (getElem?_mono p₂ hD) r₂) (fun v' s' q => q.from (p₁.trans p₂)) fun _ _ q => q.elim
theorem Sur.ext {env : Env} {A : Around} {ext ext' : List (Addr × Obj)} {ρ : List Addr} {m : Frm} (Y : Sur S n xs gl cn env A ext ρ m) (h : ∀ p ∈ ext, p ∈ ext') : Sur S n xs gl cn env A ext' ρ m :=
 ⟨Y.ok, Y.sees.mono (List.prefix_refl _) h, Y.room.mono h, fun q => by cases ext with | nil => exact Y.ne rfl | cons p r => have := h p (.head _); rw [q] at this; cases this⟩
theorem se_dict1 (G : S.Good) {x y : Str} {p p2 pos : Pos} {i j : Int} {t u : Tok} (hx : x ∈ gl) (e1 : nsIn S.K mainGlobals x = some (some (.int i t))) (hd : (x == ("__debug__" : Str)) = false) (hy : y ∈ gl) (e2 : nsIn S.K mainGlobals y = some (some (.int j u))) (hd2 : (y == ("__debug__" : Str)) = false) :
 SE S n Φ xs gl cn (.Dict [some (.Name x p)] [.Name y p2] pos) (.dict1 (.lit (.int i)) (.lit (.int j))) := by
 intro env A ext ρ m σ v σ' s Y H e
 refine so2 e ?_
 refine x0_3 (H.newAt (Nat.le_refl _)) fun n1 n2 n3 => ?_
 refine wpAny_Dict_pairs (knd := intKind S.prog S.w) (pairs := [(eval (.Name x p) env, do let x <- eval (.Name y p2) env; standAt pos; pure x)]) rfl (by simp) (by simp) ?_
 have D0 := Heap.DictOf.new (knd := intKind S.prog S.w) s.heap
 simp only [evalPairs]
 refine wpAny_bind (globalName (s := { s with heap := s.heap.push { cls := .type "dict", data := .dict #[] } }) G Y (H.push _) hx e1 hd ?_)
 refine wpAny_bind (wpAny_holding (wpAny_bind (globalName (s := { s with heap := s.heap.push { cls := .type "dict", data := .dict #[] } }) G Y (H.push _) hy e2 hd2 ?_)))
 refine wpAny_bind (wpAny_standAt (wpAny_pure ?_))
 refine wpAny_bind (wpAny_holding (wpAny_pure (wpAny_pure ?_)))
 refine i1_3 ([(i, .int j u)]) ⟨intKind_is _ _ i t, rfl, trivial⟩ D0 (fun h' hd hs => ?_)
 refine x1_2 (Heap.dictOf_iff.mp hd) fun o3 ho3 hd3 => ?_
 have H₄ := (H.push { cls := .type "dict", data := .dict #[] }).extBut hs.extBut n3 n1 n2 (by rw [hs.1]; exact (H.push _).size)
 exact i3_4 (ρ ++ [s.heap.objs.size]) h' _ (pfa ..) rfl (H₄.track n1 n2 n3 ho3 (i1_2 _ hd3 (i2_3 _ _ rfl ⟨u, rfl⟩ rfl))) (i1_2 _ (by rw [<- H.len]; simp) rfl)
end
noncomputable def ItO (gad ρ : List Addr) : It -> Obj -> Prop
 | .lst l i, ob => ∃ a, VR gad ρ l (.ref a) /\ ob.cls = .type "list_iterator" /\ ob.data = .fields #[.ref a, .int i 0]
 | .tup l i, ob => ∃ a, VR gad ρ l (.ref a) /\ ob.cls = .type "tuple_iterator" /\ ob.data = .fields #[.ref a, .int i 0]
 | .range x step left, ob => ob = { cls := .type "range_iterator", data := .fields #[rawInt x, rawInt left, rawInt step] }
theorem ItO.mono {gad ρ ρ' : List Addr} (hp : ρ <+: ρ') {it : It} {ob : Obj} (h : ItO gad ρ it ob) : ItO gad ρ' it ob := by
 cases it with
 | lst l i => refine x1_2 h fun a q r => ?_; clear h; exact ⟨a, q.mono hp, r⟩
 | tup l i => refine x1_2 h fun a q r => ?_; clear h; exact ⟨a, q.mono hp, r⟩
 | range x st lf => exact h
theorem ItO.noFrame {gad ρ : List Addr} {it : It} {ob : Obj} (h : ItO gad ρ it ob) : ∃ vs, ob.data = .fields vs := by
 cases it with
 | lst l i => refine x1_3 h fun a q _ r => ?_; clear h; exact ⟨_, r⟩
 | tup l i => refine x1_3 h fun a q _ r => ?_; clear h; exact ⟨_, r⟩
 | range x st lf => cases h; exact ⟨_, rfl⟩
structure Apart (S : St) (ext : List (Addr × Obj)) (ρ : List Addr) (a : Addr) : Prop where
 rho : a ∉ ρ
 ext : ∀ p ∈ ext, p.1 ≠ a
 above : S.h₀.objs.size <= a
section
variable {S : St} {s : Shared} {ext : List (Addr × Obj)} {ρ : List Addr} {σ σ' : Hp} {A : Around} {n : Nat}
theorem HR.apart {h : Heap} (H : S.HR ext ρ σ h) {a : Addr} (ha : h.objs.size <= a) : Apart S ext ρ a := let ⟨a1, a2, a3⟩ := H.newAt ha; ⟨a1, a2, a3⟩
theorem HR.sameBut {h h' : Heap} (H : S.HR ext ρ σ h) {a : Addr} (D : Apart S ext ρ a) (hs : Heap.SameBut a h h') : S.HR ext ρ σ h' := H.extBut hs.extBut D.above D.rho D.ext (by rw [hs.1]; exact H.size)
theorem HR.extButE {h h' : Heap} (H : S.HR ext ρ σ h) (hne : ext ≠ []) {a : Addr} (D : Apart S ext ρ a) (hs : Heap.ExtBut a h h') : S.HR ext ρ σ h' :=
 H.extBut hs D.above D.rho D.ext (H.sized hne fun p hp => let ⟨o, e, _⟩ := H.exs p hp; ⟨o, hs _ _ (D.ext p hp) e⟩)
theorem iter_snd {x : V} {it : It} {a : Value} (G : S.Good) (e : iter S.g σ x = some it) (H : S.HR ext ρ σ s.heap) (r : S.VR ρ x a) {Q : Value -> Shared -> Prop} {E : Value -> Shared -> Prop}
 (h : ∀ ob, ItO S.gad ρ it ob -> ob.isFreed = false -> Q (.ref s.heap.objs.size) { s with heap := s.heap.push ob }) : wpAny S.M A (pyIter a) Q E s := by
 unfold iter at e
 split at e
 · rename_i xs q
   cases e
   refine x2_3 (objAt G H q r) fun l ob y1 hl y2 => ?_
   subst y1
   refine x2_2 y2 fun vs k zz1 r2 => ?_
   clear y2
   subst zz1
   exact wpAny_pyIter_list (isList_of hl) (h _ (i1_3 l r rfl rfl) rfl)
 · rename_i xs q
   cases e
   refine x2_3 (objAt G H q r) fun l ob y3 hl y4 => ?_
   subst y3
   refine x2_2 y4 fun vs k zz2 r2 => ?_
   clear y4
   subst zz2
   exact wpAny_pyIter_tuple ⟨_, hl, rfl, k, rfl⟩ (h _ (i1_3 l r rfl rfl) rfl)
 · rename_i b c d q
   cases e
   refine x2_3 (objAt G H q r) fun l ob y5 hl y6 => ?_
   subst y5
   refine cps fun _ zk => ?_
   refine x0_4 y6 fun q1 q2 q3 zz3 => ?_
   refine x3_1 zz3 fun t u w zz4 => ?_
   refine zk ?_; clear zk
   subst zz4
   refine wpAny_pyIter_range hl (small_of q1 q2 q3) (h _ ?_ rfl)
   rw [rangeSize_eq q3]
   exact rfl
 · exact nn e
noncomputable def NextR (S : St) (ext : List (Addr × Obj)) (ρ : List Addr) (I : Addr) (r : Option (V × It)) (v' : Option Value) (h : Heap) : Prop := match r with
 | none => v' = none
 | some (v, it') => ∃ u ob, v' = some u /\ S.VR ρ v u /\ h.get? I = some ob /\ ItO S.gad ρ it' ob
theorem next_snd {it : It} {r : Option (V × It)} {I : Addr} {ob : Obj} (G : S.Good) (hh : A.handled = none) (hne : ext ≠ []) (e : next S.g σ it = some r) (H : S.HR ext ρ σ s.heap) (D : Apart S ext ρ I) (hI : s.heap.get? I = some ob) (hO : ItO S.gad ρ it ob)
 {Q : Option Value -> Shared -> Prop} {E : Value -> Shared -> Prop} (h : ∀ v' h' t', S.HR ext ρ σ h' -> Heap.ExtBut I s.heap h' -> NextR S ext ρ I r v' h' -> Q v' { s with heap := h', toks := t' }) : wpAny S.M A (pyNext (.ref I)) Q E s := by
 unfold next at e
 cases it with
 | lst l i =>
   refine x1_3 hO fun a ra hc hd => ?_
   clear hO
   dsimp only at e
   split at e
   · rename_i xs q
     refine listAt G H q ra fun l' vs k q1 hl r2 => ?_
     cases q1
     split at e
     · rename_i x hx
       cases e
       refine x1_2 (r2.at_ hx) fun u hu ru => ?_
       refine wpAny_pyNext_list_item ⟨ob, hI, hc, hd⟩ (isList_of hl) (by rw [<- Array.getElem?_toList]; exact hu) fun h' hi' hs => ?_
       refine x1_3 hi' fun ob' z1 z2 z3 => ?_
       clear hi'
       exact h _ h' _ (H.sameBut D hs) hs.extBut (i2_4 u ob' rfl ru z1 (i1_3 a ra z2 z3))
     · rename_i hx
       cases e
       exact wpAny_pyNext_list_end hh ⟨ob, hI, hc, hd⟩ (isList_of hl) (by rw [<- Array.getElem?_toList]; exact r2.none_at hx) fun h' hs => h _ h' _ (H.extButE hne D hs) hs rfl
   · exact nn e
 | tup l i =>
   refine x1_3 hO fun a ra hc hd => ?_
   clear hO
   dsimp only at e
   split at e
   · rename_i xs q
     unfold tupOf at q
     split at q <;> cases q
     rename_i q
     refine cps fun _ zk => ?_
     refine x2_3 (objAt G H q ra) fun l' ob2 q1 hl y7 => ?_
     refine x2_2 y7 fun vs k zz5 r2 => ?_
     clear y7
     refine zk ?_; clear zk
     subst zz5
     cases q1
     split at e
     · rename_i x hx
       cases e
       refine x1_2 (r2.at_ hx) fun u hu ru => ?_
       refine wpAny_pyNext_tuple_item ⟨ob, hI, hc, hd⟩ ⟨_, hl, rfl, k, rfl⟩ (by rw [<- Array.getElem?_toList]; exact hu) fun h' hi' hs => ?_
       refine x1_3 hi' fun ob' z1 z2 z3 => ?_
       clear hi'
       exact h _ h' _ (H.sameBut D hs) hs.extBut (i2_4 u ob' rfl ru z1 (i1_3 a ra z2 z3))
     · rename_i hx
       cases e
       exact wpAny_pyNext_tuple_end hh ⟨ob, hI, hc, hd⟩ ⟨_, hl, rfl, k, rfl⟩ (by rw [<- Array.getElem?_toList]; exact r2.none_at hx) fun h' hs => h _ h' _ (H.extButE hne D hs) hs rfl
   · exact nn e
 | range x st lf =>
   obtain rfl : ob = _ := hO
   cases lf with
   | zero =>
     cases e
     exact wpAny_pyNext_range_end hh hI (by decide) fun h' hs => h _ h' _ (H.extButE hne D hs) hs rfl
   | succ k =>
     cases e
     refine wpAny_pyNext_range_item hI (by omega) fun h' hi' hs => ?_
     refine h _ h' _ (H.sameBut D hs) hs.extBut (i2_4 _ _ rfl ⟨_, rfl⟩ hi' ?_)
     show _ = _
     have : ((k + 1 : Nat) : Int) - 1 = (k : Int) := by lia
     rw [this]
theorem again_snd {it : It} {I : Addr} {ob : Obj} (hI : s.heap.get? I = some ob) (hO : ItO S.gad ρ it ob) {Q : Value -> Shared -> Prop} {E : Value -> Shared -> Prop} (h : Q (.ref I) s) : wpAny S.M A (pyIter (.ref I)) Q E s := by
 cases it with
 | lst l i =>
   refine x1_3 hO fun a ra hc hd => ?_
   clear hO
   exact wpAny_pyIter_listiter ⟨ob, hI, hc, hd⟩ h
 | tup l i =>
   refine x1_3 hO fun a ra hc hd => ?_
   clear hO
   exact wpAny_pyIter_tupleiter ⟨ob, hI, hc, hd⟩ h
 | range x st lf =>
   obtain rfl : ob = _ := hO
   exact wpAny_pyIter_rangeiter hI h
end
theorem relabel_lookup {env : Env} {y : Str} {k : NameKind} : ∀ {names : List (Str × NameKind)}, names.lookup y = some k ->
 (names.map fun (n, k) => if (k == NameKind.free && env.scope.kind == .function && env.kindOf n == some .cell) then (n, NameKind.cell) else (n, k)).lookup y = some (if (k == NameKind.free && env.scope.kind == .function && env.kindOf y == some .cell) then NameKind.cell else k)
 | [], h => by simp at h
 | (n, j) :: r, h => by
   show List.lookup y ((if (j == NameKind.free && env.scope.kind == .function && env.kindOf n == some .cell) = true then (n, NameKind.cell) else (n, j)) :: _) = _
   rw [List.lookup_cons] at h
   cases hx : y == n with
   | true =>
     simp only [hx, Option.some.injEq] at h
     subst h
     have hx' := eq_of_beq hx
     subst hx'
     split
     · simp
     · simp
   | false =>
     simp only [hx] at h
     have ih := relabel_lookup (env := env) h
     split
     · rw [List.lookup_cons]; simp only [hx]; exact ih
     · rw [List.lookup_cons]; simp only [hx]; exact ih
noncomputable def STests (S : St) (n : Nat) (ys gl2 : List Str) (ifs : List Expr) (cf : Frm -> Hp -> Option (V × Hp)) : Prop :=
 ∀ (env : Env) (A : Around) (ext : List (Addr × Obj)) (ρ : List Addr) (m : Frm) (σ : Hp) (v : V) (σ' : Hp) (b : Bool) (s : Shared), Sur S n ys gl2 [] env A ext ρ m -> S.HR ext ρ σ s.heap ->
   cf m σ = some (v, σ') -> truth v = some b ->
   wpAny S.M A (forIn ifs true fun c r => if r = true then do let ok <- isTrue c env (eval c env); pure (ForInStep.yield ok) else pure (ForInStep.yield r)) (Resb S s ext ρ σ' b) Nope s
section
variable {S : St} {n : Nat} {Φ : CallF} {xs gl cn ys gl2 : List Str}
theorem stests_nil : STests S n ys gl2 [] (fun _ σ => some (.bool true, σ)) := by
 intro env A ext ρ m σ v σ' b s Y H e1 e2
 cases e1; refine so1 e2 ?_
 exact wpAny_tests_nil (i3_4 ρ _ _ (List.prefix_refl _) rfl H rfl)
theorem stests_one {cd : Expr} {c : E} (i : STr S n Φ ys gl2 [] cd c) : STests S n ys gl2 [cd] (fun m σ => vE S.g Φ c m σ) := by
 intro env A ext ρ m σ v σ' b s Y H e1 e2
 exact wpAny_tests_one (i env A ext ρ m σ v σ' b s Y H e1 e2)
theorem comp_sur {env : Env} {scope : Scope} {cl : List (Str × Addr)} {C I : Addr} {x : Str} {base : List V} {v : V} {u : Value} {A : Around} {ext : List (Addr × Obj)} {ρ : List Addr} {oC ob : Obj} {es : Array DictEntry} {ep : Nat}
 (he : EnvOk env gl cn) (hkind : scope.kind = .function) (hx : scope.names.lookup x = some .local) (hfree : ∀ y ∈ ys, scope.names.lookup y = some .free /\ y ∈ cn) (hg2 : ∀ y ∈ gl2, scope.names.lookup y = some .globalImplicit)
 (hlen : base.length = ys.length) (hcap : ∀ (j : Nat) (y : Str) (b : V), ys[j]? = some y -> base[j]? = some b -> ∃ c o w, cl.lookup y = some c /\ (c, o) ∈ ext /\ o.data = .cell (some w) /\ S.VR ρ b w)
 (R : Room n A ext) (hC : oC.data = .dict es ep) (hk : StrKeys es) (hf : nsFind es x = some u) (hv : S.VR ρ v u) :
 Sur S n (ys ++ [x]) gl2 [] (compEnvC scope cl C env) A ((I, ob) :: (C, oC) :: ext) ρ ((base ++ [v]).map some) := by
 refine ⟨⟨hkind, he.glob, he.blt, fun y hy => ?_, fun y hy => by cases hy⟩, fun i y b e1 e2 => ?_, R.mono fun p hp => .tail _ (.tail _ hp), by simp⟩
 · exact relabel_lookup (env := env) (hg2 y hy)
 · rw [List.getElem?_map, Option.map_eq_some_iff] at e2
   refine x1_2 e2 fun b' _ q => ?_
   clear e2; rename_i e2
   cases q
   by_cases hi : i < ys.length
   · rw [List.getElem?_append_left hi] at e1
     rw [List.getElem?_append_left (hlen ▸ hi)] at e2
     refine x3_4 (hcap i y b e1 e2) fun c o w q1 q2 q3 q4 => ?_
     refine i1_2 w q4 (.inr ⟨.inl ?_, c, o, q1, .tail _ (.tail _ q2), q3⟩)
     obtain ⟨z1, z2⟩ := hfree y (List.mem_of_getElem? e1)
     refine (relabel_lookup (env := env) z1).trans ?_
     rw [he.kind, he.ck y z2]; rfl
   · have hi' := Nat.le_of_not_lt hi
     rw [List.getElem?_append_right hi'] at e1
     rw [List.getElem?_append_right (hlen ▸ hi')] at e2
     have h0 : i - ys.length = 0 := by
      have := (gsm e1).1
      simp at this; omega
     rw [h0] at e1
     rw [hlen, h0] at e2
     cases e1; cases e2
     refine i1_2 u hv (.inl ⟨?_, oC, es, ep, .tail _ (.head _), hC, hk, hf⟩)
     refine (relabel_lookup (env := env) hx).trans ?_
     simp
noncomputable def CLoop (S : St) (s₀ : Shared) (ext : List (Addr × Obj)) (ρ₀ : List Addr) (I C : Addr) (run : Nat -> It -> Hp -> Option Hp) (r : Hp) (n : Nat) (s : Shared) : Prop :=
 ∃ it σ ρ h t ob oC es ep, s = { s₀ with heap := h, toks := t } /\ ρ₀ <+: ρ /\ run n it σ = some r /\ S.HR ext ρ σ h /\ h.get? I = some ob /\ ItO S.gad ρ it ob /\ h.get? C = some oC /\ oC.data = .dict es ep /\ StrKeys es /\
   Apart S ext ρ I /\ Apart S ext ρ C /\ I ≠ C
noncomputable def CompStep (g : List O) (ef cf : Frm -> Hp -> Option (V × Hp)) (base : List V) (acc : Nat) (run : Nat -> It -> Hp -> Option Hp) (k : Nat) (it : It) (σ r : Hp) : Prop :=
 (next g σ it = some none /\ r = σ) \/ ∃ j v it' c σ₁ tb, k = j + 1 /\ next g σ it = some (some (v, it')) /\ cf ((base ++ [v]).map some) σ = some (c, σ₁) /\ truth c = some tb /\
  if tb then ∃ y σ₂ σ₃, ef ((base ++ [v]).map some) σ₁ = some (y, σ₂) /\ push? σ₂ acc y = some σ₃ /\ run j it' σ₃ = some r else run j it' σ₁ = some r
theorem compStep {g : List O} {ef cf : Frm -> Hp -> Option (V × Hp)} {base : List V} {acc k : Nat} {it : It} {σ r : Hp} (e : compLoop g ef cf base acc k it σ = some r) : CompStep g ef cf base acc (compLoop g ef cf base acc) k it σ r := by
 cases k with
 | zero => exact nn e
 | succ k =>
   refine x1_2 (b1_inv e) fun x e1 e => ?_
   cases x with
   | none => exact .inl ⟨e1, (Option.some.inj e).symm⟩
   | some p =>
     refine x2_2 (b2_inv e) fun c σ₁ e2 e => ?_
     refine x1_2 (b1_inv e) fun tb e3 e => ?_
     refine .inr ⟨k, p.1, p.2, c, σ₁, tb, rfl, e1, e2, e3, ?_⟩
     cases tb with
     | false => exact e
     | true => exact x2_2 (b2_inv e) fun y σ₂ e4 e => x1_2 (b1_inv e) fun σ₃ e5 e => i3_3 y σ₂ σ₃ e4 e5 e
theorem comp_loop (G : S.Good) {elt it : Expr} {a : E} {ifs : List Expr} {cf : Frm -> Hp -> Option (V × Hp)} {env : Env} {scope : Scope} {pos px : Pos} {cl : List (Str × Addr)} {C I D : Addr} {x : Str} {base : List V} {A : Around} {ext : List (Addr × Obj)} {ρ₀ : List Addr} {acc : Nat}
 {R : Result -> Shared -> Prop} {r : Hp} {s₀ : Shared} {run : Nat -> It -> Hp -> Option Hp} (hrun : ∀ k it σ, run k it σ = some r -> CompStep S.g (fun m σ => vE S.g Φ a m σ) cf base acc run k it σ r) (he : EnvOk env gl cn) (hkind : scope.kind = .function) (hx : scope.names.lookup x = some .local) (hfree : ∀ y ∈ ys, scope.names.lookup y = some .free /\ y ∈ cn) (hg2 : ∀ y ∈ gl2, scope.names.lookup y = some .globalImplicit)
 (hlen : base.length = ys.length) (hcap : ∀ (j : Nat) (y : Str) (b : V), ys[j]? = some y -> base[j]? = some b -> ∃ c o w, cl.lookup y = some c /\ (c, o) ∈ ext /\ o.data = .cell (some w) /\ S.VR ρ₀ b w)
 (hR : Room n A ext) (hne : ext ≠ []) (hD : ρ₀[acc]? = some D) (ie : SE S n Φ (ys ++ [x]) gl2 [] elt a) (ic : STests S n (ys ++ [x]) gl2 ifs cf)
 (fin : ∀ ρ h t oC es ep, ρ₀ <+: ρ -> S.HR ext ρ r h -> h.get? C = some oC -> oC.data = .dict es ep -> StrKeys es -> Apart S ext ρ C -> R (.ok .next) { s₀ with heap := h, toks := t }) (k : Nat) (s : Shared)
 (J : CLoop S s₀ ext ρ₀ I C run r k s) :
 codeAny S.M A (.compLoop (.ListComp elt [⟨.Name x px, it, ifs, 0⟩] scope pos) 0 (.ref I) (.ref D) (compEnvC scope cl C env)) R s := by
 refine codeAny_compLoop_tests (CLoop S s₀ ext ρ₀ I C run r) (fun k s J => ?_) k J
 refine x9_1 J fun it' σ ρ h t ob oC es ep zq => x0_12 zq fun zz1 hp hr H hI hO hC hd hk DI DC hIC => ?_
 subst zz1
 refine (hrun k it' σ hr).elim (fun q => next_snd (s := { s₀ with heap := h, toks := t }) G hR.hd hne q.1 H DI hI hO fun v' h₁ t₁ H₁ hx₁ hnx => ?_) fun q => ?_
 · cases hnx
   exact fin ρ h₁ t₁ oC es ep hp (by rw [q.2]; exact H₁) (hx₁ C oC (Ne.symm hIC) hC) hd hk DC
 refine x6_1 q fun j v it'' c σ₁ tb zq => x0_5 zq fun hj e1 e2 e3 hc => ?_
 refine next_snd (s := { s₀ with heap := h, toks := t }) G hR.hd hne e1 H DI hI hO fun v' h₁ t₁ H₁ hx₁ hnx => ?_
 have hC₁ : h₁.get? C = some oC := hx₁ C oC (Ne.symm hIC) hC
 refine x2_4 hnx fun u ob₁ zz2 ru hI₁ hO₁ => ?_
 cases zz2
 have hloc : (compEnvC scope cl C env).kindOf x = some .local := (relabel_lookup (env := env) hx).trans (by simp)
 refine wpAny_assign_Name (wpAny_storeName_local (m := fun y => nsFind es y) hloc (i3_4 oC es ep hC₁ hd hk (fun _ => rfl)) (fun h₂ hn₂ hs₂ => ?_) (by rw [show (compEnvC scope cl C env).scope.kind = ScopeKind.function from hkind]; rfl))
 refine x3_4 hn₂ fun oC₂ es₂ ep₂ hC₂ hd₂ hk₂ hf₂ => ?_
 have H₂ := H₁.sameBut DC hs₂
 have hI₂ : h₂.get? I = some ob₁ := (hs₂.2 I hIC).trans hI₁
 have H₃ : S.HR ((I, ob₁) :: (C, oC₂) :: ext) ρ σ h₂ := (H₂.cons_ext (p := (C, oC₂)) hC₂ (Like.refl _) DC.rho DC.above).cons_ext (p := (I, ob₁)) hI₂ (Like.refl _) DI.rho DI.above
 have Y := comp_sur (S := S) (I := I) (C := C) (ob := ob₁) he hkind hx hfree hg2 hlen (fun j y b q1 q2 => x3_4 (hcap j y b q1 q2) fun c o w z1 z2 z3 z4 => i3_4 c o w z1 z2 z3 (z4.mono hp)) hR hd₂ hk₂ (by simpa using hf₂ x) ru
 refine andThenb (ic _ A _ ρ _ σ c σ₁ tb { s₀ with heap := h₂, toks := t₁ + 1 } Y H₃ e2 e3) fun ρ₄ h₄ t₄ p₄ H₄ => ?_
 have lt : j < k := hj ▸ Nat.lt_succ_self j
 have back : ∀ {ρ₅ : List Addr} {σ₅ : Hp} {h₅ : Heap}, ρ <+: ρ₅ -> S.HR ((I, ob₁) :: (C, oC₂) :: ext) ρ₅ σ₅ h₅ -> ∀ t₅ : Nat, run j it'' σ₅ = some r -> CLoop S s₀ ext ρ₀ I C run r j { s₀ with heap := h₅, toks := t₅ } := by
  intro ρ₅ σ₅ h₅ p₅ H₅ t₅ r₅
  refine x1_2 (H₅.exs _ (.head _)) fun oi q1 q2 => ?_
  refine x1_2 (H₅.exs _ (.tail _ (.head _))) fun oc q3 q4 => ?_
  exact ⟨it'', σ₅, ρ₅, h₅, t₅, oi, oc, es₂, ep₂, rfl, hp.trans p₅, r₅, H₅.mono_ext fun p hp => .tail _ (.tail _ hp), q1, q2.eq hO₁.noFrame ▸ hO₁.mono p₅, q3, q4.2.1.trans hd₂, hk₂,
   ⟨H₅.disj _ (.head _), DI.ext, DI.above⟩, ⟨H₅.disj _ (.tail _ (.head _)), DC.ext, DC.above⟩, hIC⟩
 cases tb with
 | false => exact i1_2 j lt (back p₄ H₄ t₄ hc)
 | true =>
   refine x3_3 hc fun y σ₅ σ₆ e4 e5 hc => ?_
   refine andThen (ie _ A _ ρ₄ _ σ₁ y σ₅ { s₀ with heap := h₄, toks := t₄ } (Y.mono p₄) H₄ e4) fun w ρ₅ h₅ t₅ p₅ H₅ r₅ => ?_
   refine andThen (push_snd (s := { s₀ with heap := h₅, toks := t₅ }) e5 H₅ (getElem?_mono (hp.trans (p₄.trans p₅)) hD) r₅) fun w ρ₆ h₆ t₆ p₆ H₆ r₆ => ?_
   exact i1_2 j lt (back (p₄.trans (p₅.trans p₆)) H₆ t₆ hc)
theorem closure_of {env : Env} : ∀ {names : List (Str × NameKind)} (acc : List (Str × Addr)), (∀ z ∈ names, z.2 = .free -> ∃ c, env.cells.lookup z.1 = some c) -> (∀ y c, acc.lookup y = some c -> env.cells.lookup y = some c) ->
 ∃ cl, (forIn names acc fun (x : Str × NameKind) (r : List (Str × Addr)) => (if x.2 == NameKind.free then do let a <- cellOf env x.1; pure (ForInStep.yield ((x.1, a) :: r)) else pure (ForInStep.yield r) : Sem (ForInStep (List (Str × Addr))))) = pure cl /\
   (∀ y c, cl.lookup y = some c -> env.cells.lookup y = some c) /\ (∀ y, (acc.lookup y).isSome = true -> (cl.lookup y).isSome = true) /\ ∀ z ∈ names, z.2 = .free -> (cl.lookup z.1).isSome = true
 | [], acc, _, h2 => i1_4 acc (by rw [List.forIn_nil]) h2 (fun _ q => q) (fun z hz => by cases hz)
 | (y, k) :: r, acc, h1, h2 => by
   by_cases hk : k = .free
   · subst hk
     refine cps fun _ zk => ?_
     obtain ⟨c, hc⟩ := h1 (y, .free) (.head _) rfl
     refine x1_4 (closure_of (names := r) ((y, c) :: acc) (fun z hz => h1 z (.tail _ hz)) (fun y' c' q => by
      rw [List.lookup_cons] at q
      split at q
      · rename_i hb; refine so1 q ?_; rw [eq_of_beq hb]; exact hc
      · exact h2 _ _ q)) fun cl q1 q2 q3 q4 => ?_
     refine zk ?_; clear zk
     refine i1_4 cl ?_ q2 (fun y' q => q3 y' ?_) (fun z hz hf => ?_)
     · rw [List.forIn_cons]
       have : cellOf env y = pure c := by unfold cellOf; rw [hc]
       simp only [this, beq_self_eq_true, if_true, pure_bind]
       exact q1
     · rw [List.lookup_cons]; split <;> simp_all
     · rcases List.mem_cons.mp hz with rfl | hz
       · exact q3 _ (by rw [List.lookup_cons]; simp)
       · exact q4 z hz hf
   · refine x1_4 (closure_of (names := r) acc (fun z hz => h1 z (.tail _ hz)) h2) fun cl q1 q2 q3 q4 => ?_
     refine i1_4 cl ?_ q2 q3 (fun z hz hf => ?_)
     · rw [List.forIn_cons]
       have hb : (k == NameKind.free) = false := beq_eq_false_iff_ne.mpr hk
       simp only [hb, Bool.false_eq_true, if_false, pure_bind]
       exact q1
     · rcases List.mem_cons.mp hz with rfl | hz
       · exact absurd hf hk
       · exact q4 z hz hf
theorem capsOf_at {m : Frm} : ∀ {caps : List Nat} {base : List V}, capsOf m caps = some base -> base.length = caps.length /\ ∀ (j : Nat) (b : V), base[j]? = some b -> ∃ c, caps[j]? = some c /\ m[c]? = some (some b)
 | [], _, e => by refine so1 e ?_; exact ⟨rfl, fun j b h => by simp at h⟩
 | c :: r, base, e => by
   refine cps fun _ zk => ?_
   refine x1_2 (b1_inv e) fun v e1 e => ?_
   refine x1_2 (b1_inv e) fun vs e2 e => ?_
   refine zk ?_; clear zk
   refine so1 e ?_
   obtain ⟨h1, h2⟩ := capsOf_at e2
   refine ⟨by simp [h1], fun j b h => ?_⟩
   cases j with
   | zero => refine so1 h ?_; exact i1_2 c rfl (slot_inv e1)
   | succ j => exact h2 j b h
theorem closureFor_eq {scope : Scope} {env : Env} (h1 : ∀ z ∈ scope.names, z.2 = .free -> ∃ c, env.cells.lookup z.1 = some c) : ∃ cl, closureFor scope env = pure cl /\ (∀ y c, cl.lookup y = some c -> env.cells.lookup y = some c) /\ ∀ z ∈ scope.names, z.2 = .free -> (cl.lookup z.1).isSome = true := by
 refine x1_4 (closure_of (env := env) (names := scope.names) [] h1 (fun y c q => by exact nn q)) fun cl q1 q2 _ q4 => ?_
 refine i1_3 cl ?_ q2 q4
 have e : closureFor scope env = (forIn scope.names ([] : List (Str × Addr)) fun (x : Str × NameKind) (r : List (Str × Addr)) => (if x.2 == NameKind.free then do let a <- cellOf env x.1; pure (ForInStep.yield ((x.1, a) :: r)) else pure (ForInStep.yield r) : Sem (ForInStep (List (Str × Addr))))) >>= pure := rfl
 rw [e, q1]; rfl
theorem caps_cells {env : Env} {A : Around} {ext : List (Addr × Obj)} {ρ : List Addr} {m : Frm} {caps : List Nat} {base : List V} (Y : Sur S n xs gl cn env A ext ρ m) (hcn : ∀ y ∈ ys, y ∈ cn) (hmap : caps.map (fun c => xs[c]?) = ys.map some) (hb : capsOf m caps = some base) :
 base.length = ys.length /\ ∀ (j : Nat) (y : Str), ys[j]? = some y -> ∃ c o w b, base[j]? = some b /\ env.cells.lookup y = some c /\ (c, o) ∈ ext /\ o.data = .cell (some w) /\ S.VR ρ b w := by
 obtain ⟨h1, h2⟩ := capsOf_at hb
 have hl : caps.length = ys.length := by have := congrArg List.length hmap; simpa using this
 refine ⟨h1.trans hl, fun j y hy => ?_⟩
 have hj : j < base.length := by rw [h1, hl]; exact (gsm hy).1
 refine cps fun _ zk => ?_
 refine x1_2 (h2 j base[j] (List.getElem?_eq_getElem hj)) fun c' q1 q2 => ?_
 have q3 : xs[c']? = some y := by
  have z := congrArg (fun l => l[j]?) hmap
  simp only [List.getElem?_map, q1, hy, Option.map_some] at z
  exact Option.some.inj z
 refine x1_2 (Y.sees c' y _ q3 q2) fun w r q4 => ?_
 refine zk ?_; clear zk
 rcases q4 with ⟨k, _⟩ | ⟨_, c, o, z1, z2, z3⟩
 · have := Y.ok.ck y (hcn y (List.mem_of_getElem? hy))
   rw [this] at k; cases k
 · exact i4_1 c o w (base[j]) ⟨(List.getElem?_eq_getElem hj), z1, z2, z3, r⟩
theorem comp_core (G : S.Good) {elt it : Expr} {a b : E} {ifs : List Expr} {cf : Frm -> Hp -> Option (V × Hp)} {env : Env} {scope : Scope} {pos pos' px : Pos} {x : Str} {caps : List Nat} {base : List V} {v : V} {i : It} {A : Around} {ext : List (Addr × Obj)} {ρ : List Addr} {m : Frm} {σ σ₁ σ' : Hp} {s : Shared}
 {use : Option (Value -> Sem Unit)} {Q : Value -> Shared -> Prop} {E : Value -> Shared -> Prop}
 (hset : ∀ env x, foldedSetIterable it env x = pure x) (hkind : scope.kind = .function) (hnames : ∀ z ∈ scope.names, z.2 = .local -> scope.names.lookup z.1 = some .local) (hcell : ∀ z ∈ scope.names, z.2 ≠ .cell) (hx : scope.names.lookup x = some .local)
 (hfree : ∀ y ∈ ys, scope.names.lookup y = some .free /\ y ∈ cn) (hall : ∀ z ∈ scope.names, z.2 = .free -> z.1 ∈ ys) (hg2 : ∀ y ∈ gl2, scope.names.lookup y = some .globalImplicit) (hmap : caps.map (fun c => xs[c]?) = ys.map some)
 (ii : SE S n Φ xs gl cn it b) (ie : SE S n Φ (ys ++ [x]) gl2 [] elt a) (ic : STests S n (ys ++ [x]) gl2 ifs cf)
 (Y : Sur S n xs gl cn env A ext ρ m) (H : S.HR ext ρ σ s.heap) (e1 : vE S.g Φ b m σ = some (v, σ₁)) (e2 : iter S.g σ₁ v = some i) (e3 : capsOf m caps = some base)
 (e4 : compLoop S.g (fun m σ => vE S.g Φ a m σ) cf base σ₁.length loopFuel i (σ₁ ++ [.list []]) = some σ')
 (fin : ∀ ρ' h t oC es ep C D, ρ <+: ρ' -> S.HR ext ρ' σ' h -> ρ'[σ₁.length]? = some D -> h.get? C = some oC -> oC.data = .dict es ep -> StrKeys es -> Apart S ext ρ' C -> compPost S.M A E use Q (.ref D) C (.ok .next) { s with heap := h, toks := t }) :
 wpAny S.M A (comprehension (.ListComp elt [⟨.Name x px, it, ifs, 0⟩] scope pos) scope env pos' (newList []) false (eval it env) use) Q E s := by
 refine cps fun _ zk => ?_
 obtain ⟨hlen, hcc⟩ := caps_cells Y (fun y hy => (hfree y hy).2) hmap e3
 obtain ⟨cl, q1, q2, q3⟩ := closureFor_eq (scope := scope) (env := env) fun z hz hf => by
  refine cps fun _ zk => ?_
  obtain ⟨j, hj, e⟩ := List.getElem_of_mem (hall z hz hf)
  refine x4_3 (hcc j z.1 (by rw [<- e]; exact List.getElem?_eq_getElem hj)) fun c o w b _ z2 _ => ?_
  refine zk ?_; clear zk
  exact ⟨c, z2⟩
 refine zk ?_; clear zk
 refine wpAny_comprehension_free rfl (hset env) q1 hkind hnames (andThen (ii env A ext ρ m σ v σ₁ s Y H e1) fun u ρ₁ h₁ t₁ p₁ H₁ r₁ => ?_)
 refine iter_snd (s := { s with heap := h₁, toks := t₁ }) G e2 H₁ r₁ fun ob hO hfr => ?_
 have H₂ := H₁.push ob
 have AI := HR.apart H₁ (Nat.le_refl _)
 refine wpAny_newObj_type ?_ (by show (0 : Nat) <= sizeLine; exact Nat.zero_le _)
 have H₃ : S.HR ext (ρ₁ ++ [(h₁.push ob).objs.size]) (σ₁ ++ [.list []]) ((h₁.push ob).push { cls := .type "list", data := .seq ([] : List Value).toArray }) := H₂.allocPush (i2_2 _ _ rfl rfl)
 have z1 : (h₁.push ob).objs.size = h₁.objs.size + 1 := Heap.size_push ..
 have z2 : ((h₁.push ob).push { cls := .type "list", data := .seq ([] : List Value).toArray }).objs.size = h₁.objs.size + 1 + 1 := by rw [Heap.size_push, z1]
 refine wpAny_newFunctionEnv hcell (by intro y hy; simp at hy) (fun h₄ hns hsb => ?_) hkind
 dsimp only at hns hsb ⊢
 have H₃' := H₃.push { cls := .type "dict", data := .dict #[] }
 have AC := HR.apart H₃ (Nat.le_refl _)
 have H₄ := H₃'.sameBut AC hsb
 refine x3_4 hns fun oC es ep c1 c2 c3 c4 => ?_
 clear hns
 have hne : h₁.objs.size ≠ ((h₁.push ob).push { cls := .type "list", data := .seq ([] : List Value).toArray }).objs.size := by rw [z2]; and_intros
 have hI : h₄.get? h₁.objs.size = some ob := by
  rw [hsb.2 _ hne]
  exact Heap.get?_push_of_some _ (Heap.get?_push_of_some _ (Heap.get?_push_size _ hfr))
 have AI' : Apart S ext (ρ₁ ++ [(h₁.push ob).objs.size]) h₁.objs.size := ⟨fun q => by
  rcases List.mem_append.mp q with q | q
  · exact AI.rho q
  · rw [List.mem_singleton, z1] at q; exact Nat.succ_ne_self _ q.symm, AI.ext, AI.above⟩
 have hD : (ρ₁ ++ [(h₁.push ob).objs.size])[σ₁.length]? = some (h₁.push ob).objs.size := by rw [<- H₁.len]; simp
 have hp' : ρ₁ <+: ρ₁ ++ [(h₁.push ob).objs.size] := pfa ..
 have key : ∀ t : Nat, codeAny S.M A (.compLoop (.ListComp elt [⟨.Name x px, it, ifs, 0⟩] scope pos) 0 (.ref h₁.objs.size) (.ref (h₁.push ob).objs.size) (compEnvC scope cl ((h₁.push ob).push { cls := .type "list", data := .seq ([] : List Value).toArray }).objs.size env))
  (compPost S.M A E use Q (.ref (h₁.push ob).objs.size) ((h₁.push ob).push { cls := .type "list", data := .seq ([] : List Value).toArray }).objs.size) { s with heap := h₄, toks := t } := fun t =>
  comp_loop G (fun _ _ _ => compStep) Y.ok hkind hx hfree hg2 hlen (fun j y b y1 y2 => by
   refine x4_1 (hcc j y y1) fun c o w b' zq => x0_5 zq fun w0 w1 w2 w3 w4 => ?_
   rw [y2] at w0; cases w0
   obtain ⟨c2, hc2⟩ := Option.isSome_iff_exists.mp (q3 _ (mem_of_lookup (hfree y (List.mem_of_getElem? y1)).1) rfl)
   have := q2 _ _ hc2
   rw [w1] at this; cases this
   exact i3_4 c o w hc2 w2 w3 ((w4.mono p₁).mono hp')) Y.room Y.ne hD ie ic
   (fun ρ' h t oC es ep y1 y2 y3 y4 y5 y6 => fin ρ' h t oC es ep _ _ (p₁.trans (hp'.trans y1)) y2 (getElem?_mono y1 hD) y3 y4 y5 y6) loopFuel _
   ⟨i, _, _, h₄, t, ob, oC, es, ep, rfl, List.prefix_refl _, e4, H₄, hI, hO.mono hp', c1, c2, c3, AI', AC, hne⟩
 exact codeAny_compStart_list (key _) (again_snd hI (hO) (key _))
theorem se_comp (G : S.Good) {elt it : Expr} {a b : E} {scope : Scope} {pos px : Pos} {x : Str} {caps : List Nat}
 (hset : ∀ env x, foldedSetIterable it env x = pure x) (hkind : scope.kind = .function) (hnames : ∀ z ∈ scope.names, z.2 = .local -> scope.names.lookup z.1 = some .local) (hcell : ∀ z ∈ scope.names, z.2 ≠ .cell) (hx : scope.names.lookup x = some .local)
 (hfree : ∀ y ∈ ys, scope.names.lookup y = some .free /\ y ∈ cn) (hall : ∀ z ∈ scope.names, z.2 = .free -> z.1 ∈ ys) (hg2 : ∀ y ∈ gl2, scope.names.lookup y = some .globalImplicit) (hmap : caps.map (fun c => xs[c]?) = ys.map some)
 (ii : SE S n Φ xs gl cn it b) (ie : SE S n Φ (ys ++ [x]) gl2 [] elt a) : SE S n Φ xs gl cn (.ListComp elt [⟨.Name x px, it, [], 0⟩] scope pos) (.comp caps a b) := by
 intro env A ext ρ m σ v σ' s Y H e
 refine cps fun _ zk => ?_
 refine x2_2 (b2_inv e) fun v σ₁ e1 e => ?_
 refine x1_2 (b1_inv e) fun i e2 e => ?_
 refine x1_2 (b1_inv e) fun base e3 e => ?_
 refine x1_2 (b1_inv e) fun σ₂ e4 e => ?_
 refine zk ?_; clear zk
 refine so2 e ?_
 rw [eval_ListComp]
 exact comp_core G hset hkind hnames hcell hx hfree hall hg2 hmap ii ie stests_nil Y H e1 e2 e3 e4 fun ρ' h t oC es ep C D p H' hD c1 c2 c3 AC =>
  i1_2 (fun y => nsFind es y) (i3_4 oC es ep c1 c2 c3 (fun _ => rfl)) (fun h' hs => i3_4 ρ' h' t p rfl (H'.sameBut AC hs) (i1_2 D hD rfl))
theorem se_compIf (G : S.Good) {elt it cd : Expr} {a b c : E} {scope : Scope} {pos px : Pos} {x : Str} {caps : List Nat}
 (hset : ∀ env x, foldedSetIterable it env x = pure x) (hkind : scope.kind = .function) (hnames : ∀ z ∈ scope.names, z.2 = .local -> scope.names.lookup z.1 = some .local) (hcell : ∀ z ∈ scope.names, z.2 ≠ .cell) (hx : scope.names.lookup x = some .local)
 (hfree : ∀ y ∈ ys, scope.names.lookup y = some .free /\ y ∈ cn) (hall : ∀ z ∈ scope.names, z.2 = .free -> z.1 ∈ ys) (hg2 : ∀ y ∈ gl2, scope.names.lookup y = some .globalImplicit) (hmap : caps.map (fun c => xs[c]?) = ys.map some)
 (ii : SE S n Φ xs gl cn it b) (ie : SE S n Φ (ys ++ [x]) gl2 [] elt a) (ic : STr S n Φ (ys ++ [x]) gl2 [] cd c) : SE S n Φ xs gl cn (.ListComp elt [⟨.Name x px, it, [cd], 0⟩] scope pos) (.compIf caps a b c) := by
 intro env A ext ρ m σ v σ' s Y H e
 refine cps fun _ zk => ?_
 refine x2_2 (b2_inv e) fun v σ₁ e1 e => ?_
 refine x1_2 (b1_inv e) fun i e2 e => ?_
 refine x1_2 (b1_inv e) fun base e3 e => ?_
 refine x1_2 (b1_inv e) fun σ₂ e4 e => ?_
 refine zk ?_; clear zk
 refine so2 e ?_
 rw [eval_ListComp]
 exact comp_core G hset hkind hnames hcell hx hfree hall hg2 hmap ii ie (stests_one ic) Y H e1 e2 e3 e4 fun ρ' h t oC es ep C D p H' hD c1 c2 c3 AC =>
  i1_2 (fun y => nsFind es y) (i3_4 oC es ep c1 c2 c3 (fun _ => rfl)) (fun h' hs => i3_4 ρ' h' t p rfl (H'.sameBut AC hs) (i1_2 D hD rfl))
end
structure FS (S : St) (env : Env) (xs cn : List Str) (m : Frm) (ρ : List Addr) (ext : List (Addr × Obj)) (h : Heap) : Prop where
 len : m.length = xs.length
 nd : xs.Nodup
 kind : ∀ x ∈ xs, (x ∈ cn /\ env.kindOf x = some .cell) \/ (x ∉ cn /\ env.kindOf x = some .local)
 top : Apart S ext ρ env.locals
 dict : ∃ o es ep, h.get? env.locals = some o /\ o.data = .dict es ep /\ StrKeys es /\ ∀ (i : Nat) (x : Str) (v : V), xs[i]? = some x -> env.kindOf x = some .local -> m[i]? = some (some v) -> ∃ u, nsFind es x = some u /\ S.VR ρ v u
 cell : ∀ (i : Nat) (x : Str), xs[i]? = some x -> env.kindOf x = some .cell -> ∃ c ov, env.cells.lookup x = some c /\ Apart S ext ρ c /\ c ≠ env.locals /\ h.IsCell c ov /\ ∀ v, m[i]? = some (some v) -> ∃ u, ov = some u /\ S.VR ρ v u
 apart : ∀ x y c, x ∈ xs -> y ∈ xs -> env.cells.lookup x = some c -> env.cells.lookup y = some c -> x = y
noncomputable def frameExt (env : Env) (xs : List Str) (h : Heap) : List (Addr × Obj) :=
 (env.locals, (h.get? env.locals).getD default) :: xs.filterMap fun x => if env.kindOf x = some .cell then (env.cells.lookup x).map fun c => (c, (h.get? c).getD default) else none
structure RoomS (n : Nat) (A : Around) (ext : List (Addr × Obj)) (env : Env) : Prop where
 hd : A.handled = none
 depth : A.depth + n < recursionLimit
 units : A.units + 8 * n + 100 < cLine
 frames : ∃ l, A.frames = some (env :: l) /\ ∀ e ∈ l, e.scope.kind = .function /\ ∃ L o es ep, e.frame = some L /\ (L, o) ∈ ext /\ o.data = .dict es ep
 frame : env.frame = some env.locals
section
variable {S : St} {n : Nat} {Φ : CallF} {xs gl cn : List Str} {env : Env} {A : Around} {ext : List (Addr × Obj)} {ρ ρ' : List Addr} {m : Frm} {σ σ' : Hp} {h h' : Heap}
theorem mem_frameExt {p : Addr × Obj} (hp : p ∈ frameExt env xs h) : p = (env.locals, (h.get? env.locals).getD default) \/ ∃ (i : Nat) (x : Str) (c : Addr), xs[i]? = some x /\ env.kindOf x = some .cell /\ env.cells.lookup x = some c /\ p = (c, (h.get? c).getD default) := by
 rcases List.mem_cons.mp hp with rfl | hp
 · exact .inl rfl
 · refine x1_2 (List.mem_filterMap.mp hp) fun x hx e => ?_
   obtain ⟨i, hi, rfl⟩ := List.getElem_of_mem hx
   split at e
   · rename_i hk
     rw [Option.map_eq_some_iff] at e
     refine x1_2 e fun c hc y1 => ?_
     clear e
     subst y1
     exact .inr (i3_4 i _ c (List.getElem?_eq_getElem hi) hk hc rfl)
   · exact nn e
theorem cell_frameExt {i : Nat} {x : Str} {c : Addr} (hx : xs[i]? = some x) (hk : env.kindOf x = some .cell) (hc : env.cells.lookup x = some c) : (c, (h.get? c).getD default) ∈ frameExt env xs h :=
 .tail _ (List.mem_filterMap.mpr (i1_2 x (List.mem_of_getElem? hx) (by rw [if_pos hk, hc]; rfl)))
theorem FS.enter (F : FS S env xs cn m ρ ext h) (H : S.HR ext ρ σ h) : S.HR (frameExt env xs h ++ ext) ρ σ h where
 keep := H.keep
 exs := fun p hp => by
  rcases List.mem_append.mp hp with hp | hp
  · rcases mem_frameExt hp with rfl | ⟨i, x, c, hx, hk, hc, rfl⟩
    · refine x3_2 (F.dict) fun o _ _ e _ => ?_
      exact i1_2 o e (by rw [e]; exact Like.refl _)
    · refine cps fun _ zk => ?_
      refine x2_5 (F.cell i x hx hk) fun c' ov e1 _ _ y2 _ => ?_
      refine x1_2 y2 fun o e2 _ => ?_
      clear y2
      refine zk ?_; clear zk
      rw [hc] at e1; cases e1
      exact i1_2 o e2 (by rw [e2]; exact Like.refl _)
  · exact H.exs p hp
 len := H.len
 obj := H.obj
 above := H.above
 nd := H.nd
 disj := fun p hp => by
  rcases List.mem_append.mp hp with hp | hp
  · rcases mem_frameExt hp with rfl | ⟨i, x, c, hx, hk, hc, rfl⟩
    · exact F.top.rho
    · refine x2_3 (F.cell i x hx hk) fun c' ov e1 ac _ => ?_
      rw [hc] at e1; cases e1
      exact ac.rho
  · exact H.disj p hp
 exa := fun p hp => by
  rcases List.mem_append.mp hp with hp | hp
  · rcases mem_frameExt hp with rfl | ⟨i, x, c, hx, hk, hc, rfl⟩
    · exact F.top.above
    · refine x2_3 (F.cell i x hx hk) fun c' ov e1 ac _ => ?_
      rw [hc] at e1; cases e1
      exact ac.above
  · exact H.exa p hp
 size := H.size
theorem FS.sur (F : FS S env xs cn m ρ ext h) (he : EnvOk env gl cn) (R : RoomS n A ext env) : Sur S n xs gl cn env A (frameExt env xs h ++ ext) ρ m := by
 refine ⟨he, fun i x v e1 e2 => ?_, ⟨R.hd, R.depth, R.units, ?_⟩, by simp [frameExt]⟩
 · rcases F.kind x (List.mem_of_getElem? e1) with ⟨_, hk⟩ | ⟨_, hk⟩
   · refine cps fun _ zk => ?_
     refine x2_5 (F.cell i x e1 hk) fun c ov z1 z2 z3 y3 z6 => ?_
     refine x1_2 y3 fun o z4 z5 => ?_
     clear y3
     refine x1_2 (z6 v e2) fun u y4 r => ?_
     refine zk ?_; clear zk
     subst y4
     exact i1_2 u r (.inr ⟨.inl hk, c, o, z1, List.mem_append_left _ (by have := cell_frameExt (h := h) e1 hk z1; rw [z4] at this; exact this), z5⟩)
   · refine cps fun _ zk => ?_
     refine x3_4 (F.dict) fun o es ep z1 z2 z3 z4 => ?_
     refine x1_2 (z4 i x v e1 hk e2) fun u z5 r => ?_
     refine zk ?_; clear zk
     refine i1_2 u r (.inl ⟨hk, o, es, ep, List.mem_append_left _ ?_, z2, z3, z5⟩)
     unfold frameExt; rw [z1]; exact .head _
 · refine cps fun _ zk => ?_
   refine x1_2 (R.frames) fun l e1 e2 => ?_
   refine x3_4 (F.dict) fun o es ep z1 z2 z3 z4 => ?_
   refine zk ?_; clear zk
   refine i1_2 (env :: l) e1 (fun e he' => ?_)
   rcases List.mem_cons.mp he' with rfl | he'
   · exact ⟨he.kind, _, o, es, ep, R.frame, List.mem_append_left _ (by unfold frameExt; rw [z1]; exact .head _), z2⟩
   · refine cps fun _ zk => ?_
     refine x0_2 (e2 e he') fun k y5 => ?_
     refine x4_3 y5 fun L o es ep a b c => ?_
     refine zk ?_; clear zk
     exact ⟨k, L, o, es, ep, a, List.mem_append_right _ b, c⟩
theorem FS.back (F : FS S env xs cn m ρ ext h) (H : S.HR (frameExt env xs h ++ ext) ρ' σ' h') (hp : ρ <+: ρ') : S.HR ext ρ' σ' h' /\ FS S env xs cn m ρ' ext h' := by
 refine ⟨H.mono_ext fun p hp => List.mem_append_right _ hp, F.len, F.nd, F.kind, ⟨H.disj _ (List.mem_append_left _ (.head _)), F.top.ext, F.top.above⟩, ?_, fun i x hx hk => ?_, F.apart⟩
 · refine cps fun _ zk => ?_
   refine x3_4 (F.dict) fun o es ep z1 z2 z3 z4 => ?_
   refine x1_2 (H.exs _ (List.mem_append_left _ (List.Mem.head _))) fun o' y1 y2 => ?_
   dsimp only at y1 y2
   rw [z1] at y2
   refine zk ?_; clear zk
   exact i3_4 o' es ep y1 (y2.2.1.trans z2) z3 (fun i x v e1 e2 e3 => let ⟨u, q, r⟩ := z4 i x v e1 e2 e3; ⟨u, q, r.mono hp⟩)
 · refine cps fun _ zk => ?_
   refine x2_5 (F.cell i x hx hk) fun c ov z1 z2 z3 y6 z6 => ?_
   refine x1_2 y6 fun o z4 z5 => ?_
   clear y6
   have hm := List.mem_append_left ext (cell_frameExt (h := h) hx hk z1)
   refine x1_2 (H.exs _ hm) fun o' y1 y2 => ?_
   dsimp only at y1 y2
   rw [z4] at y2
   refine zk ?_; clear zk
   exact i2_5 c ov z1 ⟨H.disj _ hm, z2.ext, z2.above⟩ z3 ⟨o', y1, y2.2.1.trans z5⟩ (fun v e => let ⟨u, q, r⟩ := z6 v e; ⟨u, q, r.mono hp⟩)
theorem FS.extBut (F : FS S env xs cn m ρ ext h) {a : Addr} (hs : Heap.ExtBut a h h') (hL : env.locals ≠ a) (hc : ∀ x c, x ∈ xs -> env.cells.lookup x = some c -> env.kindOf x = some .cell -> c ≠ a) : FS S env xs cn m ρ ext h' := by
 refine ⟨F.len, F.nd, F.kind, F.top, ?_, fun i x hx hk => ?_, F.apart⟩
 · refine x3_2 (F.dict) fun o es ep z1 z => ?_
   exact i3_2 o es ep (hs _ _ hL z1) z
 · refine cps fun _ zk => ?_
   refine x2_5 (F.cell i x hx hk) fun c ov z1 z2 z3 y7 z6 => ?_
   refine x1_2 y7 fun o z4 z5 => ?_
   clear y7
   refine zk ?_; clear zk
   exact i2_5 c ov z1 z2 z3 ⟨o, hs _ _ (hc x c (List.mem_of_getElem? hx) z1 hk) z4, z5⟩ z6
theorem nodup_idx {xs : List Str} (hn : xs.Nodup) {i j : Nat} {x : Str} (h1 : xs[i]? = some x) (h2 : xs[j]? = some x) : i = j := by
 have l1 := gsm h1
 have l2 := gsm h2
 exact (List.getElem_inj hn).mp (l1.2.trans l2.2.symm)
theorem store_snd {s : Shared} {i : Nat} {x : Str} {v : V} {u : Value} {m' : Frm} (F : FS S env xs cn m ρ ext s.heap) (he : EnvOk env gl cn) (H : S.HR ext ρ σ s.heap) (hx : xs[i]? = some x) (r : S.VR ρ v u) (hm : setLoc i v m = some m') {Q : Unit -> Shared -> Prop} {E : Value -> Shared -> Prop}
 (k : ∀ h' t', S.HR ext ρ σ h' -> FS S env xs cn m' ρ ext h' -> Q () { s with heap := h', toks := t' }) : wpAny S.M A (storeName env x u) Q E s := by
 unfold setLoc at hm
 split at hm
 · rename_i hi
   cases hm
   have get : ∀ (j : Nat) (y : Str) (w : V), xs[j]? = some y -> (m.set i (some v))[j]? = some (some w) -> (j = i /\ y = x /\ w = v) \/ (j ≠ i /\ y ≠ x /\ m[j]? = some (some w)) := by
    intro j y w hj e
    by_cases q : j = i
    · subst q
      rw [List.getElem?_set_self hi] at e
      rw [hx] at hj
      cases e; refine so1 hj ?_
      exact .inl ⟨rfl, rfl, rfl⟩
    · rw [List.getElem?_set_ne (Ne.symm q)] at e
      exact .inr ⟨q, fun z => q (nodup_idx F.nd hj (z ▸ hx)), e⟩
   rcases F.kind x (List.mem_of_getElem? hx) with ⟨_, hk⟩ | ⟨_, hk⟩
   · refine x2_5 (F.cell i x hx hk) fun c ov z1 z2 z3 z4 z6 => ?_
     refine wpAny_storeName_cell he.kind hk z1 z4 fun h' hc' hs => k h' _ (H.sameBut z2 hs) ?_
     refine ⟨by simp [F.len], F.nd, F.kind, F.top, ?_, fun j y hy hky => ?_, F.apart⟩
     · refine x3_4 (F.dict) fun o es ep y1 y2 y3 y4 => ?_
       refine i3_4 o es ep ((hs.2 _ (Ne.symm z3)).trans y1) y2 y3 (fun j y w e1 e2 e3 => ?_)
       rcases get j y w e1 e3 with ⟨rfl, rfl, rfl⟩ | ⟨_, _, e4⟩
       · rw [hk] at e2; cases e2
       · exact y4 j y w e1 e2 e4
     · by_cases q : y = x
       · subst q
         have := nodup_idx F.nd hy hx
         subst this
         exact ⟨c, some u, z1, z2, z3, hc', fun w e => by
          rcases get j y w hy e with ⟨_, _, rfl⟩ | ⟨e1, _⟩
          · exact ⟨u, rfl, r⟩
          · exact absurd rfl e1⟩
       · refine cps fun _ zk => ?_
         refine x2_5 (F.cell j y hy hky) fun c' ov' y1 y2 y3 y8 y6 => ?_
         refine x1_2 y8 fun o y4 y5 => ?_
         clear y8
         have hcc : c' ≠ c := fun z => q (F.apart y x c (List.mem_of_getElem? hy) (List.mem_of_getElem? hx) (z ▸ y1) z1)
         refine zk ?_; clear zk
         refine i2_5 c' ov' y1 y2 y3 ⟨o, (hs.2 _ hcc).trans y4, y5⟩ (fun w e => ?_)
         rcases get j y w hy e with ⟨_, e1, _⟩ | ⟨_, _, e4⟩
         · exact absurd e1 q
         · exact y6 w e4
   · refine x3_4 (F.dict) fun o es ep y1 y2 y3 y4 => ?_
     refine wpAny_storeName_local (m := fun y => nsFind es y) hk (i3_4 o es ep y1 y2 y3 (fun _ => rfl)) (fun h' hn hs => k h' _ (H.sameBut F.top hs) ?_) (by rw [he.kind]; rfl)
     refine ⟨by simp [F.len], F.nd, F.kind, F.top, ?_, fun j y hy hky => ?_, F.apart⟩
     · refine x3_4 hn fun o' es' ep' q1 q2 q3 q4 => ?_
       clear hn
       refine i3_4 o' es' ep' q1 q2 q3 (fun j y w e1 e2 e3 => ?_)
       rcases get j y w e1 e3 with ⟨_, rfl, rfl⟩ | ⟨_, e4, e5⟩
       · exact ⟨u, by rw [q4]; simp, r⟩
       · refine x1_2 (y4 j y w e1 e2 e5) fun u' f1 f2 => ?_
         exact ⟨u', by rw [q4]; exact (if_neg e4).trans f1, f2⟩
     · refine cps fun _ zk => ?_
       refine x2_5 (F.cell j y hy hky) fun c' ov' z1 z2 z3 y9 z6 => ?_
       refine x1_2 y9 fun o' z4 z5 => ?_
       clear y9
       refine zk ?_; clear zk
       refine i2_5 c' ov' z1 z2 z3 ⟨o', (hs.2 _ z3).trans z4, z5⟩ (fun w e => ?_)
       rcases get j y w hy e with ⟨_, e1, _⟩ | ⟨_, _, e4⟩
       · rw [e1, hk] at hky; cases hky
       · exact z6 w e4
 · exact nn hm
end
inductive Tgts (xs : List Str) : List Expr -> List Nat -> Prop where
 | nil : Tgts xs [] []
 | cons {i x p r is} : xs[i]? = some x -> Tgts xs r is -> Tgts xs (.Name x p :: r) (i :: is)
noncomputable def FlR (S : St) (ρ : List Addr) : Fl -> Flow -> Prop
 | .next, f => f = .next
 | .cont, f => f = .cont
 | .ret v, f => ∃ u, f = .ret u /\ S.VR ρ v u
noncomputable def ResS (S : St) (s : Shared) (env : Env) (xs cn : List Str) (ext : List (Addr × Obj)) (ρ : List Addr) (fl : Fl) (m' : Frm) (σ' : Hp) (f : Flow) (s' : Shared) : Prop :=
 ∃ ρ' h' t', ρ <+: ρ' /\ s' = { s with heap := h', toks := t' } /\ S.HR ext ρ' σ' h' /\ FS S env xs cn m' ρ' ext h' /\ FlR S ρ' fl f
noncomputable def SS (S : St) (n : Nat) (Φ : CallF) (xs gl cn : List Str) (st : Stmt) (t : Mine.S) : Prop :=
 ∀ (env : Env) (A : Around) (ext : List (Addr × Obj)) (ρ : List Addr) (m : Frm) (σ : Hp) (fl : Fl) (m' : Frm) (σ' : Hp) (s : Shared), EnvOk env gl cn -> RoomS n A ext env -> FS S env xs cn m ρ ext s.heap -> S.HR ext ρ σ s.heap ->
   execS S.g Φ t m σ = some (fl, m', σ') -> wpAny S.M A (exec st env) (ResS S s env xs cn ext ρ fl m' σ') Nope s
noncomputable def SSs (S : St) (n : Nat) (Φ : CallF) (xs gl cn : List Str) (st : List Stmt) (t : Ss) : Prop :=
 ∀ (env : Env) (A : Around) (ext : List (Addr × Obj)) (ρ : List Addr) (m : Frm) (σ : Hp) (fl : Fl) (m' : Frm) (σ' : Hp) (s : Shared), EnvOk env gl cn -> RoomS n A ext env -> FS S env xs cn m ρ ext s.heap -> S.HR ext ρ σ s.heap ->
   execSs S.g Φ t m σ = some (fl, m', σ') -> wpAny S.M A (execs st env) (ResS S s env xs cn ext ρ fl m' σ') Nope s
section
variable {S : St} {n : Nat} {Φ : CallF} {xs gl cn : List Str} {env : Env} {A : Around} {ext : List (Addr × Obj)} {ρ ρ' : List Addr} {m m' : Frm} {σ σ' : Hp} {h h' : Heap}
theorem FlR.mono {fl : Fl} {f : Flow} (hp : ρ <+: ρ') (h : FlR S ρ fl f) : FlR S ρ' fl f := by
 cases fl with
 | next => exact h
 | cont => exact h
 | ret v => refine x1_2 h fun u e r => ?_; clear h; exact ⟨u, e, r.mono hp⟩
theorem ResS.from {s : Shared} {h₁ : Heap} {t₁ : Nat} {ρ₁ : List Addr} {fl : Fl} {f : Flow} {s' : Shared} (h : ResS S { s with heap := h₁, toks := t₁ } env xs cn ext ρ₁ fl m' σ' f s') (hp : ρ <+: ρ₁) : ResS S s env xs cn ext ρ fl m' σ' f s' := by
 refine x3_5 h fun ρ' h' t' q e H F r => ?_
 clear h
 exact i3_5 ρ' h' t' (hp.trans q) e H F r
theorem inExpr {ex : Expr} {e : E} {v : V} {s : Shared} (i : SE S n Φ xs gl cn ex e) (he : EnvOk env gl cn) (R : RoomS n A ext env) (F : FS S env xs cn m ρ ext s.heap) (H : S.HR ext ρ σ s.heap) (e1 : vE S.g Φ e m σ = some (v, σ')) {Q : Value -> Shared -> Prop} {E : Value -> Shared -> Prop}
 (k : ∀ u ρ₁ h₁ t₁, ρ <+: ρ₁ -> S.HR ext ρ₁ σ' h₁ -> FS S env xs cn m ρ₁ ext h₁ -> S.VR ρ₁ v u -> Q u { s with heap := h₁, toks := t₁ }) : wpAny S.M A (eval ex env) Q E s :=
 andThen (i env A _ ρ m σ v σ' s (F.sur he R) (F.enter H) e1) fun u ρ₁ h₁ t₁ p₁ H₁ r₁ => let ⟨a, b⟩ := F.back H₁ p₁; k u ρ₁ h₁ t₁ p₁ a b r₁
theorem inTest {ex : Expr} {e : E} {v : V} {b : Bool} {s : Shared} (i : STr S n Φ xs gl cn ex e) (he : EnvOk env gl cn) (R : RoomS n A ext env) (F : FS S env xs cn m ρ ext s.heap) (H : S.HR ext ρ σ s.heap) (e1 : vE S.g Φ e m σ = some (v, σ')) (e2 : truth v = some b) {Q : Bool -> Shared -> Prop} {E : Value -> Shared -> Prop}
 (k : ∀ ρ₁ h₁ t₁, ρ <+: ρ₁ -> S.HR ext ρ₁ σ' h₁ -> FS S env xs cn m ρ₁ ext h₁ -> Q b { s with heap := h₁, toks := t₁ }) : wpAny S.M A (isTrue ex env (eval ex env)) Q E s :=
 andThenb (i env A _ ρ m σ v σ' b s (F.sur he R) (F.enter H) e1 e2) fun ρ₁ h₁ t₁ p₁ H₁ => let ⟨a, b⟩ := F.back H₁ p₁; k ρ₁ h₁ t₁ p₁ a b
theorem ss_asg {i : Nat} {x : Str} {p pos : Pos} {e : Expr} {a : E} (hx : xs[i]? = some x) (hs : ∀ env, swapsWith e (some (.Name x p)) pos.line env = pure false) (ie : SE S n Φ xs gl cn e a) : SS S n Φ xs gl cn (.Assign [.Name x p] e pos) (.asg i a) := by
 intro env A ext ρ m σ fl m' σ' s he R F H e
 refine cps fun _ zk => ?_
 refine x2_2 (b2_inv e) fun v σ₁ e1 e => ?_
 refine x1_2 (b1_inv e) fun m₁ e2 e => ?_
 refine zk ?_; clear zk
 refine so3 e ?_
 refine wpAny_Assign_Name (inExpr ie he R F H e1 fun u ρ₁ h₁ t₁ p₁ H₁ F₁ r₁ => ?_) (hs env)
 exact store_snd (s := { s with heap := h₁, toks := t₁ }) F₁ he H₁ hx r₁ e2 fun h' t' H' F' => i3_5 ρ₁ h' t' p₁ rfl H' F' rfl
theorem ss_setIdx {o i e : Expr} {tp pos : Pos} {a b v : E} (hs : ∀ env, swapsWith e (some (.Subscript o i tp)) pos.line env = pure false) (i1 : SE S n Φ xs gl cn o a) (i2 : SE S n Φ xs gl cn i b) (i3 : SE S n Φ xs gl cn e v) : SS S n Φ xs gl cn (.Assign [.Subscript o i tp] e pos) (.setIdx a b v) := by
 intro env A ext ρ m σ fl m' σ' s he R F H e
 refine cps fun _ zk => ?_
 refine x2_2 (b2_inv e) fun v σ₁ e1 e => ?_
 refine x2_2 (b2_inv e) fun a σ₂ e2 e => ?_
 refine x2_2 (b2_inv e) fun i σ₃ e3 e => ?_
 refine x1_2 (b1_inv e) fun σ₄ e4 e => ?_
 refine zk ?_; clear zk
 refine so3 e ?_
 refine wpAny_Assign_Subscript (inExpr i3 he R F H e1 fun u ρ₁ h₁ t₁ p₁ H₁ F₁ r₁ => ?_) (hs env)
 refine inExpr (s := { s with heap := h₁, toks := t₁ }) i1 he R F₁ H₁ e2 fun w ρ₂ h₂ t₂ p₂ H₂ F₂ r₂ => ?_
 refine inExpr (s := { s with heap := h₂, toks := t₂ }) i2 he R F₂ H₂ e3 fun z ρ₃ h₃ t₃ p₃ H₃ F₃ r₃ => ?_
 refine wpAny_mono (setIdx_snd (s := { s with heap := h₃, toks := t₃ }) e4 (F₃.enter H₃) (r₂.mono p₃) r₃ ((r₁.mono p₂).mono p₃)) (fun _ s' q => ?_) fun _ _ q => q.elim
 refine x2_2 q fun h' t' y1 H' => ?_
 clear q
 subst y1
 obtain ⟨z1, z2⟩ := F₃.back H' (List.prefix_refl _)
 exact i3_5 ρ₃ h' t' (p₁.trans (p₂.trans p₃)) rfl z1 z2 rfl
theorem ss_setAttr (G : S.Good) {o e : Expr} {y : Str} {tp pos : Pos} {k : Nat} {a v : E} (hy : fieldNames[k]? = some y) (hs : ∀ env, swapsWithSole [.Attribute o y tp] e pos.line env = pure false) (hw : ∀ env, swappedStores [.Attribute o y tp] e env = pure none)
 (i1 : SE S n Φ xs gl cn o a) (i3 : SE S n Φ xs gl cn e v) : SS S n Φ xs gl cn (.Assign [.Attribute o y tp] e pos) (.setAttr a k v) := by
 intro env A ext ρ m σ fl m' σ' s he R F H e
 refine cps fun _ zk => ?_
 refine x2_2 (b2_inv e) fun v σ₁ e1 e => ?_
 refine x2_2 (b2_inv e) fun a σ₂ e2 e => ?_
 refine x1_2 (b1_inv e) fun σ₄ e4 e => ?_
 refine zk ?_; clear zk
 refine so3 e ?_
 refine wpAny_Assign_stores (inExpr i3 he R F H e1 fun u ρ₁ h₁ t₁ p₁ H₁ F₁ r₁ => ?_) (hs env) (hw env)
 show wpAny S.M A (assign (.Attribute o y tp) env u) _ _ _
 show wpAny S.M A (do
  let ov <- holding [u] (eval o env)
  standAt tp.atName
  holding [u, ov] (PySem.setAttr ov y u)
  release [u, ov] []) _ _ _
 refine wpAny_bind (wpAny_holding (inExpr (s := { s with heap := h₁, toks := t₁ }) i1 he R F₁ H₁ e2 fun w ρ₂ h₂ t₂ p₂ H₂ F₂ r₂ => ?_))
 refine wpAny_bind (wpAny_standAt (wpAny_bind (wpAny_holding (wpAny_mono (setAttr_snd (s := { s with heap := h₂, toks := t₂ }) G hy e4 (F₂.enter H₂) r₂ (r₁.mono p₂)) (fun _ s' q => ?_) fun _ _ q => q.elim))))
 refine x2_2 q fun h' t' y2 H' => ?_
 clear q
 subst y2
 obtain ⟨z1, z2⟩ := F₂.back H' (List.prefix_refl _)
 exact wpAny_release' (i3_5 ρ₂ h' t' (p₁.trans p₂) rfl z1 z2 rfl)
theorem ss_augLoc {i : Nat} {x : Str} {p pos : Pos} {op : Operator} {o : B} {e : Expr} {a : E} (hx : xs[i]? = some x) (ho : opB op = some o) (hd1 : (x == ("__debug__" : Str)) = false) (hd2 : (x == ("__classdict__" : Str)) = false) (ie : SE S n Φ xs gl cn e a) :
 SS S n Φ xs gl cn (.AugAssign (.Name x p) op e pos) (.augLoc i o a) := by
 intro env A ext ρ m σ fl m' σ' s he R F H e
 refine cps fun _ zk => ?_
 refine x1_2 (b1_inv e) fun u0 e0 e => ?_
 refine x1_2 (b1_inv e) fun ia e1 f1 => ?_
 refine x2_2 (b2_inv f1) fun w0 σ₁ e2 f2 => ?_
 refine x1_2 (b1_inv f2) fun ib e3 f3 => ?_
 refine x1_2 (b1_inv f3) fun r0 e4 f4 => ?_
 refine x1_2 (b1_inv f4) fun m₁ e5 f5 => ?_
 refine zk ?_; clear zk
 cases f5
 have q1 := asInt_inv e1
 have q2 := asInt_inv e3
 subst q1 q2
 have ld : ∀ {Q : Value -> Shared -> Prop} {E : Value -> Shared -> Prop}, (∀ t, Q (.int ia t) s) -> wpAny S.M A (loadName env x) Q E s := by
  intro Q E k
  refine x1_2 ((F.sur he R).sees i x _ hx (slot_inv e0)) fun u y3 q => ?_
  obtain ⟨t, rfl⟩ := y3
  rcases q with ⟨k1, o, es, ep, hm, hd, hk, hf⟩ | ⟨k1, c, o, hc, hm, hd⟩
  · refine x1_2 ((F.enter H).exs _ hm) fun o' ho' hl => ?_
    exact wpAny_loadName_local (m := fun y => nsFind es y) he.kind k1 (i3_4 o' es ep ho' (hl.2.1.trans hd) hk (fun _ => rfl)) hf (k t)
  · refine x1_2 ((F.enter H).exs _ hm) fun o' ho' hl => ?_
    rcases k1 with k1 | k1
    · exact wpAny_loadName_cell he.kind k1 hc ⟨o', ho', hl.2.1.trans hd⟩ (k t)
    · exact wpAny_loadName_free he.kind k1 hc ⟨o', ho', hl.2.1.trans hd⟩ (k t) hd2
 refine wpAny_AugAssign_Name (ld fun t => inExpr ie he R F H e2 fun u ρ₁ h₁ t₁ p₁ H₁ F₁ r₁ => ?_)
 obtain ⟨tb, rfl⟩ := r₁
 refine andThen (arithI_snd (s := { s with heap := h₁, toks := t₁ }) (ext := frameExt env xs h₁ ++ ext) ho e4 (F₁.enter H₁)) fun z ρ₂ h₂ t₂ p₂ H₂ r₂ => ?_
 obtain ⟨z1, z2⟩ := F₁.back H₂ p₂
 exact store_snd (s := { s with heap := h₂, toks := t₂ }) z2 he z1 hx r₂ e5 fun h' t' H' F' => i3_5 ρ₂ h' t' (p₁.trans p₂) rfl H' F' rfl
end
section
variable {S : St} {n : Nat} {Φ : CallF} {xs gl cn : List Str} {env : Env} {A : Around} {ext : List (Addr × Obj)} {ρ ρ' : List Addr} {m m' : Frm} {σ σ' : Hp} {h h' : Heap}
theorem getItem_snd {s : Shared} {x y v : V} {a b : Value} (G : S.Good) (e : idx S.g σ x y = some v) (H : S.HR ext ρ σ s.heap) (ra : S.VR ρ x a) (rb : S.VR ρ y b) : wpAny S.M A (getItem a b) (Res S s ext ρ σ v) Nope s := by
 unfold idx at e
 split at e
 · rename_i xs i q
   split at e
   · rename_i q2
     obtain ⟨t, rfl⟩ := rb
     refine x2_3 (objAt G H q ra) fun l ob y1 hl y2 => ?_
     subst y1
     refine x2_2 y2 fun vs k zz2 r => ?_
     clear y2
     subst zz2
     refine x1_2 (r.at_ e) fun u hu ru => ?_
     exact wpAny_getItem_list (isList_of hl) q2.1 (by lia) (by rw [<- Array.getElem?_toList]; exact hu) (Res.now H ru)
   · exact nn e
 · rename_i xs i q
   split at e
   · rename_i q2
     obtain ⟨t, rfl⟩ := rb
     refine x2_3 (objAt G H q ra) fun l ob y3 hl y4 => ?_
     subst y3
     refine x2_2 y4 fun vs k zz4 r => ?_
     clear y4
     subst zz4
     refine x1_2 (r.at_ e) fun u hu ru => ?_
     have hT : IsTup s.heap l vs := ⟨_, hl, rfl, k, rfl⟩
     have hlt : i.toNat < vs.size := by have := (gsm hu).1; simpa using this
     exact PyProof.Rows.getItem_tuple hT (by lia) (by lia) (seqIndex_of q2.1 (by lia)) (by rw [<- Array.getElem?_toList]; exact hu) (Res.now H ru)
   · exact nn e
 · rename_i kv i q
   obtain ⟨t, rfl⟩ := rb
   refine x2_3 (objAt G H q ra) fun l ob y5 hl y6 => ?_
   subst y5
   refine cps fun _ zk => ?_
   refine x1_2 y6 fun kvs hd r => ?_
   clear y6
   refine x1_2 (kvGet_at r e) fun u hu ru => ?_
   have hD : s.heap.DictOf (intKind S.prog S.w) l kvs := Heap.dictOf_iff.mpr (i1_2 _ hl hd)
   refine zk ?_; clear zk
   exact wpAny_getItem_of (intKind_is _ _ i t) hD.mapOf hu (i3_4 ρ _ _ (List.prefix_refl _) rfl H ru)
 · exact nn e
theorem ss_augIdx (G : S.Good) {o i e : Expr} {tp pos : Pos} {op : Operator} {o' : B} {a b v : E} (ho : opB op = some o') (hi : ∀ ov iv new, augStore i ov iv new = (do holding [new, ov, iv] (PySem.setItem ov iv new); release [new, ov, iv] []; pure .next))
 (i1 : SE S n Φ xs gl cn o a) (i2 : SE S n Φ xs gl cn i b) (i3 : SE S n Φ xs gl cn e v) : SS S n Φ xs gl cn (.AugAssign (.Subscript o i tp) op e pos) (.augIdx a b o' v) := by
 intro env A ext ρ m σ fl m' σ' s he R F H e
 refine cps fun _ zk => ?_
 refine x2_2 (b2_inv e) fun av σ₁ e1 f1 => ?_
 refine x2_2 (b2_inv f1) fun iv σ₂ e2 f2 => ?_
 refine x1_2 (b1_inv f2) fun u0 e3 f3 => ?_
 refine x1_2 (b1_inv f3) fun x0 e4 f4 => ?_
 refine x2_2 (b2_inv f4) fun w0 σ₃ e5 f5 => ?_
 refine x1_2 (b1_inv f5) fun y0 e6 f6 => ?_
 refine x1_2 (b1_inv f6) fun r0 e7 f7 => ?_
 refine x1_2 (b1_inv f7) fun σ₄ e8 f8 => ?_
 refine zk ?_; clear zk
 cases f8
 have q1 := asInt_inv e4
 have q2 := asInt_inv e6
 subst q1 q2
 refine wpAny_AugAssign_SubscriptAny (inExpr i1 he R F H e1 fun u ρ₁ h₁ t₁ p₁ H₁ F₁ r₁ => ?_) hi
 refine inExpr (s := { s with heap := h₁, toks := t₁ }) i2 he R F₁ H₁ e2 fun w ρ₂ h₂ t₂ p₂ H₂ F₂ r₂ => ?_
 refine andThen (getItem_snd (s := { s with heap := h₂, toks := t₂ }) G e3 (F₂.enter H₂) (r₁.mono p₂) r₂) fun z ρ₃ h₃ t₃ p₃ H₃ r₃ => ?_
 obtain ⟨H₃, F₃⟩ := F₂.back H₃ p₃
 obtain ⟨tz, rfl⟩ := r₃
 refine inExpr (s := { s with heap := h₃, toks := t₃ }) i3 he R F₃ H₃ e5 fun z ρ₄ h₄ t₄ p₄ H₄ F₄ r₄ => ?_
 obtain ⟨tb, rfl⟩ := r₄
 refine andThen (arithI_snd (s := { s with heap := h₄, toks := t₄ }) (ext := frameExt env xs h₄ ++ ext) ho e7 (F₄.enter H₄)) fun z ρ₅ h₅ t₅ p₅ H₅ r₅ => ?_
 obtain ⟨H₅, F₅⟩ := F₄.back H₅ p₅
 refine wpAny_mono (setIdx_snd (s := { s with heap := h₅, toks := t₅ }) e8 (F₅.enter H₅) ((((r₁.mono p₂).mono p₃).mono p₄).mono p₅) (((r₂.mono p₃).mono p₄).mono p₅) r₅) (fun _ s' q => ?_) fun _ _ q => q.elim
 refine x2_2 q fun h' t' y7 H' => ?_
 clear q
 subst y7
 obtain ⟨z1, z2⟩ := F₅.back H' (List.prefix_refl _)
 exact i3_5 ρ₅ h' t' (p₁.trans (p₂.trans (p₃.trans (p₄.trans p₅)))) rfl z1 z2 rfl
theorem ss_expr {e : Expr} {pos : Pos} {a : E} (hs : ∀ env, swapsWith e none pos.line env = pure false) (ie : SE S n Φ xs gl cn e a) : SS S n Φ xs gl cn (.Expr e pos) (.expr a) := by
 intro env A ext ρ m σ fl m' σ' s he R F H e
 refine cps fun _ zk => ?_
 refine x2_2 (b2_inv e) fun v σ₁ e1 e => ?_
 refine x1_2 (b1_inv e) fun u e2 e => ?_
 refine zk ?_; clear zk
 refine so3 e ?_
 have q := asNone_inv e2
 subst q
 refine wpAny_Expr (inExpr ie he R F H e1 fun u ρ₁ h₁ t₁ p₁ H₁ F₁ r₁ => ?_) (by unfold interactive; rw [he.kind]; rfl) (hs env)
 cases r₁
 exact i3_5 ρ₁ h₁ t₁ p₁ rfl H₁ F₁ rfl
theorem ss_ife {c : Expr} {t f : List Stmt} {pos : Pos} {a : E} {b d : Ss} (it : STr S n Φ xs gl cn c a) (i1 : SSs S n Φ xs gl cn t b) (i2 : SSs S n Φ xs gl cn f d) : SS S n Φ xs gl cn (.If c t f pos) (.ife a b d) := by
 intro env A ext ρ m σ fl m' σ' s he R F H e
 refine cps fun _ zk => ?_
 refine x2_2 (b2_inv e) fun v σ₁ e1 e => ?_
 refine x1_2 (b1_inv e) fun u e2 e => ?_
 refine zk ?_; clear zk
 refine wpAny_If (inTest it he R F H e1 e2 fun ρ₁ h₁ t₁ p₁ H₁ F₁ => ?_)
 cases u with
 | true =>
   simp only [if_true] at e ⊢
   exact wpAny_mono (i1 env A ext ρ₁ m σ₁ fl m' σ' { s with heap := h₁, toks := t₁ } he R F₁ H₁ e) (fun f s' q => q.from p₁) fun _ _ q => q
 | false =>
   simp only [Bool.false_eq_true, if_false] at e ⊢
   exact wpAny_mono (i2 env A ext ρ₁ m σ₁ fl m' σ' { s with heap := h₁, toks := t₁ } he R F₁ H₁ e) (fun f s' q => q.from p₁) fun _ _ q => q
theorem ss_retS {e : Expr} {pos : Pos} {a : E} (ie : SE S n Φ xs gl cn e a) : SS S n Φ xs gl cn (.Return (some e) pos) (.ret a) := by
 intro env A ext ρ m σ fl m' σ' s he R F H e
 refine x2_2 (b2_inv e) fun v σ₁ e1 e => ?_
 refine so3 e ?_
 exact wpAny_Return_some (inExpr ie he R F H e1 fun u ρ₁ h₁ t₁ p₁ H₁ F₁ r₁ => i3_5 ρ₁ h₁ t₁ p₁ rfl H₁ F₁ (i1_2 u rfl r₁))
theorem ss_cont {pos : Pos} : SS S n Φ xs gl cn (.Continue pos) .cont := by
 intro env A ext ρ m σ fl m' σ' s he R F H e
 refine so3 e ?_
 exact wpAny_Continue (i3_5 ρ _ _ (List.prefix_refl _) rfl H F rfl)
theorem sss_nil : SSs S n Φ xs gl cn [] .nil := by
 intro env A ext ρ m σ fl m' σ' s he R F H e
 refine so3 e ?_
 exact wpAny_execs_nil (i3_5 ρ _ _ (List.prefix_refl _) rfl H F rfl)
theorem sss_cons {st : Stmt} {r : List Stmt} {a : Mine.S} {b : Ss} (i1 : SS S n Φ xs gl cn st a) (i2 : SSs S n Φ xs gl cn r b) : SSs S n Φ xs gl cn (st :: r) (.cons a b) := by
 intro env A ext ρ m σ fl m' σ' s he R F H e
 refine x3_2 (b3_inv e) fun f1 m₁ σ₁ e1 e => ?_
 refine wpAny_execs_cons (wpAny_mono (i1 env A ext ρ m σ f1 m₁ σ₁ s he R F H e1) (fun f s' q => ?_) fun _ _ q => q)
 refine x3_5 q fun ρ₁ h₁ t₁ p₁ zz8 H₁ F₁ r₁ => ?_
 clear q
 subst zz8
 cases f1 with
 | next =>
   cases r₁
   exact wpAny_mono (i2 env A ext ρ₁ m₁ σ₁ fl m' σ' { s with heap := h₁, toks := t₁ } he R F₁ H₁ e) (fun f s' q => q.from p₁) fun _ _ q => q
 | cont =>
   cases r₁
   refine so3 e ?_
   exact i3_5 ρ₁ h₁ t₁ p₁ rfl H₁ F₁ rfl
 | ret v =>
   refine x1_2 r₁ fun u zz9 r => ?_
   clear r₁
   subst zz9
   refine so3 e ?_
   exact i3_5 ρ₁ h₁ t₁ p₁ rfl H₁ F₁ (i1_2 u rfl r)
theorem tgts_trees {elts : List Expr} {is : List Nat} (T : Tgts xs elts is) (env : Env) : (assignEach elts env).length = is.length /\ (assignEach elts env).findIdx? (·.1) = none := by
 induction T with
 | nil => exact ⟨rfl, rfl⟩
 | @cons i x p r is hx _ ih =>
   refine ⟨?_, ?_⟩
   · show (assignEach r env).length + 1 = _
     rw [ih.1]; rfl
   · show ((false, assign (.Name x p) env) :: assignEach r env).findIdx? (·.1) = none
     rw [List.findIdx?_cons]
     simp only [Bool.false_eq_true, if_false, ih.2]
     rfl
theorem tgts_snd {elts : List Expr} {is : List Nat} (T : Tgts xs elts is) (he : EnvOk env gl cn) : ∀ {vs : List V} {us : List Value} {m m' : Frm} {s : Shared}, FS S env xs cn m ρ ext s.heap -> S.HR ext ρ σ s.heap -> S.VRs ρ vs us -> setAll is vs m = some m' ->
 ∀ {Q : Unit -> Shared -> Prop} {E : Value -> Shared -> Prop}, (∀ h' t', S.HR ext ρ σ h' -> FS S env xs cn m' ρ ext h' -> Q () { s with heap := h', toks := t' }) -> wpAny S.M A (assignInOrder ((assignEach elts env).map (·.2)) us) Q E s := by
 induction T with
 | nil =>
   intro vs us m m' s F H r e Q E k
   cases vs with
   | nil =>
     cases r; cases e
     exact wpAny_pure (k s.heap s.toks H F)
   | cons _ _ => exact nn e
 | @cons i x p r is hx T ih =>
   intro vs us m m' s F H rr e Q E k
   cases vs with
   | nil => exact nn e
   | cons v vs =>
     refine x2_3 rr fun u us zz10 ru rus => ?_
     clear rr
     subst zz10
     simp only [setAll] at e
     split at e
     · rename_i hi
       show wpAny S.M A (assignInOrder (assign (.Name x p) env :: (assignEach r env).map (·.2)) (u :: us)) Q E s
       simp only [assignInOrder]
       refine wpAny_bind (wpAny_holding (wpAny_assign_Name (store_snd (m' := m.set i (some v)) F he H hx ru (by unfold setLoc; rw [if_pos hi]) fun h₁ t₁ H₁ F₁ => ?_)))
       exact ih (s := { s with heap := h₁, toks := t₁ }) F₁ H₁ rus e k
     · exact nn e
theorem setAll_len : ∀ {is : List Nat} {vs : List V} {m m' : Frm}, setAll is vs m = some m' -> is.length = vs.length
 | [], [], _, _, _ => rfl
 | [], _ :: _, _, _, e => by exact nn e
 | _ :: _, [], _, _, e => by exact nn e
 | i :: is, v :: vs, m, m', e => by
   simp only [setAll] at e
   split at e
   · simp [setAll_len e]
   · exact nn e
theorem unpack_snd (G : S.Good) {s : Shared} {elts : List Expr} {is : List Nat} {k : Nat} {tp : Pos} {v : V} {u : Value} (T : Tgts xs elts is) (he : EnvOk env gl cn) (hh : A.handled = none) (F : FS S env xs cn m ρ ext s.heap) (H : S.HR ext ρ σ s.heap) (r : S.VR ρ v u) (e : unpackTo S.g is v m σ = some m')
 {Q : Unit -> Shared -> Prop} {E : Value -> Shared -> Prop} (kk : ∀ h' t', S.HR ext ρ σ h' -> FS S env xs cn m' ρ ext h' -> Q () { s with heap := h', toks := t' }) : wpAny S.M A (assign (.Tuple elts k tp) env u) Q E s := by
 unfold unpackTo at e
 split at e
 · rename_i vs q
   refine x2_3 (objAt G H q r) fun l ob y8 hl y9 => ?_
   subst y8
   refine x2_2 y9 fun us k2 zz11 r2 => ?_
   clear y9
   subst zz11
   obtain ⟨t1, t2⟩ := tgts_trees T env
   have hlen := setAll_len e
   have hN := HR.apart H (Nat.le_refl _)
   refine assign_Tuple_tuple hh ⟨_, hl, rfl, k2, rfl⟩ (by rw [t1, hlen, seqSz r2]) t2 fun h₁ hx => ?_
   have hL : env.locals ≠ s.heap.objs.size := by
    refine x3_2 (F.dict) fun o _ _ z _ => ?_
    exact Nat.ne_of_lt (Heap.lt_size z)
   have F₁ := F.extBut hx hL fun x c hx' hc hk => by
    obtain ⟨i, hi, rfl⟩ := List.getElem_of_mem hx'
    refine cps fun _ zk => ?_
    refine x2_5 (F.cell i _ (List.getElem?_eq_getElem hi) hk) fun c' ov z1 _ _ y10 _ => ?_
    refine x1_2 y10 fun o z4 _ => ?_
    clear y10
    refine zk ?_; clear zk
    rw [hc] at z1; cases z1
    exact Nat.ne_of_lt (Heap.lt_size z4)
   have hz : S.h₀.objs.size <= h₁.objs.size := by
    refine x3_2 (F₁.dict) fun o _ _ z _ => ?_
    exact Nat.le_trans F.top.above (Nat.le_of_lt (Heap.lt_size z))
   exact tgts_snd (s := { s with heap := h₁ }) T he F₁ (H.extBut hx hN.above hN.rho hN.ext hz) r2 e kk
 · exact nn e
theorem ss_unpack (G : S.Good) {is : List Nat} {elts : List Expr} {k : Nat} {tp pos : Pos} {e : Expr} {a : E} (T : Tgts xs elts is) (hs : ∀ env, swapsWithSole [.Tuple elts k tp] e pos.line env = pure false) (hw : ∀ env, swappedStores [.Tuple elts k tp] e env = pure none)
 (ie : SE S n Φ xs gl cn e a) : SS S n Φ xs gl cn (.Assign [.Tuple elts k tp] e pos) (.unpack is a) := by
 intro env A ext ρ m σ fl m' σ' s he R F H e
 refine cps fun _ zk => ?_
 refine x2_2 (b2_inv e) fun v σ₁ e1 e => ?_
 refine x1_2 (b1_inv e) fun m₁ e2 e => ?_
 refine zk ?_; clear zk
 refine so3 e ?_
 refine wpAny_Assign_stores (inExpr ie he R F H e1 fun u ρ₁ h₁ t₁ p₁ H₁ F₁ r₁ => ?_) (hs env) (hw env)
 show wpAny S.M A (assign (.Tuple elts k tp) env u) _ _ _
 exact unpack_snd (s := { s with heap := h₁, toks := t₁ }) G T he R.hd F₁ H₁ r₁ e2 fun h' t' H' F' => i3_5 ρ₁ h' t' p₁ rfl H' F' rfl
end
section
variable {S : St} {n : Nat} {Φ : CallF} {xs gl cn : List Str} {env : Env} {A : Around} {ext : List (Addr × Obj)} {ρ ρ' : List Addr} {m m' : Frm} {σ σ' : Hp} {h h' : Heap}
structure Off (env : Env) (xs : List Str) (a : Addr) : Prop where
 top : env.locals ≠ a
 cell : ∀ x c, x ∈ xs -> env.kindOf x = some .cell -> env.cells.lookup x = some c -> c ≠ a
theorem FS.off (F : FS S env xs cn m ρ ext h) {a : Addr} (ha : h.objs.size <= a) : Off env xs a := by
 refine ⟨?_, fun x c hx hk hc => ?_⟩
 · refine x3_2 (F.dict) fun o _ _ z _ => ?_
   exact Nat.ne_of_lt (Nat.lt_of_lt_of_le (Heap.lt_size z) ha)
 · obtain ⟨i, hi, rfl⟩ := List.getElem_of_mem hx
   refine cps fun _ zk => ?_
   refine x2_5 (F.cell i _ (List.getElem?_eq_getElem hi) hk) fun c' ov z1 _ _ y1 _ => ?_
   refine x1_2 y1 fun o z4 _ => ?_
   clear y1
   refine zk ?_; clear zk
   rw [hc] at z1; cases z1
   exact Nat.ne_of_lt (Nat.lt_of_lt_of_le (Heap.lt_size z4) ha)
theorem FS.consExt (F : FS S env xs cn m ρ ext h) {p : Addr × Obj} (O : Off env xs p.1) : FS S env xs cn m ρ (p :: ext) h := by
 have up : ∀ {a : Addr}, a ≠ p.1 -> Apart S ext ρ a -> Apart S (p :: ext) ρ a := fun hne D => ⟨D.rho, fun q hq => by
  rcases List.mem_cons.mp hq with rfl | hq
  · exact Ne.symm hne
  · exact D.ext q hq, D.above⟩
 refine ⟨F.len, F.nd, F.kind, up O.top F.top, F.dict, fun i x hx hk => ?_, F.apart⟩
 refine x2_3 (F.cell i x hx hk) fun c ov z1 z2 z => ?_
 exact i2_3 c ov z1 (up (O.cell x c (List.mem_of_getElem? hx) hk z1) z2) z
theorem FS.tailExt {p : Addr × Obj} (F : FS S env xs cn m ρ (p :: ext) h) : FS S env xs cn m ρ ext h := by
 have dn : ∀ {a : Addr}, Apart S (p :: ext) ρ a -> Apart S ext ρ a := fun D => ⟨D.rho, fun q hq => D.ext q (.tail _ hq), D.above⟩
 refine ⟨F.len, F.nd, F.kind, dn F.top, F.dict, fun i x hx hk => ?_, F.apart⟩
 refine x2_3 (F.cell i x hx hk) fun c ov z1 z2 z => ?_
 exact i2_3 c ov z1 (dn z2) z
theorem Off.apart (O : Off env xs a) (D : Apart S ext ρ a) (F : FS S env xs cn m ρ ext h) : Apart S (frameExt env xs h ++ ext) ρ a := by
 refine ⟨D.rho, fun p hp => ?_, D.above⟩
 rcases List.mem_append.mp hp with hp | hp
 · rcases mem_frameExt hp with rfl | ⟨i, x, c, hx, hk, hc, rfl⟩
   · exact O.top
   · exact O.cell x c (List.mem_of_getElem? hx) hk hc
 · exact D.ext p hp
theorem RoomS.cons (R : RoomS n A ext env) (p : Addr × Obj) : RoomS n A (p :: ext) env :=
 ⟨R.hd, R.depth, R.units, let ⟨l, e, q⟩ := R.frames; (i1_2 l e (fun e' he => let ⟨k, L, o, es, ep, a, b, c⟩ := q e' he; ⟨k, L, o, es, ep, a, .tail _ b, c⟩)), R.frame⟩
noncomputable def TgtOk (S : St) (n : Nat) (xs gl cn : List Str) (target : Expr) (set : V -> Frm -> Hp -> Option Frm) (ok : It -> Prop) : Prop :=
 ∀ (env : Env) (A : Around) (ext : List (Addr × Obj)) (ρ : List Addr) (m m' : Frm) (σ : Hp) (v : V) (u : Value) (s : Shared) (I : Addr) (ob : Obj) (it : It), EnvOk env gl cn -> A.handled = none -> FS S env xs cn m ρ ext s.heap -> S.HR ext ρ σ s.heap -> S.VR ρ v u -> set v m σ = some m' -> ok it ->
   s.heap.get? I = some ob -> ItO S.gad ρ it ob -> ∀ (Q : Unit -> Shared -> Prop) (E : Value -> Shared -> Prop), (∀ h' t', S.HR ext ρ σ h' -> FS S env xs cn m' ρ ext h' -> Q () { s with heap := h', toks := t' }) ->
   wpAny S.M A (letOwnedTupleGo target (.ref I) u) (fun _ s₁ => wpAny S.M A (assign target env u) Q E s₁) E s
theorem tgt_name {i : Nat} {x : Str} {p : Pos} (hx : xs[i]? = some x) : TgtOk S n xs gl cn (.Name x p) (fun v m _ => setLoc i v m) fun _ => True := by
 intro env A ext ρ m m' σ v u s I ob it he hh F H r e _ hI hO Q E k
 exact wpAny_of_eq (a := ()) rfl (wpAny_assign_Name (store_snd F he H hx r e k))
noncomputable def isLst : It -> Prop
 | .lst .. => True
 | _ => False
theorem tgt_tup (G : S.Good) {is : List Nat} {elts : List Expr} {k : Nat} {tp : Pos} (T : Tgts xs elts is) : TgtOk S n xs gl cn (.Tuple elts k tp) (unpackTo S.g is) isLst := by
 intro env A ext ρ m m' σ v u s I ob it he hh F H r e ok hI hO Q E kk
 refine x2_1 (by cases it with | lst l i => exact i2_1 l i rfl | _ => exact ok.elim : ∃ l i, it = .lst l i) fun l i y2 => ?_
 subst y2
 refine x1_3 hO fun a ra hc hd => ?_
 clear hO
 have hu : ∃ T, u = .ref T := by
  unfold unpackTo at e
  split at e
  · rename_i vs q
    refine x2_2 (objAt G H q r) fun l ob y3 _ => ?_
    subst y3
    exact ⟨l, rfl⟩
  · exact nn e
 obtain ⟨T', rfl⟩ := hu
 exact wpAny_letOwnedTupleGo_listiter ⟨ob, hI, hc, hd⟩ (unpack_snd G T he hh F H r e kk)
structure FLoop (S : St) (s₀ : Shared) (env : Env) (xs cn : List Str) (ext : List (Addr × Obj)) (ρ₀ : List Addr) (I : Addr) (ok : It -> Prop) (run : Nat -> It -> Frm -> Hp -> Option (Fl × Frm × Hp)) (r : Fl × Frm × Hp) (n : Nat) (s : Shared) : Prop where
 is : ∃ it σ ρ h t ob m, s = { s₀ with heap := h, toks := t } /\ ρ₀ <+: ρ /\ run n it m σ = some r /\ S.HR ext ρ σ h /\ FS S env xs cn m ρ ext h /\ h.get? I = some ob /\ ItO S.gad ρ it ob /\ ok it /\ Apart S ext ρ I /\ Off env xs I
noncomputable def After (run : Frm -> Hp -> Option (Fl × Frm × Hp)) (f : Fl) (m : Frm) (σ : Hp) (r : Fl × Frm × Hp) : Prop := ((f = .next \/ f = .cont) /\ run m σ = some r) \/ ∃ w, f = .ret w /\ r = (.ret w, m, σ)
theorem after {run : Frm -> Hp -> Option (Fl × Frm × Hp)} {f : Fl} {m : Frm} {σ : Hp} {r : Fl × Frm × Hp} (e : (match f with | .ret v => some (.ret v, m, σ) | _ => run m σ) = some r) : After run f m σ r := by
 cases f with
 | next => exact .inl ⟨.inl rfl, e⟩
 | cont => exact .inl ⟨.inr rfl, e⟩
 | ret w => exact .inr ⟨w, rfl, (Option.some.inj e).symm⟩
noncomputable def ForStep (g : List O) (set : V -> Frm -> Hp -> Option Frm) (bd : Frm -> Hp -> Option (Fl × Frm × Hp)) (run : Nat -> It -> Frm -> Hp -> Option (Fl × Frm × Hp)) (k : Nat) (it : It) (m : Frm) (σ : Hp) (r : Fl × Frm × Hp) : Prop :=
 (next g σ it = some none /\ r = (.next, m, σ)) \/ ∃ j v it' m₁ f1 m₂ σ₂, k = j + 1 /\ next g σ it = some (some (v, it')) /\ set v m σ = some m₁ /\ bd m₁ σ = some (f1, m₂, σ₂) /\ After (run j it') f1 m₂ σ₂ r
theorem forStep {g : List O} {set : V -> Frm -> Hp -> Option Frm} {bd : Frm -> Hp -> Option (Fl × Frm × Hp)} {k : Nat} {it : It} {m : Frm} {σ : Hp} {r : Fl × Frm × Hp} (e : forLoop g set bd k it m σ = some r) : ForStep g set bd (forLoop g set bd) k it m σ r := by
 cases k with
 | zero => exact nn e
 | succ k =>
   refine x1_2 (b1_inv e) fun x e1 e => ?_
   cases x with
   | none => exact .inl ⟨e1, (Option.some.inj e).symm⟩
   | some p =>
     refine x1_2 (b1_inv e) fun m₁ e2 e => ?_
     refine x3_2 (b3_inv e) fun f1 m₂ σ₂ e3 e => ?_
     exact .inr ⟨k, p.1, p.2, m₁, f1, m₂, σ₂, rfl, e1, e2, e3, after e⟩
theorem for_loop (G : S.Good) {target : Expr} {body : List Stmt} {bd : Frm -> Hp -> Option (Fl × Frm × Hp)} {set : V -> Frm -> Hp -> Option Frm} {ok : It -> Prop} {ρ₀ : List Addr} {I : Addr} {r : Fl × Frm × Hp} {R : Result -> Shared -> Prop} {s₀ : Shared} {run : Nat -> It -> Frm -> Hp -> Option (Fl × Frm × Hp)} (hrun : ∀ k it m σ, run k it m σ = some r -> ForStep S.g set bd run k it m σ r)
 (he : EnvOk env gl cn) (hR : RoomS n A ext env) (hok : ∀ σ it v it', next S.g σ it = some (some (v, it')) -> ok it -> ok it') (ht : TgtOk S n xs gl cn target set ok)
 (ib : ∀ (ext : List (Addr × Obj)) (ρ : List Addr) (m : Frm) (σ : Hp) (fl : Fl) (m' : Frm) (σ' : Hp) (s : Shared), RoomS n A ext env -> FS S env xs cn m ρ ext s.heap -> S.HR ext ρ σ s.heap -> bd m σ = some (fl, m', σ') -> wpAny S.M A (execs body env) (ResS S s env xs cn ext ρ fl m' σ') Nope s)
 (fin : ∀ f s', ResS S s₀ env xs cn ext ρ₀ r.1 r.2.1 r.2.2 f s' -> R (.ok f) s') (k : Nat) (s : Shared)
 (J : FLoop S s₀ env xs cn ext ρ₀ I ok run r k s) : codeAny S.M A (.forLoop target (.ref I) body [] env) R s := by
 refine codeAny_forLoop_any (FLoop S s₀ env xs cn ext ρ₀ I ok run r) (fun k s J => ?_) k J
 refine x7_1 J.1 fun it σ ρ h t ob m zq => x0_10 zq fun zz2 hp hr H F hI hO hk DI OI => ?_
 subst zz2
 refine (hrun k it m σ hr).elim (fun q => next_snd (s := { s₀ with heap := h, toks := t }) G hR.hd (List.cons_ne_nil _ _) q.1 (F.enter H) (OI.apart DI F) hI hO fun v' h₁ t₁ H₁ hx₁ hnx => ?_) fun q => ?_
 · refine x0_2 (F.back H₁ (List.prefix_refl _)) fun H₁ F₁ => ?_
   cases hnx
   exact wpAny_execs_nil (fin _ _ (by rw [q.2]; exact i3_5 ρ h₁ t₁ hp rfl H₁ F₁ rfl))
 refine x7_1 q fun j v it' m₁ f1 m₂ σ₂ zq => x0_5 zq fun hj e1 e2 e3 hc => ?_
 refine next_snd (s := { s₀ with heap := h, toks := t }) G hR.hd (List.cons_ne_nil _ _) e1 (F.enter H) (OI.apart DI F) hI hO fun v' h₁ t₁ H₁ hx₁ hnx => ?_
 refine x0_2 (F.back H₁ (List.prefix_refl _)) fun H₁ F₁ => ?_
 refine x2_4 hnx fun u ob₁ zz3 ru hI₁ hO₁ => ?_
 cases zz3
 have hk' := hok σ it v it' e1 hk
 have H₂ : S.HR ((I, ob₁) :: ext) ρ σ h₁ := H₁.cons_ext (p := (I, ob₁)) hI₁ (Like.refl _) DI.rho DI.above
 refine ht env A ((I, ob₁) :: ext) ρ m m₁ σ v u { s₀ with heap := h₁, toks := t₁ } I ob₁ it' he hR.hd (F₁.consExt OI) H₂ ru e2 hk' hI₁ hO₁ _ _ fun h₂ t₂ H₃ F₃ => ?_
 refine wpAny_mono (ib ((I, ob₁) :: ext) ρ m₁ σ f1 m₂ σ₂ { s₀ with heap := h₂, toks := t₂ } (hR.cons _) F₃ H₃ e3) (fun f s' q => ?_) fun _ _ q => q.elim
 refine x3_5 q fun ρ₄ h₄ t₄ p₄ zz4 H₄ F₄ r₄ => ?_
 cases zz4
 have H₅ := H₄.mono_ext (ext' := ext) fun p hp => .tail _ hp
 refine hc.elim (fun hc => ?_) fun hc => ?_
 · refine x1_2 (H₄.exs _ (.head _)) fun oi q1 q2 => ?_
   have back : FLoop S s₀ env xs cn ext ρ₀ I ok run r j { s₀ with heap := h₄, toks := t₄ } := ⟨it', σ₂, ρ₄, h₄, t₄, oi, m₂, rfl, hp.trans p₄, hc.2, H₅, F₄.tailExt, q1, q2.eq hO₁.noFrame ▸ hO₁.mono p₄, hk', ⟨H₄.disj _ (.head _), DI.ext, DI.above⟩, OI⟩
   have lt : j < k := hj ▸ Nat.lt_succ_self j
   refine hc.1.elim (fun z => ?_) fun z => ?_
   · subst z; cases r₄; exact i1_2 j lt back
   · subst z; cases r₄; exact i1_2 j lt back
 · refine x1_2 hc fun w z er => ?_
   subst z
   refine x1_2 r₄ fun w' zz5 rw' => ?_
   cases zz5
   exact fin _ _ (by rw [er]; exact i3_5 ρ₄ h₄ t₄ (hp.trans p₄) rfl H₅ F₄.tailExt (i1_2 w' rfl rw'))
theorem ss_forAny (G : S.Good) {target it : Expr} {body : List Stmt} {pos : Pos} {b : Ss} {a : E} {set : V -> Frm -> Hp -> Option Frm} {ok : It -> Prop} {mk : Hp -> V -> Option It} (hset : ∀ env x, foldedSetIterable it env x = pure x)
 (hmk : ∀ σ v i, mk σ v = some i -> iter S.g σ v = some i /\ ok i) (hok : ∀ σ it v it', next S.g σ it = some (some (v, it')) -> ok it -> ok it') (ht : TgtOk S n xs gl cn target set ok) (ii : SE S n Φ xs gl cn it a) (ib : SSs S n Φ xs gl cn body b)
 {env : Env} {A : Around} {ext : List (Addr × Obj)} {ρ : List Addr} {m m' : Frm} {σ σ' : Hp} {fl : Fl} {s : Shared} (he : EnvOk env gl cn) (R : RoomS n A ext env) (F : FS S env xs cn m ρ ext s.heap) (H : S.HR ext ρ σ s.heap)
 (e : b2 (vE S.g Φ a m σ) (fun v σ => b1 (mk σ v) fun i => forLoop S.g set (fun m σ => execSs S.g Φ b m σ) loopFuel i m σ) = some (fl, m', σ')) : wpAny S.M A (exec (.For target it body [] pos) env) (ResS S s env xs cn ext ρ fl m' σ') Nope s := by
 refine cps fun _ zk => ?_
 refine x2_2 (b2_inv e) fun v σ₁ e1 e => ?_
 refine x1_2 (b1_inv e) fun i e2 e => ?_
 obtain ⟨e3, e4⟩ := hmk _ _ _ e2
 refine zk ?_; clear zk
 refine wpAny_For (inExpr ii he R F H e1 fun u ρ₁ h₁ t₁ p₁ H₁ F₁ r₁ => ?_) (hset env)
 refine iter_snd (s := { s with heap := h₁, toks := t₁ }) G e3 H₁ r₁ fun ob hO hfr => ?_
 have AI := HR.apart H₁ (Nat.le_refl _)
 have OI := F₁.off (Nat.le_refl _)
 have F₂ : FS S env xs cn m ρ₁ ext (h₁.push ob) := F₁.extBut (a := h₁.objs.size) (fun b o _ e => Heap.get?_push_of_some _ e) OI.top fun x c hx hc hk => OI.cell x c hx hk hc
 exact codeAny_mono (for_loop G (fun _ _ _ _ => forStep) he R hok ht (ib env A · · · · · · · · he) (R := fun r s' => match r with | .ok f => ResS S s env xs cn ext ρ fl m' σ' f s' | .error _ => False) (fun f s' q => q) loopFuel _
  ⟨i, σ₁, ρ₁, h₁.push ob, t₁, ob, m, rfl, p₁, e, H₁.push ob, F₂, Heap.get?_push_size _ hfr, hO, e4, AI, OI⟩) fun r s' q => by
   cases r with
   | ok f => exact q
   | error e => exact q.elim
theorem ss_for (G : S.Good) {i : Nat} {x : Str} {p pos : Pos} {it : Expr} {body : List Stmt} {a : E} {b : Ss} (hx : xs[i]? = some x) (hset : ∀ env x, foldedSetIterable it env x = pure x) (ii : SE S n Φ xs gl cn it a) (ib : SSs S n Φ xs gl cn body b) :
 SS S n Φ xs gl cn (.For (.Name x p) it body [] pos) (.for_ i a b) := by
 intro env A ext ρ m σ fl m' σ' s he R F H e
 exact ss_forAny G hset (mk := fun σ v => iter S.g σ v) (fun σ v i q => ⟨q, trivial⟩) (fun _ _ _ _ _ q => q) (tgt_name hx) ii ib he R F H e
theorem ss_forT (G : S.Good) {is : List Nat} {elts : List Expr} {k : Nat} {tp pos : Pos} {it : Expr} {body : List Stmt} {a : E} {b : Ss} (T : Tgts xs elts is) (hset : ∀ env x, foldedSetIterable it env x = pure x) (ii : SE S n Φ xs gl cn it a) (ib : SSs S n Φ xs gl cn body b) :
 SS S n Φ xs gl cn (.For (.Tuple elts k tp) it body [] pos) (.forT is a b) := by
 intro env A ext ρ m σ fl m' σ' s he R F H e
 refine ss_forAny G hset (mk := fun σ v => iterL S.g σ v) (ok := isLst) (fun σ v i q => ?_) (fun σ it v it' q1 q2 => ?_) (tgt_tup G T) ii ib he R F H e
 · unfold iterL at q
   split at q
   · rename_i xs z
     refine so1 q ?_
     exact ⟨by unfold iter; rw [z], trivial⟩
   · exact nn q
 · cases it with
   | lst l i =>
     simp only [next] at q1
     split at q1
     · split at q1
       · cases q1; exact trivial
       · cases q1
     · exact nn q1
   | _ => exact q2.elim
noncomputable def WhileStep (cond : Frm -> Hp -> Option (V × Hp)) (bd : Frm -> Hp -> Option (Fl × Frm × Hp)) (run : Nat -> Frm -> Hp -> Option (Fl × Frm × Hp)) (k : Nat) (m : Frm) (σ : Hp) (r : Fl × Frm × Hp) : Prop :=
 ∃ j c σ₂ tb, k = j + 1 /\ cond m σ = some (c, σ₂) /\ truth c = some tb /\ if tb then ∃ f1 m₂ σ₃, bd m σ₂ = some (f1, m₂, σ₃) /\ After (run j) f1 m₂ σ₃ r else r = (.next, m, σ₂)
theorem whileStep {cond : Frm -> Hp -> Option (V × Hp)} {bd : Frm -> Hp -> Option (Fl × Frm × Hp)} {k : Nat} {m : Frm} {σ : Hp} {r : Fl × Frm × Hp} (e : whileLoop cond bd k m σ = some r) : WhileStep cond bd (whileLoop cond bd) k m σ r := by
 cases k with
 | zero => exact nn e
 | succ k =>
   refine x2_2 (b2_inv e) fun c σ₂ e1 e => ?_
   refine x1_2 (b1_inv e) fun tb e2 e => ?_
   refine ⟨k, c, σ₂, tb, rfl, e1, e2, ?_⟩
   cases tb with
   | false => exact (Option.some.inj e).symm
   | true => exact x3_2 (b3_inv e) fun f1 m₂ σ₃ e3 e => ⟨f1, m₂, σ₃, e3, after e⟩
noncomputable def WLoop (S : St) (s₀ : Shared) (env : Env) (xs cn : List Str) (ext : List (Addr × Obj)) (ρ₀ : List Addr) (run : Nat -> Frm -> Hp -> Option (Fl × Frm × Hp)) (r : Fl × Frm × Hp) (k : Nat) (s : Shared) : Prop :=
 ∃ σ ρ h t m, s = { s₀ with heap := h, toks := t } /\ ρ₀ <+: ρ /\ run k m σ = some r /\ S.HR ext ρ σ h /\ FS S env xs cn m ρ ext h
theorem while_loop {c : Expr} {body : List Stmt} {cd : Frm -> Hp -> Option (V × Hp)} {bd : Frm -> Hp -> Option (Fl × Frm × Hp)} {run : Nat -> Frm -> Hp -> Option (Fl × Frm × Hp)} {r : Fl × Frm × Hp} {ρ₀ : List Addr} {s₀ : Shared} (hrun : ∀ k m σ, run k m σ = some r -> WhileStep cd bd run k m σ r)
 (it : ∀ (ρ : List Addr) (m : Frm) (σ : Hp) (v : V) (σ₁ : Hp) (tb : Bool) (s : Shared) {Q : Bool -> Shared -> Prop} {E : Value -> Shared -> Prop}, FS S env xs cn m ρ ext s.heap -> S.HR ext ρ σ s.heap -> cd m σ = some (v, σ₁) -> truth v = some tb -> (∀ ρ' h' t', ρ <+: ρ' -> S.HR ext ρ' σ₁ h' -> FS S env xs cn m ρ' ext h' -> Q tb { s with heap := h', toks := t' }) -> wpAny S.M A (isTrue c env (eval c env)) Q E s)
 (ib : ∀ (ρ : List Addr) (m : Frm) (σ : Hp) (fl : Fl) (m' : Frm) (σ' : Hp) (s : Shared), FS S env xs cn m ρ ext s.heap -> S.HR ext ρ σ s.heap -> bd m σ = some (fl, m', σ') -> wpAny S.M A (execs body env) (ResS S s env xs cn ext ρ fl m' σ') Nope s)
 (k : Nat) (J : WLoop S s₀ env xs cn ext ρ₀ run r k s) : codeAny S.M A (.whileLoop c body [] env) (fun x s' => match x with | .ok f => ResS S s₀ env xs cn ext ρ₀ r.1 r.2.1 r.2.2 f s' | .error _ => False) s := by
 refine codeAny_whileLoop (WLoop S s₀ env xs cn ext ρ₀ run r) (fun k s' J => ?_) k J
 refine x5_1 J fun σ₁ ρ₁ h₁ t₁ m₁ zq => x0_5 zq fun y5 p₁ hr H₁ F₁ => ?_
 subst y5
 refine x4_4 (hrun k m₁ σ₁ hr) fun j cv σ₂ tb hj e1 e2 hc => ?_
 refine it ρ₁ m₁ σ₁ cv σ₂ tb { s₀ with heap := h₁, toks := t₁ } F₁ H₁ e1 e2 fun ρ₂ h₂ t₂ p₂ H₂ F₂ => ?_
 have p₂' := p₁.trans p₂
 cases tb with
 | false => exact wpAny_execs_nil (by rw [show r = _ from hc]; exact i3_5 ρ₂ h₂ t₂ p₂' rfl H₂ F₂ rfl)
 | true =>
   refine x3_2 hc fun f1 m₂ σ₃ e3 hc => ?_
   refine wpAny_mono (ib ρ₂ m₁ σ₂ f1 m₂ σ₃ { s₀ with heap := h₂, toks := t₂ } F₂ H₂ e3) (fun f s' q => ?_) fun _ _ q => q.elim
   refine x3_5 q fun ρ₄ h₄ t₄ p₄ zz6 H₄ F₄ r₄ => ?_
   cases zz6
   refine hc.elim (fun hc => ?_) fun hc => ?_
   · have back : WLoop S s₀ env xs cn ext ρ₀ run r j { s₀ with heap := h₄, toks := t₄ } := i5_5 σ₃ ρ₄ h₄ t₄ m₂ rfl (p₂'.trans p₄) hc.2 H₄ F₄
     have lt : j < k := hj ▸ Nat.lt_succ_self j
     refine hc.1.elim (fun z => ?_) fun z => ?_
     · subst z; cases r₄; exact i1_2 j lt back
     · subst z; cases r₄; exact i1_2 j lt back
   · refine x1_2 hc fun w z er => ?_
     subst z
     refine x1_2 r₄ fun w' z rw' => ?_
     cases z
     rw [er]
     exact i3_5 ρ₄ h₄ t₄ (p₂'.trans p₄) rfl H₄ F₄ (i1_2 w' rfl rw')
theorem ss_while {c : Expr} {body : List Stmt} {pos : Pos} {a : E} {b : Ss} (it : STr S n Φ xs gl cn c a) (ib : SSs S n Φ xs gl cn body b) : SS S n Φ xs gl cn (.While c body [] pos) (.while a b) := by
 intro env A ext ρ m σ fl m' σ' s he R F H e
 exact wpAny_While (codeAny_mono (while_loop (fun _ _ _ => whileStep) (fun ρ m σ v σ₁ tb s Q E F H e1 e2 k => inTest (s := s) it he R F H e1 e2 k) (ib env A ext · · · · · · · he R) loopFuel (i5_5 σ ρ s.heap s.toks m rfl (List.prefix_refl _) e H F)) fun r s' q => by
  cases r with
  | ok f => exact q
  | error e => exact q.elim)
end
section
variable {S : St} {n : Nat} {Φ : CallF} {xs gl cn : List Str} {env : Env} {A : Around} {ext : List (Addr × Obj)} {ρ ρ' : List Addr} {m m' : Frm} {σ σ' : Hp} {h h' : Heap}
theorem Apart.off {a : Addr} (D : Apart S (frameExt env xs h ++ ext) ρ a) : Off env xs a := by
 refine ⟨?_, fun x c hx hk hc => ?_⟩
 · exact D.ext _ (List.mem_append_left _ (.head _))
 · obtain ⟨i, hi, rfl⟩ := List.getElem_of_mem hx
   exact D.ext _ (List.mem_append_left _ (cell_frameExt (h := h) (List.getElem?_eq_getElem hi) hk hc))
theorem swaps_true {env : Env} {x : Str} {p vp pos : Pos} {elt : Expr} {gens : List Comprehension} {scope : Scope} (he : EnvOk env gl cn) (hk : env.kindOf x = some .local) (hl : (p.line == vp.line) = true) (hn : (scope.names.any fun nk => nk.1 == x && (nk.2 == .local || nk.2 == .cell)) = false) :
 swapsWith (.ListComp elt gens scope vp) (some (.Name x p)) pos.line env = pure true := by
 show (pure (env.blockKind == .function && env.kindOf x == some .local && p.line == vp.line && !(scope.names.any fun nk => nk.1 == x && (nk.2 == .local || nk.2 == .cell))) : Sem Bool) = pure true
 rw [hn, hl, hk]
 have : env.blockKind = .function := by unfold Env.blockKind; rw [he.kind]; rfl
 rw [this]; rfl
theorem use_core (G : S.Good) {elt it : Expr} {a b : E} {ys gl2 : List Str} {ifs : List Expr} {cf : Frm -> Hp -> Option (V × Hp)} {scope : Scope} {pos p vp py : Pos} {i : Nat} {x y : Str} {caps : List Nat} {base : List V} {v : V} {ii : It} {σ σ₁ σ' : Hp} {s : Shared}
 (hx : xs[i]? = some x) (hxc : x ∉ cn) (hl : (p.line == vp.line) = true) (hn : (scope.names.any fun nk => nk.1 == x && (nk.2 == .local || nk.2 == .cell)) = false)
 (hset : ∀ env x, foldedSetIterable it env x = pure x) (hkind : scope.kind = .function) (hnames : ∀ z ∈ scope.names, z.2 = .local -> scope.names.lookup z.1 = some .local) (hcell : ∀ z ∈ scope.names, z.2 ≠ .cell) (hy : scope.names.lookup y = some .local)
 (hfree : ∀ y ∈ ys, scope.names.lookup y = some .free /\ y ∈ cn) (hall : ∀ z ∈ scope.names, z.2 = .free -> z.1 ∈ ys) (hg2 : ∀ y ∈ gl2, scope.names.lookup y = some .globalImplicit) (hmap : caps.map (fun c => xs[c]?) = ys.map some)
 (i1 : SE S n Φ xs gl cn it b) (ie : SE S n Φ (ys ++ [y]) gl2 [] elt a) (ic : STests S n (ys ++ [y]) gl2 ifs cf)
 (he : EnvOk env gl cn) (R : RoomS n A ext env) (F : FS S env xs cn m ρ ext s.heap) (H : S.HR ext ρ σ s.heap) (e1 : vE S.g Φ b m σ = some (v, σ₁)) (e2 : iter S.g σ₁ v = some ii) (e3 : capsOf m caps = some base)
 (e4 : compLoop S.g (fun m σ => vE S.g Φ a m σ) cf base σ₁.length loopFuel ii (σ₁ ++ [.list []]) = some σ') (e5 : setLoc i (.ref σ₁.length) m = some m') :
 wpAny S.M A (exec (.Assign [.Name x p] (.ListComp elt [⟨.Name y py, it, ifs, 0⟩] scope vp) pos) env) (ResS S s env xs cn ext ρ .next m' σ') Nope s := by
 have hk : env.kindOf x = some .local := by
  rcases F.kind x (List.mem_of_getElem? hx) with ⟨z, _⟩ | ⟨_, z⟩
  · exact absurd z hxc
  · exact z
 rw [exec_Assign_Name_used _ _ _ _ (swaps_true he hk hl hn)]
 refine wpAny_bind (wpAny_standAt (wpAny_bind ?_))
 show wpAny S.M A (do let _ <- comprehension (.ListComp elt [⟨.Name y py, it, ifs, 0⟩] scope vp) scope env _ (newList []) false (eval it env) (some (assign (.Name x p) env))) _ _ s
 refine wpAny_bind (wpAny_mono (comp_core (Q := fun _ s' => ResS S s env xs cn ext ρ .next m' σ' .next s') (E := Nope) G hset hkind hnames hcell hy hfree hall hg2 hmap i1 ie ic (F.sur he R) (F.enter H) e1 e2 e3 e4 ?_) (fun _ s' hq => wpAny_pure (wpAny_pure hq)) fun _ _ e => e)
 intro ρ' h t oC es ep C D p1 H' hD c1 c2 c3 AC
 have OC : Off env xs C := AC.off
 obtain ⟨H₁, F₁⟩ := F.back H' p1
 have AC' : Apart S ext ρ' C := ⟨AC.rho, fun q hq => AC.ext q (List.mem_append_right _ hq), AC.above⟩
 have H₂ : S.HR ((C, oC) :: ext) ρ' σ' h := H₁.cons_ext (p := (C, oC)) c1 (Like.refl _) AC.rho AC.above
 show wpAny S.M A (assign (.Name x p) env (.ref D)) _ _ _
 refine wpAny_assign_Name (store_snd (s := { s with heap := h, toks := t }) (v := .ref σ₁.length) (F₁.consExt (p := (C, oC)) OC) he H₂ hx ⟨D, hD, rfl⟩ e5 fun h₃ t₃ H₃ F₃ => ?_)
 refine x1_2 (H₃.exs _ (.head _)) fun oc q1 q2 => ?_
 refine i1_2 (fun y => nsFind es y) (i3_4 oc es ep q1 (q2.2.1.trans c2) c3 (fun _ => rfl)) (fun h₄ hs => ?_)
 have H₄ : S.HR ext ρ' σ' h₃ := H₃.mono_ext fun p hp => .tail _ hp
 exact i3_5 ρ' h₄ _ p1 rfl (H₄.sameBut AC' hs) (F₃.tailExt.extBut hs.extBut OC.top fun x c hx hc hk => OC.cell x c hx hk hc) rfl
end
noncomputable def noComp : Expr -> Bool | .ListComp .. => false | .SetComp .. => false | .DictComp .. => false | _ => true
noncomputable def PlainE (e : Expr) : Prop := (∀ o i : Value, subscripted e false o i = operate [o, i] (getItem o i)) /\ (∀ (rest : List Expr) (env : Env), starEach (e :: rest) env = (false, eval e env) :: starEach rest env) /\ ∀ (env : Env) (x : Value), foldedSetIterable e env x = pure x
noncomputable def SA (S : St) (n : Nat) (Φ : CallF) (xs gl cn : List Str) (ex : Expr) (e : E) : Prop :=
 ∀ elt y py it ifs scope vp i x p pos, ex = .ListComp elt [⟨.Name y py, it, ifs, 0⟩] scope vp -> xs[i]? = some x -> x ∉ cn -> (p.line == vp.line) = true -> (scope.names.any fun nk => nk.1 == x && (nk.2 == .local || nk.2 == .cell)) = false ->
   SS S n Φ xs gl cn (.Assign [.Name x p] (.ListComp elt [⟨.Name y py, it, ifs, 0⟩] scope vp) pos) (.asg i e)
noncomputable def TrE (S : St) (xs gl cn : List Str) (ex : Expr) (e : E) : Prop := PlainE ex /\ ∀ (n : Nat) (Φ : CallF), S.Good -> CallsOk S n Φ -> SE S n Φ xs gl cn ex e /\ STr S n Φ xs gl cn ex e /\ SA S n Φ xs gl cn ex e
noncomputable def TrEs (S : St) (xs gl cn : List Str) (es : List Expr) (as : Es) : Prop := (∀ (pos : Pos) (env : Env), backTo pos (starEach es env) = es.map fun e => (false, eval e env)) /\ ∀ (n : Nat) (Φ : CallF), S.Good -> CallsOk S n Φ -> SEs S n Φ xs gl cn es as
noncomputable def TrA (S : St) (xs gl cn : List Str) (pos : Pos) (vs : List Expr) (e : E) : Prop := ∀ (n : Nat) (Φ : CallF), S.Good -> CallsOk S n Φ -> SB pos .And S n Φ xs gl cn vs e /\ SBT .And S n Φ xs gl cn vs e
noncomputable def TrO (S : St) (xs gl cn : List Str) (pos : Pos) (vs : List Expr) (e : E) : Prop := ∀ (n : Nat) (Φ : CallF), S.Good -> CallsOk S n Φ -> SB pos .Or S n Φ xs gl cn vs e /\ SBT .Or S n Φ xs gl cn vs e
section
variable {S : St} {xs gl cn : List Str} {ex : Expr} {e : E} {n : Nat} {Φ : CallF}
theorem TrE.se (h : TrE S xs gl cn ex e) (G : S.Good) (k : CallsOk S n Φ) : SE S n Φ xs gl cn ex e := (h.2 n Φ G k).1
theorem TrE.st (h : TrE S xs gl cn ex e) (G : S.Good) (k : CallsOk S n Φ) : STr S n Φ xs gl cn ex e := (h.2 n Φ G k).2.1
theorem soundE (G : S.Good) (k : CallsOk S n Φ) (h : TrE S xs gl cn ex e) : SE S n Φ xs gl cn ex e /\ STr S n Φ xs gl cn ex e := ⟨h.se G k, h.st G k⟩
theorem TrE.ofT (h : ∀ (n : Nat) (Φ : CallF), S.Good -> CallsOk S n Φ -> SE S n Φ xs gl cn ex e) (t : ∀ (n : Nat) (Φ : CallF), S.Good -> CallsOk S n Φ -> STr S n Φ xs gl cn ex e) (p : PlainE ex := by exact ⟨fun _ _ => rfl, fun _ _ => rfl, fun _ _ => rfl⟩) (c : noComp ex = true := by rfl) : TrE S xs gl cn ex e :=
 ⟨p, fun n Φ G k => ⟨h n Φ G k, t n Φ G k, fun _ _ _ _ _ _ _ _ _ _ _ q => by subst q; exact nf c⟩⟩
theorem TrE.of (h : ∀ (n : Nat) (Φ : CallF), S.Good -> CallsOk S n Φ -> SE S n Φ xs gl cn ex e) (t : ∀ env, isTrue ex env (eval ex env) = (do let v <- eval ex env; standAt ex.pos; holding [v] (truthy v)) := by exact fun _ => rfl) (p : PlainE ex := by exact ⟨fun _ _ => rfl, fun _ _ => rfl, fun _ _ => rfl⟩) (c : noComp ex = true := by rfl) : TrE S xs gl cn ex e :=
 .ofT h (fun n Φ G k => st_plain (h n Φ G k) t) p c
theorem TrEs.nil : TrEs S xs gl cn [] .nil := ⟨fun _ _ => rfl, fun _ _ _ _ => ses_nil⟩
theorem TrEs.cons {r b} (h1 : TrE S xs gl cn ex e) (h2 : TrEs S xs gl cn r b) : TrEs S xs gl cn (ex :: r) (.cons e b) :=
 ⟨fun pos env => by rw [h1.1.2.1 r env]; exact congrArg _ (h2.1 pos env), fun n Φ G k => ses_cons (h1.se G k) (h2.2 n Φ G k)⟩
theorem TrA.one {pos} (h : TrE S xs gl cn ex e) : TrA S xs gl cn pos [ex] e := fun n Φ G k => ⟨sb_one (h.se G k), sbt_one_and (h.st G k)⟩
theorem TrA.more {pos e2 r b} (h : TrE S xs gl cn ex e) (h2 : TrA S xs gl cn pos (e2 :: r) b) : TrA S xs gl cn pos (ex :: e2 :: r) (.and e b) := fun n Φ G k => ⟨sb_and (h.se G k) (h2 n Φ G k).1, sbt_and (h.st G k) (h2 n Φ G k).2⟩
theorem TrO.one {pos} (h : TrE S xs gl cn ex e) : TrO S xs gl cn pos [ex] e := fun n Φ G k => ⟨sb_one (h.se G k), sbt_one_or (h.st G k)⟩
theorem TrO.more {pos e2 r b} (h : TrE S xs gl cn ex e) (h2 : TrO S xs gl cn pos (e2 :: r) b) : TrO S xs gl cn pos (ex :: e2 :: r) (.or e b) := fun n Φ G k => ⟨sb_or (h.se G k) (h2 n Φ G k).1, sbt_or (h.st G k) (h2 n Φ G k).2⟩
theorem TrE.loc {i x pos} (h1 : xs[i]? = some x) (h2 : (x == ("__debug__" : Str)) = false) (h3 : (x == ("__classdict__" : Str)) = false) : TrE S xs gl cn (.Name x pos) (.loc i) := .of fun _ _ _ _ => se_loc h1 h2 h3
theorem TrE.gint {x pos i t} (h1 : x ∈ gl) (h2 : nsIn S.K mainGlobals x = some (some (.int i t))) (h3 : (x == ("__debug__" : Str)) = false) : TrE S xs gl cn (.Name x pos) (.lit (.int i)) := .of fun _ _ G _ => se_gint G h1 h2 h3
theorem TrE.gobj {x pos k a} (h1 : x ∈ gl) (h2 : nsIn S.K mainGlobals x = some (some (.ref a))) (h3 : S.gad[k]? = some a) (h4 : (x == ("__debug__" : Str)) = false) : TrE S xs gl cn (.Name x pos) (.lit (.gref k)) := .of fun _ _ G _ => se_gobj G h1 h2 h3 h4
theorem TrE.int {i k pos} : TrE S xs gl cn (.Constant (.int i) k pos) (.lit (.int i)) := .of fun _ _ _ _ => se_int
theorem TrE.bool {b k pos} : TrE S xs gl cn (.Constant (.bool b) k pos) (.lit (.bool b)) := .of fun _ _ _ _ => se_bool
theorem TrE.none {k pos} : TrE S xs gl cn (.Constant .none k pos) (.lit .none) := .of fun _ _ _ _ => se_none
theorem TrE.bin {l op r pos o a b} (h1 : opB op = some o) (h2 : TrE S xs gl cn l a) (h3 : TrE S xs gl cn r b) : TrE S xs gl cn (.BinOp l op r pos) (.bin o a b) := .of fun n Φ G k => se_bin G h1 (h2.se G k) (h3.se G k)
theorem TrE.not {x pos a} (h1 : TrE S xs gl cn x a) : TrE S xs gl cn (.UnaryOp .Not x pos) (.not a) := .ofT (fun n Φ G k => se_not (h1.se G k)) fun n Φ G k => st_not (h1.st G k)
theorem TrE.neg {x pos a} (h1 : TrE S xs gl cn x a) : TrE S xs gl cn (.UnaryOp .USub x pos) (.neg a) := .of fun n Φ G k => se_neg (h1.se G k)
theorem TrE.inv {x pos a} (h1 : TrE S xs gl cn x a) : TrE S xs gl cn (.UnaryOp .Invert x pos) (.inv a) := .of fun n Φ G k => se_inv (h1.se G k)
theorem TrE.cmp {l op r pos o a b} (h1 : opC op = some o) (h2 : behindInMarks op r = false) (h3 : TrE S xs gl cn l a) (h4 : TrE S xs gl cn r b) : TrE S xs gl cn (.Compare l [op] [r] pos) (.cmp o a b) := .ofT (fun n Φ G k => se_cmp G h1 h2 (h3.se G k) (h4.se G k)) fun n Φ G k => st_cmp G h1 h2 (h3.se G k) (h4.se G k)
theorem TrE.chain {l op₁ op₂ r₁ r₂ pos o p a b c} (h1 : opC op₁ = some o) (h2 : opC op₂ = some p) (h3 : lastMarks [op₁, op₂] [r₁, r₂] = false) (h4 : TrE S xs gl cn l a) (h5 : TrE S xs gl cn r₁ b) (h6 : TrE S xs gl cn r₂ c) : TrE S xs gl cn (.Compare l [op₁, op₂] [r₁, r₂] pos) (.chain a o b p c) := .ofT (fun n Φ G k => se_chain G h1 h2 h3 (h4.se G k) (h5.se G k) (h6.se G k)) fun n Φ G k => st_chain G h1 h2 h3 (h4.se G k) (h5.se G k) (h6.se G k)
theorem TrE.and {vs pos e} (h1 : TrA S xs gl cn pos vs e) : TrE S xs gl cn (.BoolOp .And vs pos) e := .ofT (fun n Φ G k env A ext ρ m σ v σ' s Y H e1 => (h1 n Φ G k).1 env A ext ρ m σ v σ' s Y H e1) fun n Φ G k env A ext ρ m σ v σ' b s Y H e1 e2 => (h1 n Φ G k).2 env A ext ρ m σ v σ' b s Y H e1 e2
theorem TrE.or {vs pos e} (h1 : TrO S xs gl cn pos vs e) : TrE S xs gl cn (.BoolOp .Or vs pos) e := .ofT (fun n Φ G k env A ext ρ m σ v σ' s Y H e1 => (h1 n Φ G k).1 env A ext ρ m σ v σ' s Y H e1) fun n Φ G k env A ext ρ m σ v σ' b s Y H e1 e2 => (h1 n Φ G k).2 env A ext ρ m σ v σ' b s Y H e1 e2
theorem TrE.idx {v i pos a b} (h1 : TrE S xs gl cn v a) (h2 : TrE S xs gl cn i b) : TrE S xs gl cn (.Subscript v i pos) (.idx a b) := .of fun n Φ G k => se_idx G h2.1.1 (h1.se G k) (h2.se G k)
theorem TrE.sfrom {x p p2 l pos a b} (h1 : TrE S xs gl cn (.Name x p) a) (h2 : TrE S xs gl cn l b) : TrE S xs gl cn (.Subscript (.Name x p) (.Slice (some l) .none .none p2) pos) (.sfrom a b) := .of fun n Φ G k => se_sfrom G (h1.se G k) (h2.se G k)
theorem TrE.sto {x p p2 l pos a b} (h1 : TrE S xs gl cn (.Name x p) a) (h2 : TrE S xs gl cn l b) : TrE S xs gl cn (.Subscript (.Name x p) (.Slice .none (some l) .none p2) pos) (.sto a b) := .of fun n Φ G k => se_sto G (h1.se G k) (h2.se G k)
theorem TrE.attr {o y pos k a} (h1 : fieldNames[k]? = some y) (h2 : (∀ env whole, attributeBase o y env whole = whole)) (h3 : TrE S xs gl cn o a) : TrE S xs gl cn (.Attribute o y pos) (.attr a k) := .of fun n Φ G k => se_attr G h1 h2 (h3.se G k)
theorem TrE.call {x p args pos f a as} (h1 : x ∈ gl) (h2 : nsIn S.K mainGlobals x = some (some (.ref a))) (h3 : S.fad[f]? = some a) (h4 : keepIn S.K (.ref a) = true) (h5 : (x == ("__debug__" : Str)) = false) (h6 : TrEs S xs gl cn args as) : TrE S xs gl cn (.Call (.Name x p) args [] pos) (.call f as) := .of fun n Φ G k => se_call G k h1 h2 h3 h4 h5 (h6.1 pos) (h6.2 n Φ G k)
theorem TrE.blt {x p args pos f as} (h1 : x ∈ gl) (h2 : nsIn S.K mainGlobals x = some .none) (h3 : bootBuiltins x = some (fval f)) (h4 : x ≠ "__name__") (h5 : (x == ("__debug__" : Str)) = false) (h6 : TrEs S xs gl cn args as) : TrE S xs gl cn (.Call (.Name x p) args [] pos) (.blt f as) := .of fun n Φ G k => se_blt G h1 h2 h3 h4 h5 (h6.1 pos) (h6.2 n Φ G k)
theorem TrE.list {es pos as} (h1 : TrEs S xs gl cn es as) : TrE S xs gl cn (.List es pos) (.list as) := .of fun n Φ G k => se_list (h1.1 pos) (h1.2 n Φ G k)
theorem TrE.tup {es k pos as} (h1 : TrEs S xs gl cn es as) : TrE S xs gl cn (.Tuple es k pos) (.tup as) := .of fun n Φ G k => se_tup (h1.1 pos) (h1.2 n Φ G k)
theorem TrE.dict1 {x y p p2 pos i j t u} (h1 : x ∈ gl) (h2 : nsIn S.K mainGlobals x = some (some (.int i t))) (h3 : (x == ("__debug__" : Str)) = false) (h4 : y ∈ gl) (h5 : nsIn S.K mainGlobals y = some (some (.int j u))) (h6 : (y == ("__debug__" : Str)) = false) : TrE S xs gl cn (.Dict [some (.Name x p)] [.Name y p2] pos) (.dict1 (.lit (.int i)) (.lit (.int j))) := .of fun n Φ G k => se_dict1 G h1 h2 h3 h4 h5 h6
theorem TrE.append {o apos v pos a b} (h1 : (∀ env, attributeBase o "append" env (eval o env) = eval o env)) (h2 : (apos.endLine == pos.line) = true) (h3 : TrE S xs gl cn o a) (h4 : TrE S xs gl cn v b) : TrE S xs gl cn (.Call (.Attribute o "append" apos) [v] [] pos) (.append a b) := .of fun n Φ G k => se_append G h1 h2 (h4.1.2.1 []) (h3.se G k) (h4.se G k)
theorem TrE.inA {vs pos a} (h : TrE S xs gl cn (.BoolOp .And vs pos) a) : TrA S xs gl cn pos vs a := fun n Φ G k => ⟨fun env A ext ρ m σ v σ' s Y H e => h.se G k env A ext ρ m σ v σ' s Y H e, fun env A ext ρ m σ v σ' b s Y H e e2 => h.st G k env A ext ρ m σ v σ' b s Y H e e2⟩
theorem TrE.inO {vs pos a} (h : TrE S xs gl cn (.BoolOp .Or vs pos) a) : TrO S xs gl cn pos vs a := fun n Φ G k => ⟨fun env A ext ρ m σ v σ' s Y H e => h.se G k env A ext ρ m σ v σ' s Y H e, fun env A ext ρ m σ v σ' b s Y H e e2 => h.st G k env A ext ρ m σ v σ' b s Y H e e2⟩
theorem asgC {ys gl2 : List Str} {elt it : Expr} {ifs : List Expr} {cf : Frm -> Hp -> Option (V × Hp)} {scope : Scope} {y : Str} {py vp : Pos} {caps : List Nat} {a b : E} (G : S.Good)
 (ev : ∀ m σ, vE S.g Φ e m σ = b2 (vE S.g Φ b m σ) fun v σ₁ => b1 (iter S.g σ₁ v) fun ii => b1 (capsOf m caps) fun base => b1 (compLoop S.g (fun m σ => vE S.g Φ a m σ) cf base σ₁.length loopFuel ii (σ₁ ++ [.list []])) fun σ₃ => some (.ref σ₁.length, σ₃))
 (h1 : scope.kind = .function) (h2 : ∀ z ∈ scope.names, z.2 = .local -> scope.names.lookup z.1 = some .local) (h3 : ∀ z ∈ scope.names, z.2 ≠ .cell) (h4 : scope.names.lookup y = some .local) (h6 : ∀ y ∈ ys, scope.names.lookup y = some .free /\ y ∈ cn) (h7 : ∀ z ∈ scope.names, z.2 = .free -> z.1 ∈ ys) (h8 : ∀ y ∈ gl2, scope.names.lookup y = some .globalImplicit) (h9 : caps.map (fun c => xs[c]?) = ys.map some)
 (hi : PlainE it) (i1 : SE S n Φ xs gl cn it b) (i2 : SE S n Φ (ys ++ [y]) gl2 [] elt a) (i3 : STests S n (ys ++ [y]) gl2 ifs cf) : SA S n Φ xs gl cn (.ListComp elt [⟨.Name y py, it, ifs, 0⟩] scope vp) e := by
 intro _ _ _ _ _ _ _ i x p pos q hx hxc hl hn env A ext ρ m σ fl m' σ' s he R F H e
 cases q
 refine cps fun _ zk => ?_
 refine x2_2 (b2_inv e) fun w σ₂ e0 e5 => ?_
 rw [ev] at e0
 refine x2_2 (b2_inv e0) fun v σ₁ e1 e0 => ?_
 refine x1_2 (b1_inv e0) fun ii e2 e0 => ?_
 refine x1_2 (b1_inv e0) fun base e3 e0 => ?_
 refine x1_2 (b1_inv e0) fun σ₃ e4 e0 => ?_
 refine zk ?_; clear zk
 cases e0
 refine x1_2 (b1_inv e5) fun m₁ e6 e5 => ?_
 cases e5
 exact use_core G hx hxc hl hn hi.2.2 h1 h2 h3 h4 h6 h7 h8 h9 i1 i2 i3 he R F H e1 e2 e3 e4 e6
theorem TrE.comp {ys gl2 caps elt x px it ifs scope pos a b} (h0 : ifs = []) (h1 : scope.kind = .function) (h2 : ∀ z ∈ scope.names, z.2 = .local -> scope.names.lookup z.1 = some .local) (h3 : ∀ z ∈ scope.names, z.2 ≠ .cell) (h4 : scope.names.lookup x = some .local) (h5 : x ∉ ys) (h6 : ∀ y ∈ ys, scope.names.lookup y = some .free /\ y ∈ cn) (h7 : ∀ z ∈ scope.names, z.2 = .free -> z.1 ∈ ys) (h8 : ∀ y ∈ gl2, scope.names.lookup y = some .globalImplicit)
 (h9 : caps.map (fun c => xs[c]?) = ys.map some) (hi : TrE S xs gl cn it b) (hb : TrE S (ys ++ [x]) gl2 [] elt a) : TrE S xs gl cn (.ListComp elt [⟨.Name x px, it, ifs, 0⟩] scope pos) (.comp caps a b) := by
 subst h0
 refine ⟨⟨fun _ _ => rfl, fun _ _ => rfl, fun _ _ => rfl⟩, fun n Φ G k => ?_⟩
 have q := se_comp (px := px) (pos := pos) G hi.1.2.2 h1 h2 h3 h4 h6 h7 h8 h9 (hi.se G k) (hb.se G k)
 exact ⟨q, st_plain q fun _ => rfl, asgC G (fun _ _ => rfl) h1 h2 h3 h4 h6 h7 h8 h9 hi.1 (hi.se G k) (hb.se G k) stests_nil⟩
theorem TrE.compIf {ys gl2 caps elt x px it cd scope pos a b c} (h1 : scope.kind = .function) (h2 : ∀ z ∈ scope.names, z.2 = .local -> scope.names.lookup z.1 = some .local) (h3 : ∀ z ∈ scope.names, z.2 ≠ .cell) (h4 : scope.names.lookup x = some .local) (h5 : x ∉ ys) (h6 : ∀ y ∈ ys, scope.names.lookup y = some .free /\ y ∈ cn) (h7 : ∀ z ∈ scope.names, z.2 = .free -> z.1 ∈ ys) (h8 : ∀ y ∈ gl2, scope.names.lookup y = some .globalImplicit)
 (h9 : caps.map (fun c => xs[c]?) = ys.map some) (hi : TrE S xs gl cn it b) (hb : TrE S (ys ++ [x]) gl2 [] elt a) (hc : TrE S (ys ++ [x]) gl2 [] cd c) : TrE S xs gl cn (.ListComp elt [⟨.Name x px, it, [cd], 0⟩] scope pos) (.compIf caps a b c) := by
 refine ⟨⟨fun _ _ => rfl, fun _ _ => rfl, fun _ _ => rfl⟩, fun n Φ G k => ?_⟩
 have q := se_compIf (px := px) (pos := pos) G hi.1.2.2 h1 h2 h3 h4 h6 h7 h8 h9 (hi.se G k) (hb.se G k) (hc.st G k)
 exact ⟨q, st_plain q fun _ => rfl, asgC G (fun _ _ => rfl) h1 h2 h3 h4 h6 h7 h8 h9 hi.1 (hi.se G k) (hb.se G k) (stests_one (hc.st G k))⟩
noncomputable def TrS (S : St) (xs gl cn : List Str) (st : Stmt) (t : Mine.S) : Prop := ∀ (n : Nat) (Φ : CallF), S.Good -> CallsOk S n Φ -> SS S n Φ xs gl cn st t
noncomputable def TrSs (S : St) (xs gl cn : List Str) (st : List Stmt) (t : Ss) : Prop := ∀ (n : Nat) (Φ : CallF), S.Good -> CallsOk S n Φ -> SSs S n Φ xs gl cn st t
theorem TrS.asg {i x p e pos a} (h1 : xs[i]? = some x) (h2 : ∀ env, swapsWith e (some (.Name x p)) pos.line env = pure false) (h3 : TrE S xs gl cn e a) : TrS S xs gl cn (.Assign [.Name x p] e pos) (.asg i a) := fun n Φ G k => ss_asg h1 h2 (h3.se G k)
theorem TrS.asgComp {i x p elt y py it ifs scope vp pos a} (h1 : xs[i]? = some x) (h2 : x ∉ cn) (h3 : (p.line == vp.line) = true) (h4 : (scope.names.any fun nk => nk.1 == x && (nk.2 == .local || nk.2 == .cell)) = false)
 (h : TrE S xs gl cn (.ListComp elt [⟨.Name y py, it, ifs, 0⟩] scope vp) a) : TrS S xs gl cn (.Assign [.Name x p] (.ListComp elt [⟨.Name y py, it, ifs, 0⟩] scope vp) pos) (.asg i a) := fun n Φ G k => (h.2 n Φ G k).2.2 _ _ _ _ _ _ _ _ _ _ _ rfl h1 h2 h3 h4
theorem TrS.unpack {is elts k tp e pos a} (h1 : Tgts xs elts is) (h2 : ∀ env, swapsWithSole [.Tuple elts k tp] e pos.line env = pure false) (h3 : ∀ env, swappedStores [.Tuple elts k tp] e env = pure none) (h4 : TrE S xs gl cn e a) : TrS S xs gl cn (.Assign [.Tuple elts k tp] e pos) (.unpack is a) := fun n Φ G k => ss_unpack G h1 h2 h3 (h4.se G k)
theorem TrS.setIdx {o i tp e pos a b v} (h1 : ∀ env, swapsWith e (some (.Subscript o i tp)) pos.line env = pure false) (h2 : TrE S xs gl cn o a) (h3 : TrE S xs gl cn i b) (h4 : TrE S xs gl cn e v) : TrS S xs gl cn (.Assign [.Subscript o i tp] e pos) (.setIdx a b v) := fun n Φ G k => ss_setIdx h1 (h2.se G k) (h3.se G k) (h4.se G k)
theorem TrS.setAttr {o y tp e pos k a v} (h1 : fieldNames[k]? = some y) (h2 : ∀ env, swapsWithSole [.Attribute o y tp] e pos.line env = pure false) (h3 : ∀ env, swappedStores [.Attribute o y tp] e env = pure none) (h4 : TrE S xs gl cn o a) (h5 : TrE S xs gl cn e v) :
 TrS S xs gl cn (.Assign [.Attribute o y tp] e pos) (.setAttr a k v) := fun n Φ G k => ss_setAttr G h1 h2 h3 (h4.se G k) (h5.se G k)
theorem TrS.augLoc {i x p op o e pos a} (h1 : xs[i]? = some x) (h2 : opB op = some o) (h3 : (x == ("__debug__" : Str)) = false) (h4 : (x == ("__classdict__" : Str)) = false) (h5 : TrE S xs gl cn e a) : TrS S xs gl cn (.AugAssign (.Name x p) op e pos) (.augLoc i o a) := fun n Φ G k => ss_augLoc h1 h2 h3 h4 (h5.se G k)
theorem TrS.augIdx {o i tp op o' e pos a b v} (h1 : opB op = some o') (h2 : ∀ ov iv new, augStore i ov iv new = (do holding [new, ov, iv] (PySem.setItem ov iv new); release [new, ov, iv] []; pure .next)) (h3 : TrE S xs gl cn o a) (h4 : TrE S xs gl cn i b) (h5 : TrE S xs gl cn e v) :
 TrS S xs gl cn (.AugAssign (.Subscript o i tp) op e pos) (.augIdx a b o' v) := fun n Φ G k => ss_augIdx G h1 h2 (h3.se G k) (h4.se G k) (h5.se G k)
theorem TrS.expr {e pos a} (h1 : ∀ env, swapsWith e none pos.line env = pure false) (h2 : TrE S xs gl cn e a) : TrS S xs gl cn (.Expr e pos) (.expr a) := fun n Φ G k => ss_expr h1 (h2.se G k)
theorem TrS.ife {c t f pos a b d} (h1 : TrE S xs gl cn c a) (h2 : TrSs S xs gl cn t b) (h3 : TrSs S xs gl cn f d) : TrS S xs gl cn (.If c t f pos) (.ife a b d) := fun n Φ G k => ss_ife (h1.st G k) (h2 n Φ G k) (h3 n Φ G k)
theorem TrS.for_ {i x p it b pos a d} (h1 : xs[i]? = some x) (h2 : TrE S xs gl cn it a) (h3 : TrSs S xs gl cn b d) : TrS S xs gl cn (.For (.Name x p) it b [] pos) (.for_ i a d) := fun n Φ G k => ss_for G h1 h2.1.2.2 (h2.se G k) (h3 n Φ G k)
theorem TrS.forT {is elts k tp it b pos a d} (h1 : Tgts xs elts is) (h2 : TrE S xs gl cn it a) (h3 : TrSs S xs gl cn b d) : TrS S xs gl cn (.For (.Tuple elts k tp) it b [] pos) (.forT is a d) := fun n Φ G k => ss_forT G h1 h2.1.2.2 (h2.se G k) (h3 n Φ G k)
theorem TrS.while {c b pos a d} (h1 : TrE S xs gl cn c a) (h2 : TrSs S xs gl cn b d) : TrS S xs gl cn (.While c b [] pos) (.while a d) := fun n Φ G k => ss_while (h1.st G k) (h2 n Φ G k)
theorem TrS.ret {e pos a} (h1 : TrE S xs gl cn e a) : TrS S xs gl cn (.Return (some e) pos) (.ret a) := fun n Φ G k => ss_retS (h1.se G k)
theorem TrS.cont {pos} : TrS S xs gl cn (.Continue pos) .cont := fun n Φ G k => ss_cont
theorem TrS.stuck {st} : TrS S xs gl cn st .stuck := fun n Φ G k env A ext ρ m σ fl m' σ' s he R F H e => by exact nn e
theorem soundS {st t} (G : S.Good) (k : CallsOk S n Φ) (h : TrSs S xs gl cn st t) : SSs S n Φ xs gl cn st t := h n Φ G k
theorem TrSs.nil : TrSs S xs gl cn [] .nil := fun n Φ G k => sss_nil
theorem TrSs.cons {s r a b} (h1 : TrS S xs gl cn s a) (h2 : TrSs S xs gl cn r b) : TrSs S xs gl cn (s :: r) (.cons a b) := fun n Φ G k => sss_cons (h1 n Φ G k) (h2 n Φ G k)
end
theorem bindL_miss {kindOf : Str -> Option NameKind} : ∀ {binds : List (Str × Value)} {m : Str -> Option Value} {y : Str}, (∀ p ∈ binds, p.1 ≠ y) -> bindL kindOf binds m y = m y
 | [], _, _, _ => rfl
 | (x, v) :: r, m, y, h => by
   unfold bindL
   rw [bindL_miss fun p hp => h p (.tail _ hp)]
   have := h _ (.head _)
   split
   · exact if_neg (Ne.symm this)
   · rfl
theorem bindC_miss {kindOf : Str -> Option NameKind} : ∀ {binds : List (Str × Value)} {m : Str -> Option Value} {y : Str}, (∀ p ∈ binds, p.1 ≠ y) -> bindC kindOf binds m y = m y
 | [], _, _, _ => rfl
 | (x, v) :: r, m, y, h => by
   unfold bindC
   rw [bindC_miss fun p hp => h p (.tail _ hp)]
   have := h _ (.head _)
   split
   · rfl
   · exact if_neg (Ne.symm this)
theorem bindL_hit {kindOf : Str -> Option NameKind} : ∀ {binds : List (Str × Value)} {m : Str -> Option Value} {y : Str} {v : Value} {i : Nat}, (binds.map (·.1)).Nodup -> binds[i]? = some (y, v) -> kindOf y = some .local -> bindL kindOf binds m y = some v
 | (x, w) :: r, m, y, v, 0, hn, e, hk => by
   cases e
   rw [List.map_cons, List.nodup_cons] at hn
   unfold bindL
   rw [bindL_miss (y := x) fun p hp (q : p.1 = x) => hn.1 (List.mem_map.mpr (i1_2 p hp q)), if_pos hk]
   exact if_pos rfl
 | (x, w) :: r, m, y, v, i + 1, hn, e, hk => by
   rw [List.map_cons, List.nodup_cons] at hn
   unfold bindL
   exact bindL_hit hn.2 (i := i) e hk
theorem bindC_hit {kindOf : Str -> Option NameKind} : ∀ {binds : List (Str × Value)} {m : Str -> Option Value} {y : Str} {v : Value} {i : Nat}, (binds.map (·.1)).Nodup -> binds[i]? = some (y, v) -> kindOf y = some .cell -> bindC kindOf binds m y = some v
 | (x, w) :: r, m, y, v, 0, hn, e, hk => by
   cases e
   rw [List.map_cons, List.nodup_cons] at hn
   unfold bindC
   rw [bindC_miss (y := x) fun p hp (q : p.1 = x) => hn.1 (List.mem_map.mpr (i1_2 p hp q)), if_neg (by rw [hk]; decide)]
   exact if_pos rfl
 | (x, w) :: r, m, y, v, i + 1, hn, e, hk => by
   rw [List.map_cons, List.nodup_cons] at hn
   unfold bindC
   exact bindC_hit hn.2 (i := i) e hk
structure FnOk (S : St) (f : Fn) (a : Addr) : Prop where
 is : ∃ xs gl cn oc od osl name qual params body scope dV kV doc pm an cdv ct, S.K.lookup a = some ⟨oc, od, .func (fnOf name qual params body scope dV kV doc pm an cdv ct), osl⟩ /\ codeIn S.K cdv qual = true /\ TrSs S xs gl cn body f.body /\
  scope.kind = .function /\ scope.isCoroutine = false /\ scope.isGenerator = false /\ xs.length = f.nloc /\ f.nargs <= f.nloc /\ xs.Nodup /\ (∀ x ∈ xs, (x ∈ cn /\ scope.names.lookup x = some .cell) \/ (x ∉ cn /\ scope.names.lookup x = some .local)) /\
  (∀ x ∈ gl, scope.names.lookup x = some .globalImplicit) /\ (∀ x ∈ cn, scope.names.lookup x = some .cell) /\
  ∀ vals : List Value, vals.length = f.nargs -> bindArgs (fnOf name qual params body scope dV kV doc pm an cdv ct) ⟨vals, []⟩ = pure ((xs.take f.nargs).zip vals)
section
variable {S : St} {n : Nat} {Φ : CallF}
theorem call_snd (G : S.Good) {f : Fn} {a : Addr} (ok : FnOk S f a) (hΦ : CallsOk S n Φ) {args : List V} {σ σ' : Hp} {v : V} {A : Around} {ext : List (Addr × Obj)} {ρ : List Addr} {s : Shared} {vals : List Value}
 (e : runFn S.g Φ f args σ = some (v, σ')) (R : Room (n + 1) A ext) (H : S.HR ext ρ σ s.heap) (r : S.VRs ρ args vals) :
 codeAny S.M A (.call (.ref a) ⟨vals, []⟩) (fun r s' => match r with | .ok (.ret u) => Res S s ext ρ σ' v u s' | _ => False) s := by
 refine cps fun _ zk => ?_
 refine x9_1 (ok.is) fun xs gl cn oc od osl name qual params y1 => ?_
 refine x9_1 y1 fun body scope dV kV doc pm an cdv ct zq => x0_13 zq fun hl hcd htr hkind hco hgen hxs hle hnd hkinds hgl hcn hbind => ?_
 unfold runFn at e
 refine zk ?_; clear zk
 split at e
 · rename_i hargs
   refine x3_2 (b3_inv e) fun fl m' σ₁ e1 e2 => ?_
   have hvl : vals.length = f.nargs := by rw [<- r.length]; exact hargs
   have htl : (xs.take f.nargs).length = f.nargs := by rw [List.length_take]; lia
   have hzip : ((xs.take f.nargs).zip vals).map (·.1) = xs.take f.nargs := List.map_fst_zip (by lia)
   have hzn : (((xs.take f.nargs).zip vals).map (·.1)).Nodup := by rw [hzip]; exact hnd.sublist (List.take_sublist ..)
   have X := G.X.keeps H.keep
   refine codeAny_call_cells (fd := fnOf name qual params body scope dV kV doc pm an cdv ct) (body := body) (binds := (xs.take f.nargs).zip vals) (by have := R.depth; lia) (X _ _ hl) rfl (G.T.nolimit.keeps H.keep) (codeRec_of X hcd) rfl (hbind vals hvl) rfl (fun x hx => ?_) (fun s₁ hs₁ => ?_) hco hgen hkind
   · have hm : x.1 ∈ xs := List.mem_of_mem_take (by rw [<- hzip]; exact List.mem_map_of_mem hx)
     rcases hkinds x.1 hm with ⟨_, h⟩ | ⟨_, h⟩
     · exact .inr ⟨h, cellsFrom_some _ _ _ (.inl h)⟩
     · exact .inl h
   · refine x2_2 (hs₁.done) fun h₁ tk y2 hk₁ => ?_
     subst y2
     have hL := HR.apart H (Nat.le_refl _)
     have hns := hs₁.toInCall.ns
     have hsz : S.h₀.objs.size <= h₁.objs.size := by
      refine x3_2 hns fun o _ _ z _ => ?_
      clear hns
      exact Nat.le_trans H.size (Nat.le_of_lt (Heap.lt_size z))
     have H₁ : S.HR ext ρ σ h₁ := H.keeps hk₁ hsz
     have slot : ∀ (i : Nat) (x : Str) (u : V), xs[i]? = some x -> (args.map some ++ List.replicate (f.nloc - f.nargs) none)[i]? = some (some u) -> ∃ w, ((xs.take f.nargs).zip vals)[i]? = some (x, w) /\ S.VR ρ u w := by
      intro i x u e1 e2
      by_cases hi : i < args.length
      · rw [List.getElem?_append_left (by simpa using hi), List.getElem?_map, Option.map_eq_some_iff] at e2
        refine x1_2 e2 fun u' _ q => ?_
        clear e2; rename_i e2
        refine so1 q ?_
        refine x1_2 (r.at_ e2) fun w q1 q2 => ?_
        refine i1_2 w ?_ q2
        rw [List.getElem?_zip_eq_some]
        exact ⟨by rw [List.getElem?_take, if_pos (by lia)]; exact e1, q1⟩
      · rw [List.getElem?_append_right (by simpa using Nat.le_of_not_lt hi)] at e2
        have := List.mem_of_getElem? e2
        rw [List.mem_replicate] at this
        exact nn' (this.2)
     have he : EnvOk (callEnvC (fnOf name qual params body scope dV kV doc pm an cdv ct) s.heap.objs.size a) gl cn := ⟨hkind, rfl, rfl, hgl, hcn⟩
     have F : FS S (callEnvC (fnOf name qual params body scope dV kV doc pm an cdv ct) s.heap.objs.size a) xs cn (args.map some ++ List.replicate (f.nloc - f.nargs) none) ρ ext h₁ := by
      refine ⟨by simp [hargs, hxs]; lia, hnd, hkinds, hL, ?_, fun i x hx hk => ?_, fun x y c hx hy hc1 hc2 => name_of_addr hs₁.apart (PySem.mem_of_lookup hc1) (PySem.mem_of_lookup hc2)⟩
      · refine x3_4 hns fun o es ep z1 z2 z3 z4 => ?_
        clear hns
        refine i3_4 o es ep z1 z2 z3 (fun i x u e1 hk e2 => ?_)
        refine x1_2 (slot i x u e1 e2) fun w q1 q2 => ?_
        exact ⟨w, by rw [z4]; exact bindL_hit hzn q1 hk, q2⟩
      · obtain ⟨c, hc⟩ := Option.isSome_iff_exists.mp (cellsFrom_some (x := x) scope.names (s.heap.objs.size + 1) [] (.inl hk))
        have hab := hs₁.above x c (PySem.mem_of_lookup hc)
        have hge : s.heap.objs.size <= c := Nat.le_of_lt hab
        refine i2_5 c _ hc (HR.apart H hge) (Nat.ne_of_gt hab) (hs₁.cell x c hc) (fun u e2 => ?_)
        refine x1_2 (slot i x u hx e2) fun w q1 q2 => ?_
        exact i1_2 w (bindC_hit hzn q1 hk) q2
     have RS : RoomS n (A.deeper (callEnvC (fnOf name qual params body scope dV kV doc pm an cdv ct) s.heap.objs.size a)) ext (callEnvC (fnOf name qual params body scope dV kV doc pm an cdv ct) s.heap.objs.size a) := by
      refine x1_2 (R.frames) fun l z1 z2 => ?_
      exact ⟨R.hd, by have := R.depth; show A.depth + 1 + n < recursionLimit; lia, by have := R.units; show A.units + 3 + 8 * n + 100 < cLine; lia, i1_2 l (by show A.frames.map _ = _; rw [z1]; rfl) z2, rfl⟩
     refine wpAny_mono (soundS G hΦ htr _ _ ext ρ _ σ fl m' σ₁ { s with heap := h₁, toks := tk } he RS F H₁ e1) (fun fo s' q => ?_) fun _ _ q => q.elim
     refine x3_5 q fun ρ' h' t' p' zz1 H' F' r' => ?_
     clear q
     subst zz1
     cases fl with
     | next => cases r'; cases e2; exact i3_4 ρ' h' t' p' rfl H' rfl
     | cont => exact nn e2
     | ret w =>
       refine x1_2 r' fun u zz2 ru => ?_
       clear r'
       subst zz2
       cases e2
       exact i3_4 ρ' h' t' p' rfl H' ru
 · exact nn e
end
noncomputable def CallOkAt (S : St) (n : Nat) (Φ : CallF) (f : Nat) : Prop := ∀ (args : List V) (σ : Hp) (v : V) (σ' : Hp) (a : Addr) (A : Around) (ext : List (Addr × Obj)) (ρ : List Addr) (s : Shared) (vals : List Value),
 Φ f args σ = some (v, σ') -> S.fad[f]? = some a -> Room n A ext -> ext ≠ [] -> S.HR ext ρ σ s.heap -> S.VRs ρ args vals -> wpAny S.M A (call (.ref a) vals) (Res S s ext ρ σ' v) Nope s
structure ProgOk (S : St) : Prop where
 fns : ∀ (f : Nat) (fn : Fn) (a : Addr), fnOfId f = some fn -> S.fad[f]? = some a -> FnOk S fn a
 init : S.fad[37]? = some 62
 geo : S.fad[38]? = some geoCls
 makes : makesIn S.K geoCls = true
 inits : findIn S.K (.ref geoCls) "__init__" = some (some (.ref 62))
 isFn : typeIn S.K (.ref 62) = some (.type "function")
 refused : ∀ n, CallOkAt S (n + 1) (fun _ args σ => if 4 <= n then refused S.g args σ else none) 39
 unbuilt : ∀ n, CallOkAt S (n + 1) (fun _ args σ => if 4 <= n then unbuilt args σ else none) 40
section
variable {S : St}
theorem codeToCall {A : Around} {f : Value} {vals : List Value} {s : Shared} {Q : Value -> Shared -> Prop} (h : codeAny S.M A (.call f ⟨vals, []⟩) (fun r s' => match r with | .ok (.ret u) => Q u s' | _ => False) s) : wpAny S.M A (call f vals) Q Nope s :=
 wpAny_call (codeAny_mono h fun r s' q => by
  cases r with
  | error e => exact q
  | ok f => cases f <;> exact q)
theorem phi_fn {n : Nat} {f : Nat} {fn : Fn} (h : fnOfId f = some fn) (args : List V) (σ : Hp) : Phi S.g (n + 1) f args σ = runFn S.g (Phi S.g n) fn args σ := by
 conv => lhs; unfold Phi
 split
 · exact nn h
 · exact nn h
 · exact nn h
 · rw [h]
theorem phi_none {n : Nat} {f : Nat} (h : fnOfId f = none) (h1 : f ≠ 38) (h2 : f ≠ 39) (h3 : f ≠ 40) (args : List V) (σ : Hp) : Phi S.g (n + 1) f args σ = none := by
 conv => lhs; unfold Phi
 split
 · exact absurd rfl h1
 · exact absurd rfl h2
 · exact absurd rfl h3
 · rw [h]
theorem geo_snd (G : S.Good) (P : ProgOk S) {n : Nat} (hΦ : CallsOk S n (Phi S.g n)) : CallOkAt S (n + 2) (fun _ args σ => b2 (Phi S.g (n + 1) 37 (.ref (σ.length + 1) :: args) (σ ++ [.ns [], .inst σ.length])) fun v σ' => b1 (asNone v) fun _ => some (.ref (σ.length + 1), σ')) 38 := by
 intro args σ v σ' a A ext ρ s vals e ha R hne H r
 rw [P.geo] at ha
 refine so1 ha ?_
 refine cps fun _ zk => ?_
 refine x2_2 (b2_inv e) fun w σ₁ e1 e2 => ?_
 refine x1_2 (b1_inv e2) fun _ e3 e4 => ?_
 have q := asNone_inv e3
 refine zk ?_; clear zk
 subst q
 cases e4
 have X := G.X.keeps H.keep
 refine codeToCall ?_
 obtain ⟨h, g, d, t, os⟩ := s
 refine make_core (makes_of X P.makes) (looks_findIn X P.inits) (fun self => bind_fn X self P.isFn) (.inl rfl) ?_
 have H₁ : S.HR ext (ρ ++ [h.objs.size]) (σ ++ [.ns []]) (h.push emptyDict) := HR.allocPush H (o := .ns []) (ob := emptyDict) ⟨[], 0, rfl, rfl⟩
 have z1 : (h.push emptyDict).objs.size = h.objs.size + 1 := Heap.size_push ..
 have H₂ : S.HR ext (ρ ++ [h.objs.size] ++ [(h.push emptyDict).objs.size]) (σ ++ [.ns []] ++ [.inst σ.length]) ((h.push emptyDict).push (instObj geoCls h.objs.size)) :=
  HR.allocPush H₁ (o := .inst σ.length) ⟨h.objs.size, by rw [<- H.len]; simp, rfl⟩
 rw [z1] at H₂
 have hp : ρ <+: ρ ++ [h.objs.size] ++ [h.objs.size + 1] := (pfa ..).trans (pfa ..)
 have hx : (ρ ++ [h.objs.size] ++ [h.objs.size + 1])[σ.length + 1]? = some (h.objs.size + 1) := by
  rw [<- H.len, List.getElem?_append_right (by simp)]; simp
 have hl : σ ++ [.ns [], .inst σ.length] = σ ++ [.ns []] ++ [.inst σ.length] := by simp
 rw [hl] at e1
 rw [phi_fn (f := 37) rfl] at e1
 have R' : Room (n + 1) (A.under (.builtin "type.__call__" ⟨.ref geoCls :: vals, []⟩)) ext := by
  refine x1_2 (R.frames) fun l f1 f2 => ?_
  refine ⟨R.hd, ?_, ?_, l, ?_, f2⟩
  · have := R.depth; show A.depth + 1 + (n + 1) < recursionLimit; lia
  · have := R.units
    show A.units + Code.cUnits (.builtin "type.__call__" ⟨.ref geoCls :: vals, []⟩) + 8 * (n + 1) + 100 < cLine
    have : Code.cUnits (.builtin "type.__call__" ⟨.ref geoCls :: vals, []⟩) = 1 := rfl
    lia
  · rw [show (A.under (.builtin "type.__call__" ⟨.ref geoCls :: vals, []⟩)).frames = A.frames from rfl]
    exact f1
 refine codeAny_mono (call_snd (s := ⟨(h.push emptyDict).push (instObj geoCls h.objs.size), g, d, t, os⟩) G (P.fns 37 _ 62 rfl P.init) hΦ e1 R' H₂ ⟨_, _, rfl, ⟨_, hx, rfl⟩, r.mono hp⟩) fun r s' q => ?_
 cases r with
 | error e => exact q.elim
 | ok f => cases f with
   | ret u =>
     refine x3_4 q fun ρ' h' t' p' zz1 H' zz2 => ?_
     clear q
     subst zz1
     subst zz2
     exact ⟨rfl, ρ', h', t', hp.trans p', rfl, H', _, getElem?_mono p' hx, rfl⟩
   | _ => exact q.elim
theorem soundPhi (G : S.Good) (P : ProgOk S) : ∀ n, CallsOk S n (Phi S.g n) := by
 have key : ∀ n, CallsOk S n (Phi S.g n) /\ CallsOk S (n + 1) (Phi S.g (n + 1)) := by
  intro n
  induction n with
  | zero =>
    have h0 : CallsOk S 0 (Phi S.g 0) := fun f args σ v σ' a A ext ρ s vals e => by exact nn e
    refine ⟨h0, fun f args σ v σ' a A ext ρ s vals e ha R hne H r => ?_⟩
    by_cases h1 : f = 38
    · subst h1
      have e' : b2 (Phi S.g 0 37 (.ref (σ.length + 1) :: args) (σ ++ [.ns [], .inst σ.length])) (fun v σ' => b1 (asNone v) fun _ => some (.ref (σ.length + 1), σ')) = some (v, σ') := e
      refine x2_2 (b2_inv e') fun _ _ e1 _ => ?_
      exact nn e1
    by_cases h2 : f = 39
    · subst h2
      exact P.refused 0 args σ v σ' a A ext ρ s vals e ha R hne H r
    by_cases h3 : f = 40
    · subst h3
      exact P.unbuilt 0 args σ v σ' a A ext ρ s vals e ha R hne H r
    cases hf : fnOfId f with
    | none => rw [phi_none hf h1 h2 h3] at e; exact nn e
    | some fn =>
      rw [phi_fn hf] at e
      exact codeToCall (call_snd G (P.fns f fn a hf ha) h0 e R H r)
  | succ n ih =>
    refine ⟨ih.2, fun f args σ v σ' a A ext ρ s vals e ha R hne H r => ?_⟩
    by_cases h1 : f = 38
    · subst h1
      exact geo_snd G P ih.1 args σ v σ' a A ext ρ s vals e ha R hne H r
    by_cases h2 : f = 39
    · subst h2
      exact P.refused (n + 1) args σ v σ' a A ext ρ s vals e ha R hne H r
    by_cases h3 : f = 40
    · subst h3
      exact P.unbuilt (n + 1) args σ v σ' a A ext ρ s vals e ha R hne H r
    cases hf : fnOfId f with
    | none => rw [phi_none hf h1 h2 h3] at e; exact nn e
    | some fn =>
      rw [phi_fn hf] at e
      exact codeToCall (call_snd G (P.fns f fn a hf ha) ih.2 e R H r)
 exact fun n => (key n).1
end
noncomputable def fadL : List Addr := [76, 83, 90, 97, 104, 111, 118, 125, 132, 139, 146, 153, 160, 167, 172, 179, 186, 193, 200, 207, 214, 221, 228, 235, 260, 267, 274, 281, 288, 295, 302, 309, 316, 321, 326, 331, 350, 62, 65, 338, 345]
noncomputable def gadC : List Addr := [47, 48, 244, 253, 236, 237, 238, 239, 240, 241, 242, 243, 245, 246, 247, 248, 249, 250, 251, 252]
noncomputable def gE (s : String) (v : Option Value) : Str × Option Value := (Str.ofString s, v)
noncomputable def gTab : List (Str × Option Value) :=
 gE "is_growing" (some (Value.ref 76)) :: gE "add_masks" (some (Value.ref 83)) :: gE "inner_squares" (some (Value.ref 90)) :: gE "add_rays" (some (Value.ref 97)) :: gE "add_pawns" (some (Value.ref 104)) :: gE "add_knights" (some (Value.ref 111)) ::
 gE "add_castles" (some (Value.ref 118)) :: gE "make_geometry" (some (Value.ref 125)) :: gE "ray_attacks" (some (Value.ref 132)) :: gE "rook_attacks" (some (Value.ref 139)) :: gE "bishop_attacks" (some (Value.ref 146)) :: gE "queen_attacks" (some (Value.ref 153)) ::
 gE "slider_attacks" (some (Value.ref 160)) :: gE "piece_attacks" (some (Value.ref 167)) :: gE "solve" (some (Value.ref 172)) :: gE "index_of" (some (Value.ref 179)) :: gE "parts_of" (some (Value.ref 186)) :: gE "mark_places" (some (Value.ref 193)) ::
 gE "weak_moves" (some (Value.ref 200)) :: gE "strong_moves" (some (Value.ref 207)) :: gE "moves_at" (some (Value.ref 214)) :: gE "build_zone" (some (Value.ref 221)) :: gE "build_table" (some (Value.ref 228)) :: gE "probe" (some (Value.ref 235)) ::
 gE "_law_shapes" (some (Value.ref 260)) :: gE "_law_take" (some (Value.ref 267)) :: gE "_law_met" (some (Value.ref 274)) :: gE "_law_hits" (some (Value.ref 281)) :: gE "_law_close" (some (Value.ref 288)) :: gE "_law_stands" (some (Value.ref 295)) ::
 gE "_law_moves" (some (Value.ref 302)) :: gE "_law_word" (some (Value.ref 309)) :: gE "_law_mated" (some (Value.ref 316)) :: gE "_law_want" (some (Value.ref 321)) :: gE "_law_right" (some (Value.ref 326)) :: gE "_law_drawn" (some (Value.ref 331)) ::
 gE "law" (some (Value.ref 350)) :: gE "Geometry" (some (Value.ref 65)) :: gE "_law_refused" (some (Value.ref 338)) :: gE "_law_unbuilt" (some (Value.ref 345)) :: gE "STEP_FILES" (some (Value.ref 47)) :: gE "STEP_RANKS" (some (Value.ref 48)) ::
 gE "_law_ways" (some (Value.ref 244)) :: gE "_law_leaps" (some (Value.ref 253)) :: gE "WHITE" (some (Value.int 0 234)) :: gE "PAWN" (some (Value.int 1 236)) :: gE "KNIGHT" (some (Value.int 2 238)) :: gE "BISHOP" (some (Value.int 3 240)) ::
 gE "ROOK" (some (Value.int 4 242)) :: gE "QUEEN" (some (Value.int 5 244)) :: gE "KING" (some (Value.int 6 246)) :: gE "NOT_A_PLACE" (some (Value.int (-2) 479)) :: gE "NO_MATE" (some (Value.int (-1) 482)) :: gE "OUTSIDE" (some (Value.int (-1) 485)) ::
 gE "STRONG_MOVES" (some (Value.int 0 487)) :: gE "WEAK_MOVES" (some (Value.int 1 489)) :: gE "abs" .none :: gE "len" .none :: gE "list" .none :: gE "max" .none ::
 gE "min" .none :: gE "range" .none :: gE "sum" .none :: []
theorem gTab_eq (P : Params) : gTab.map (fun p => nsIn (K P) mainGlobals p.1) = gTab.map fun p => some p.2 := by kernel_rfl
theorem kp_eq (P : Params) : fadL.map (fun a => keepIn (K P) (.ref a)) = fadL.map fun _ => true := by kernel_rfl
noncomputable def bTab : List (Str × F) := [("abs", .abs), ("len", .len), ("list", .list), ("max", .max), ("min", .min), ("range", .range), ("sum", .sum)]
theorem bTab_eq : bTab.map (fun p => bootBuiltins p.1) = bTab.map fun p => some (fval p.2) := by kernel_rfl
theorem bTab_ne : (bTab.all fun p => p.1 != ("__name__" : Str)) = true := by kernel_rfl
theorem lookup_mem {α β : Type} [BEq α] [LawfulBEq α] {x : α} {v : β} : ∀ {l : List (α × β)}, l.lookup x = some v -> (x, v) ∈ l
 | (y, w) :: r, h => by
   rw [List.lookup_cons] at h
   split at h
   · rename_i q
     refine so1 h ?_
     rw [eq_of_beq q]; exact .head _
   · exact .tail _ (lookup_mem h)
theorem map_at {α β : Type} {f g : α -> β} : ∀ {l : List α}, l.map f = l.map g -> ∀ a ∈ l, f a = g a
 | x :: r, h, a, ha => by
   rw [List.map_cons, List.map_cons] at h
   injection h with h1 h2
   cases ha with
   | head => exact h1
   | tail _ ha => exact map_at h2 a ha
theorem gTab_ok (P : Params) {x : Str} {v : Option Value} (h : gTab.lookup x = some v) : nsIn (K P) mainGlobals x = some v := map_at (gTab_eq P) _ (lookup_mem h)
theorem kp_ok (P : Params) {a : Addr} (h : a ∈ fadL) : keepIn (K P) (.ref a) = true := map_at (kp_eq P) a h
theorem bTab_ok {x : Str} {f : F} (h : bTab.lookup x = some f) : bootBuiltins x = some (fval f) /\ x ≠ "__name__" := ⟨map_at bTab_eq _ (lookup_mem h), by simpa using List.all_eq_true.mp bTab_ne _ (lookup_mem h)⟩
section
variable (P : Params)
theorem gl_len : nsIn (K P) mainGlobals "len" = some none := gTab_ok P (by kernel_rfl)
theorem gl_KNIGHT : nsIn (K P) mainGlobals "KNIGHT" = some (some (.int 2 238)) := gTab_ok P (by kernel_rfl)
theorem gl_QUEEN : nsIn (K P) mainGlobals "QUEEN" = some (some (.int 5 244)) := gTab_ok P (by kernel_rfl)
theorem gl_STRONG_MOVES : nsIn (K P) mainGlobals "STRONG_MOVES" = some (some (.int 0 487)) := gTab_ok P (by kernel_rfl)
theorem gl_WEAK_MOVES : nsIn (K P) mainGlobals "WEAK_MOVES" = some (some (.int 1 489)) := gTab_ok P (by kernel_rfl)
theorem gl_build_zone : nsIn (K P) mainGlobals "build_zone" = some (some (.ref 221)) := gTab_ok P (by kernel_rfl)
theorem gl_probe : nsIn (K P) mainGlobals "probe" = some (some (.ref 235)) := gTab_ok P (by kernel_rfl)
theorem kp_build_zone : keepIn (K P) (.ref 221) = true := kp_ok P (by decide)
theorem kp_probe : keepIn (K P) (.ref 235) = true := kp_ok P (by decide)
theorem bb_len : bootBuiltins "len" = some (fval .len) := (bTab_ok (x := "len") (by kernel_rfl)).1
end
noncomputable def gadL (sc : Addr) : List Addr := gadC ++ [sc]
noncomputable abbrev st (w : World) (p : Program) (loose : List Str) (mean : ExcName -> Option Value) (mg mb : Str -> Option Value) (h : Heap) (sc : Addr) (ns : List Int) : St where
 prog := PySem.Challenge.rw_nt0439_01.row.prog
 w := w
 gad := gadL sc
 g := gobj ns
 h₀ := h
 K := Mine.K w.params
 p := p
 loose := loose
 mean := mean
 mg := mg
 mb := mb
 fad := fadL
noncomputable def asName : (e : Expr) -> Option {t : Str × Pos // e = .Name t.1 t.2} | .Name x p => some ⟨(x, p), rfl⟩ | _ => none
noncomputable def asConst : (e : Expr) -> Option {t : Const × Nat × Pos // e = .Constant t.1 t.2.1 t.2.2} | .Constant c k p => some ⟨(c, k, p), rfl⟩ | _ => none
noncomputable def asBin : (e : Expr) -> Option {t : Expr × Operator × Expr × Pos // e = .BinOp t.1 t.2.1 t.2.2.1 t.2.2.2} | .BinOp l o r p => some ⟨(l, o, r, p), rfl⟩ | _ => none
noncomputable def asUn : (e : Expr) -> Option {t : UnaryOp × Expr × Pos // e = .UnaryOp t.1 t.2.1 t.2.2} | .UnaryOp o x p => some ⟨(o, x, p), rfl⟩ | _ => none
noncomputable def asCmp : (e : Expr) -> Option {t : Expr × List CmpOp × List Expr × Pos // e = .Compare t.1 t.2.1 t.2.2.1 t.2.2.2} | .Compare l o r p => some ⟨(l, o, r, p), rfl⟩ | _ => none
noncomputable def asBool : (e : Expr) -> Option {t : BoolOp × List Expr × Pos // e = .BoolOp t.1 t.2.1 t.2.2} | .BoolOp o vs p => some ⟨(o, vs, p), rfl⟩ | _ => none
noncomputable def asSub : (e : Expr) -> Option {t : Expr × Expr × Pos // e = .Subscript t.1 t.2.1 t.2.2} | .Subscript v i p => some ⟨(v, i, p), rfl⟩ | _ => none
noncomputable def asSlice : (e : Expr) -> Option {t : Option Expr × Option Expr × Option Expr × Pos // e = .Slice t.1 t.2.1 t.2.2.1 t.2.2.2} | .Slice a b c p => some ⟨(a, b, c, p), rfl⟩ | _ => none
noncomputable def asAttr : (e : Expr) -> Option {t : Expr × Str × Pos // e = .Attribute t.1 t.2.1 t.2.2} | .Attribute o y p => some ⟨(o, y, p), rfl⟩ | _ => none
noncomputable def asCall : (e : Expr) -> Option {t : Expr × List Expr × List Keyword × Pos // e = .Call t.1 t.2.1 t.2.2.1 t.2.2.2} | .Call f a k p => some ⟨(f, a, k, p), rfl⟩ | _ => none
noncomputable def asList : (e : Expr) -> Option {t : List Expr × Pos // e = .List t.1 t.2} | .List es p => some ⟨(es, p), rfl⟩ | _ => none
noncomputable def asTup : (e : Expr) -> Option {t : List Expr × Nat × Pos // e = .Tuple t.1 t.2.1 t.2.2} | .Tuple es k p => some ⟨(es, k, p), rfl⟩ | _ => none
noncomputable def asDict : (e : Expr) -> Option {t : List (Option Expr) × List Expr × Pos // e = .Dict t.1 t.2.1 t.2.2} | .Dict ks vs p => some ⟨(ks, vs, p), rfl⟩ | _ => none
noncomputable def asComp : (e : Expr) -> Option {t : Expr × List Comprehension × Scope × Pos // e = .ListComp t.1 t.2.1 t.2.2.1 t.2.2.2} | .ListComp e g s p => some ⟨(e, g, s, p), rfl⟩ | _ => none
noncomputable def one {α : Type} : List α -> Option α | [x] => some x | _ => none
noncomputable def two {α : Type} : List α -> Option (α × α) | [x, y] => some (x, y) | _ => none
noncomputable def unc {α : Type} : List α -> Option (α × List α) | x :: r => some (x, r) | _ => none
theorem one_inv {α : Type} {l : List α} {x : α} (h : one l = some x) : l = [x] := by
 match l, h with
 | [_], rfl => rfl
theorem two_inv {α : Type} {l : List α} {x : α × α} (h : two l = some x) : l = [x.1, x.2] := by
 match l, h with
 | [_, _], rfl => rfl
theorem unc_inv {α : Type} {l : List α} {x : α × List α} (h : unc l = some x) : l = x.1 :: x.2 := by
 match l, h with
 | _ :: _, rfl => rfl
noncomputable def bN : B -> Nat | .add => 0 | .sub => 1 | .mul => 2 | .fdiv => 3 | .mod => 4 | .and => 5 | .or => 6 | .xor => 7 | .shl => 8 | .shr => 9 | .pow => 10
noncomputable def bOf : Nat -> B | 0 => .add | 1 => .sub | 2 => .mul | 3 => .fdiv | 4 => .mod | 5 => .and | 6 => .or | 7 => .xor | 8 => .shl | 9 => .shr | _ => .pow
theorem bOf_bN (b : B) : bOf (bN b) = b := by cases b <;> rfl
noncomputable def cN : C -> Nat | .lt => 0 | .le => 1 | .gt => 2 | .ge => 3 | .eq => 4 | .ne => 5 | .is_ => 6 | .in_ => 7 | .notin => 8
noncomputable def cOf : Nat -> C | 0 => .lt | 1 => .le | 2 => .gt | 3 => .ge | 4 => .eq | 5 => .ne | 6 => .is_ | 7 => .in_ | _ => .notin
theorem cOf_cN (b : C) : cOf (cN b) = b := by cases b <;> rfl
noncomputable def fN : F -> Nat | .len => 0 | .range => 1 | .abs => 2 | .min => 3 | .max => 4 | .sum => 5 | .list => 6
noncomputable def fOf : Nat -> F | 0 => .len | 1 => .range | 2 => .abs | 3 => .min | 4 => .max | 5 => .sum | _ => .list
theorem fOf_fN (b : F) : fOf (fN b) = b := by cases b <;> rfl
noncomputable def isB (op : Operator) (o : B) : Bool := (opB op).any fun b => bN b == bN o
noncomputable def isC (op : CmpOp) (o : C) : Bool := (opC op).any fun b => cN b == cN o
theorem isB_ok {op : Operator} {o : B} (h : isB op o = true) : opB op = some o := by
 refine x1_2 ((Option.any_eq_true ..).mp h) fun b h1 h2 => ?_
 rw [h1, <- bOf_bN b, <- bOf_bN o, eq_of_beq h2]
theorem isC_ok {op : CmpOp} {o : C} (h : isC op o = true) : opC op = some o := by
 refine x1_2 ((Option.any_eq_true ..).mp h) fun b h1 h2 => ?_
 rw [h1, <- cOf_cN b, <- cOf_cN o, eq_of_beq h2]
noncomputable def nDbg (x : Str) : Bool := !(x == ("__debug__" : Str))
noncomputable def isI (v : Option Value) (i : Int) : Bool := match v with | some (.int j _) => decide (j = i) | _ => false
noncomputable def isR (v : Option Value) (a : Addr) : Bool := match v with | some (.ref b) => Nat.beq b a | _ => false
theorem isI_ok {v : Option Value} {i : Int} (h : isI v i = true) : ∃ t, v = some (.int i t) := by
 unfold isI at h
 split at h
 · rw [decide_eq_true_iff] at h; subst h; exact ⟨_, rfl⟩
 · exact nf h
theorem isR_ok {v : Option Value} {a : Addr} (h : isR v a = true) : v = some (.ref a) := by
 unfold isR at h
 split at h
 · rw [Nat.eq_of_beq_eq_true h]
 · exact nf h
noncomputable def cInt (gl : List Str) (x : Str) (i : Int) : Bool := gl.contains x && nDbg x && (gTab.lookup x).any fun v => isI v i
noncomputable def cRef (gl : List Str) (x : Str) (o : Option Addr) : Bool := gl.contains x && nDbg x && o.any fun a => (gTab.lookup x).any fun v => isR v a
noncomputable def noCall : Expr -> Bool | .Call .. => false | _ => true
theorem noCall_ok {o : Expr} (h : noCall o = true) (y : Str) (env : Env) (whole : Sem Value) : attributeBase o y env whole = whole := by
 cases o <;> first | rfl | exact nf h
noncomputable def isCI (c : Const) (i : Int) : Bool := match c with | .int j => decide (j = i) | _ => false
noncomputable def isCB (c : Const) (b : Bool) : Bool := match c with | .bool d => d == b | _ => false
noncomputable def isCN (c : Const) : Bool := match c with | .none => true | _ => false
theorem isCI_ok {c : Const} {i : Int} (h : isCI c i = true) : c = .int i := by
 unfold isCI at h
 split at h
 · rw [of_decide_eq_true h]
 · exact nf h
theorem isCB_ok {c : Const} {b : Bool} (h : isCB c b = true) : c = .bool b := by
 unfold isCB at h
 split at h
 · rw [eq_of_beq h]
 · exact nf h
theorem isCN_ok {c : Const} (h : isCN c = true) : c = .none := by
 unfold isCN at h
 split at h
 · rfl
 · exact nf h
noncomputable def cScope (xs cn : List Str) (caps : List Nat) (scope : Scope) (x : Str) : Option (List Str × List Str) :=
 let ys := caps.filterMap fun c => xs[c]?
 let gl2 := (scope.names.filter fun z => z.2 == .globalImplicit).map (·.1)
 if decide (scope.kind = .function) && (decide (∀ z ∈ scope.names, z.2 = .local -> scope.names.lookup z.1 = some .local) && (decide (∀ z ∈ scope.names, z.2 ≠ .cell) && (decide (scope.names.lookup x = some .local) && (decide (x ∉ ys) &&
  (decide (∀ y ∈ ys, scope.names.lookup y = some .free /\ y ∈ cn) && (decide (∀ z ∈ scope.names, z.2 = .free -> z.1 ∈ ys) && (decide (∀ y ∈ gl2, scope.names.lookup y = some .globalImplicit) && decide (caps.map (fun c => xs[c]?) = ys.map some)))))))) = true then some (ys, gl2) else none
noncomputable def oneGen : (g : List Comprehension) -> Option {t : Str × Pos × Expr × List Expr // g = [⟨.Name t.1 t.2.1, t.2.2.1, t.2.2.2, 0⟩]}
 | [⟨.Name x p, it, ifs, 0⟩] => some ⟨(x, p, it, ifs), rfl⟩
 | _ => none
noncomputable def litI : E -> Option Int | .lit (.int i) => some i | _ => none
theorem litI_inv {k : E} {i : Int} (h : litI k = some i) : k = .lit (.int i) := by
 unfold litI at h
 split at h <;> cases h
 rfl
theorem any_inv {α : Type} {o : Option α} {p : α -> Bool} (h : o.any p = true) : ∃ x, o = some x /\ p x = true := by
 cases o with
 | none => exact nf h
 | some x => exact ⟨x, rfl, h⟩
theorem and_inv {a b : Bool} (h : (a && b) = true) : a = true /\ b = true := by
 cases a with
 | false => exact nf h
 | true => exact ⟨rfl, h⟩
theorem and_c {a b : Bool} {X : Prop} (h : (a && b) = true) (f : a = true -> b = true -> X) : X := f (and_inv h).1 (and_inv h).2
theorem any_c {α : Type} {o : Option α} {p : α -> Bool} {X : Prop} (h : o.any p = true) (f : ∀ x, o = some x -> p x = true -> X) : X := (any_inv h).elim fun x q => f x q.1 q.2
theorem dec_inv {p : Prop} [Decidable p] (h : decide p = true) : p := of_decide_eq_true h
theorem not_inv {b : Bool} (h : (!b) = true) : b = false := by cases b with | false => rfl | true => exact nf h
theorem emp_inv {α : Type} {l : List α} (h : l.isEmpty = true) : l = [] := by cases l with | nil => rfl | cons _ _ => exact nf h
theorem non_inv {α : Type} {o : Option α} (h : o.isNone = true) : o = none := by cases o with | none => rfl | some _ => exact nf h
structure SOk (S : St) : Prop where
 K : ∃ P, S.K = K P
 gad : ∀ (k : Nat) (a : Addr), gadC[k]? = some a -> S.gad[k]? = some a
 fad : S.fad = fadL
section
variable {S : St}
theorem SOk.name (W : SOk S) {x : Str} {v : Option Value} (h : gTab.lookup x = some v) : nsIn S.K mainGlobals x = some v := by
 obtain ⟨P, e⟩ := W.K
 rw [e]; exact gTab_ok P h
theorem cInt_ok (W : SOk S) {gl : List Str} {x : Str} {i : Int} (h : cInt gl x i = true) : x ∈ gl /\ (x == ("__debug__" : Str)) = false /\ ∃ t, nsIn S.K mainGlobals x = some (some (.int i t)) := by
 replace h := and_inv h
 refine cps fun _ zk => ?_
 obtain ⟨h, h3⟩ := h
 refine and_c h fun h1 h2 => ?_
 refine any_c h3 fun v h4 h5 => ?_
 refine zk ?_; clear zk
 obtain ⟨t, rfl⟩ := isI_ok h5
 exact ⟨List.contains_iff_mem.mp h1, not_inv h2, t, W.name h4⟩
theorem cRef_ok (W : SOk S) {gl : List Str} {x : Str} {o : Option Addr} (h : cRef gl x o = true) : x ∈ gl /\ (x == ("__debug__" : Str)) = false /\ ∃ a, o = some a /\ nsIn S.K mainGlobals x = some (some (.ref a)) := by
 replace h := and_inv h
 refine cps fun _ zk => ?_
 obtain ⟨h, h3⟩ := h
 refine and_c h fun h1 h2 => ?_
 refine any_c h3 fun a h4 h5 => ?_
 refine any_c h5 fun v h6 h7 => ?_
 refine zk ?_; clear zk
 cases isR_ok h7
 exact ⟨List.contains_iff_mem.mp h1, not_inv h2, a, h4, W.name h6⟩
theorem cScope_ok {xs cn : List Str} {caps : List Nat} {scope : Scope} {x : Str} {s : List Str × List Str} (h : cScope xs cn caps scope x = some s) : scope.kind = .function /\ (∀ z ∈ scope.names, z.2 = .local -> scope.names.lookup z.1 = some .local) /\ (∀ z ∈ scope.names, z.2 ≠ .cell) /\ scope.names.lookup x = some .local /\ x ∉ s.1 /\
 (∀ y ∈ s.1, scope.names.lookup y = some .free /\ y ∈ cn) /\ (∀ z ∈ scope.names, z.2 = .free -> z.1 ∈ s.1) /\ (∀ y ∈ s.2, scope.names.lookup y = some .globalImplicit) /\ caps.map (fun c => xs[c]?) = s.1.map some := by
 unfold cScope at h
 dsimp only at h
 split at h
 · rename_i q
   refine so1 h ?_
   simp only [Bool.and_eq_true, decide_eq_true_iff] at q
   exact q
 · exact nn h
theorem len2 {α : Type} {l : List α} (h : 2 <= l.length) : ∃ x y r, l = x :: y :: r := by
 match l, h with
 | x :: y :: r, _ => exact i3_1 x y r rfl
variable {xs gl cn : List Str} {e : Expr} {a b c : E} {f g k : Expr -> Bool}
noncomputable def cLoc (i : Nat) (xs : List Str) (e : Expr) : Bool := (asName e).any fun x => decide (xs[i]? = some x.1.1) && (nDbg x.1.1 && !(x.1.1 == ("__classdict__" : Str)))
theorem cLoc_ok {i : Nat} (h : cLoc i xs e = true) : TrE S xs gl cn e (.loc i) := by
 refine any_c h fun y2 _ h => ?_
 obtain ⟨x, rfl⟩ := y2
 replace h := and_inv h
 refine cps fun _ zk => ?_
 obtain ⟨h2, h⟩ := h
 refine and_c h fun h3 h4 => ?_
 refine zk ?_; clear zk
 exact .loc (dec_inv h2) (not_inv h3) (not_inv h4)
noncomputable def cLit (v : V) (gl : List Str) (e : Expr) : Bool := match v with
 | .int i => (asConst e).any (fun c => isCI c.1.1 i) || (asName e).any fun x => cInt gl x.1.1 i
 | .bool b => (asConst e).any fun c => isCB c.1.1 b
 | .none => (asConst e).any fun c => isCN c.1.1
 | .gref k => (asName e).any fun x => cRef gl x.1.1 gadC[k]?
 | _ => false
theorem cLit_ok {v : V} (W : SOk S) (h : cLit v gl e = true) : TrE S xs gl cn e (.lit v) := by
 cases v with
 | int i =>
   rcases (Bool.or_eq_true ..).mp h with h | h
   · refine any_c h fun c _ h => ?_
     rw [c.2, isCI_ok h]; exact .int
   · refine any_c h fun x _ h => ?_
     rw [x.2]
     exact x0_3 (cInt_ok W h) fun a b q => q.elim fun t c => .gint a c b
 | bool b => refine any_c h fun c _ h => ?_; rw [c.2, isCB_ok h]; exact .bool
 | none => refine any_c h fun c _ h => ?_; rw [c.2, isCN_ok h]; exact .none
 | gref k => refine any_c h fun x _ h => ?_; rw [x.2]; exact x0_3 (cRef_ok W h) fun a b q => x1_2 q fun t d c => .gobj a c (W.gad _ _ d) b
 | ref _ => exact nf h
noncomputable def cBin (o : B) (f g : Expr -> Bool) (e : Expr) : Bool := (asBin e).any fun t => isB t.1.2.1 o && (f t.1.1 && g t.1.2.2.1)
theorem cBin_ok {o : B} (hf : ∀ e, f e = true -> TrE S xs gl cn e a) (hg : ∀ e, g e = true -> TrE S xs gl cn e b) (h : cBin o f g e = true) : TrE S xs gl cn e (.bin o a b) := by
 refine any_c h fun y7 _ h => ?_
 obtain ⟨t, rfl⟩ := y7
 replace h := and_inv h
 refine cps fun _ zk => ?_
 obtain ⟨h2, h⟩ := h
 refine and_c h fun h3 h4 => ?_
 refine zk ?_; clear zk
 exact .bin (isB_ok h2) (hf _ h3) (hg _ h4)
noncomputable def cUn (o : UnaryOp) (f : Expr -> Bool) (e : Expr) : Bool := (asUn e).any fun t => decide (t.1.1 = o) && f t.1.2.1
theorem cUn_inv {o : UnaryOp} (h : cUn o f e = true) : ∃ x p, e = .UnaryOp o x p /\ f x = true := by
 refine any_c h fun y8 _ h => ?_
 obtain ⟨⟨o', x, p⟩, rfl⟩ := y8
 refine and_c h fun h2 h3 => ?_
 cases (dec_inv h2 : o' = o)
 exact i2_2 x p rfl h3
theorem cNot_ok (hf : ∀ e, f e = true -> TrE S xs gl cn e a) (h : cUn .Not f e = true) : TrE S xs gl cn e (.not a) := by
 refine x2_2 (cUn_inv h) fun x p y9 h => ?_
 subst y9; exact .not (hf _ h)
theorem cNeg_ok (hf : ∀ e, f e = true -> TrE S xs gl cn e a) (h : cUn .USub f e = true) : TrE S xs gl cn e (.neg a) := by
 refine x2_2 (cUn_inv h) fun x p y10 h => ?_
 subst y10; exact .neg (hf _ h)
theorem cInv_ok (hf : ∀ e, f e = true -> TrE S xs gl cn e a) (h : cUn .Invert f e = true) : TrE S xs gl cn e (.inv a) := by
 refine x2_2 (cUn_inv h) fun x p y11 h => ?_
 subst y11; exact .inv (hf _ h)
noncomputable def cCmp (o : C) (f g : Expr -> Bool) (e : Expr) : Bool := (asCmp e).any fun t => (one t.1.2.1).any fun op => (one t.1.2.2.1).any fun r => isC op o && (!behindInMarks op r && (f t.1.1 && g r))
theorem cCmp_ok {o : C} (hf : ∀ e, f e = true -> TrE S xs gl cn e a) (hg : ∀ e, g e = true -> TrE S xs gl cn e b) (h : cCmp o f g e = true) : TrE S xs gl cn e (.cmp o a b) := by
 refine cps fun _ zk => ?_
 refine any_c h fun t _ h => ?_
 refine any_c h fun op h2 h => ?_
 refine any_c h fun r h3 h => ?_
 refine and_c h fun h4 h => ?_
 refine and_c h fun h5 h => ?_
 refine and_c h fun h6 h7 => ?_
 refine zk ?_; clear zk
 rw [t.2, one_inv h2, one_inv h3]
 exact .cmp (isC_ok h4) (not_inv h5) (hf _ h6) (hg _ h7)
noncomputable def cChain (o p : C) (f g k : Expr -> Bool) (e : Expr) : Bool := (asCmp e).any fun t => (two t.1.2.1).any fun op => (two t.1.2.2.1).any fun r => isC op.1 o && (isC op.2 p && (!lastMarks [op.1, op.2] [r.1, r.2] && (f t.1.1 && (g r.1 && k r.2))))
theorem cChain_ok {o p : C} (hf : ∀ e, f e = true -> TrE S xs gl cn e a) (hg : ∀ e, g e = true -> TrE S xs gl cn e b) (hk : ∀ e, k e = true -> TrE S xs gl cn e c) (h : cChain o p f g k e = true) : TrE S xs gl cn e (.chain a o b p c) := by
 refine cps fun _ zk => ?_
 refine any_c h fun t _ h => ?_
 refine any_c h fun op h2 h => ?_
 refine any_c h fun r h3 h => ?_
 refine and_c h fun h4 h => ?_
 refine and_c h fun h5 h => ?_
 refine and_c h fun h6 h => ?_
 refine and_c h fun h7 h => ?_
 refine and_c h fun h8 h9 => ?_
 refine zk ?_; clear zk
 rw [t.2, two_inv h2, two_inv h3]
 exact .chain (isC_ok h4) (isC_ok h5) (not_inv h6) (hf _ h7) (hg _ h8) (hk _ h9)
noncomputable def cBo (o : BoolOp) (f g : Expr -> Bool) (e : Expr) : Bool := (asBool e).any fun t => decide (t.1.1 = o) && (unc t.1.2.1).any fun u => f u.1 && (((one u.2).any fun y => g y) || (decide (2 <= u.2.length) && g (.BoolOp o u.2 t.1.2.2)))
theorem cBo_inv {o : BoolOp} (h : cBo o f g e = true) : ∃ x y r p, e = .BoolOp o (x :: y :: r) p /\ f x = true /\ ((r = [] /\ g y = true) \/ g (.BoolOp o (y :: r) p) = true) := by
 refine cps fun _ zk => ?_
 refine any_c h fun t _ h => ?_
 refine and_c h fun h2 h => ?_
 refine any_c h fun u h3 h => ?_
 refine and_c h fun h4 h => ?_
 have he : e = .BoolOp o (u.1 :: u.2) t.1.2.2 := t.2.trans (by rw [dec_inv h2, unc_inv h3])
 refine zk ?_; clear zk
 rcases (Bool.or_eq_true ..).mp h with h | h
 · refine any_c h fun y h5 h6 => ?_
   exact i4_3 u.1 y ([]) t.1.2.2 (he.trans (by rw [one_inv h5])) h4 (.inl ⟨rfl, h6⟩)
 · refine cps fun _ zk => ?_
   obtain ⟨h5, h6⟩ := and_inv h
   refine x3_1 (len2 (dec_inv h5)) fun y z q hq => ?_
   refine zk ?_; clear zk
   exact i4_3 u.1 y (z :: q) t.1.2.2 (he.trans (by rw [hq])) h4 (.inr (by rw [<- hq]; exact h6))
theorem cAnd_ok (hf : ∀ e, f e = true -> TrE S xs gl cn e a) (hg : ∀ e, g e = true -> TrE S xs gl cn e b) (h : cBo .And f g e = true) : TrE S xs gl cn e (.and a b) := by
 refine x4_3 (cBo_inv h) fun x y r p y12 h1 y13 => ?_
 subst y12
 obtain ⟨rfl, h2⟩ | h2 := y13
 · exact .and (.more (hf _ h1) (.one (hg _ h2)))
 · exact .and (.more (hf _ h1) (hg _ h2).inA)
theorem cOr_ok (hf : ∀ e, f e = true -> TrE S xs gl cn e a) (hg : ∀ e, g e = true -> TrE S xs gl cn e b) (h : cBo .Or f g e = true) : TrE S xs gl cn e (.or a b) := by
 refine x4_3 (cBo_inv h) fun x y r p y14 h1 y15 => ?_
 subst y14
 obtain ⟨rfl, h2⟩ | h2 := y15
 · exact .or (.more (hf _ h1) (.one (hg _ h2)))
 · exact .or (.more (hf _ h1) (hg _ h2).inO)
noncomputable def cSub (f g : Expr -> Bool) (e : Expr) : Bool := (asSub e).any fun t => f t.1.1 && g t.1.2.1
theorem cSub_ok (hf : ∀ e, f e = true -> TrE S xs gl cn e a) (hg : ∀ e, g e = true -> TrE S xs gl cn e b) (h : cSub f g e = true) : TrE S xs gl cn e (.idx a b) := by
 refine any_c h fun y16 _ h => ?_
 obtain ⟨t, rfl⟩ := y16
 refine and_c h fun h2 h3 => ?_
 exact .idx (hf _ h2) (hg _ h3)
noncomputable def cSl (lo : Bool) (f g : Expr -> Bool) (e : Expr) : Bool := (asSub e).any fun t => (asName t.1.1).isSome && (f t.1.1 && (asSlice t.1.2.1).any fun s => s.1.2.2.1.isNone && (if lo then s.1.2.1.isNone && s.1.1.any g else s.1.1.isNone && s.1.2.1.any g))
theorem tre_from {v sl l : Expr} {x : Str} {p p2 pos : Pos} (h1 : v = .Name x p) (h2 : sl = .Slice (some l) none none p2) (h3 : TrE S xs gl cn v a) (h4 : TrE S xs gl cn l b) : TrE S xs gl cn (.Subscript v sl pos) (.sfrom a b) := by
 subst h1 h2; exact .sfrom h3 h4
theorem tre_to {v sl l : Expr} {x : Str} {p p2 pos : Pos} (h1 : v = .Name x p) (h2 : sl = .Slice none (some l) none p2) (h3 : TrE S xs gl cn v a) (h4 : TrE S xs gl cn l b) : TrE S xs gl cn (.Subscript v sl pos) (.sto a b) := by
 subst h1 h2; exact .sto h3 h4
theorem cFrom_ok (hf : ∀ e, f e = true -> TrE S xs gl cn e a) (hg : ∀ e, g e = true -> TrE S xs gl cn e b) (h : cSl true f g e = true) : TrE S xs gl cn e (.sfrom a b) := by
 refine cps fun _ zk => ?_
 refine any_c h fun t _ h => ?_
 refine and_c h fun h2 h => ?_
 refine and_c h fun h3 h => ?_
 refine any_c h fun u _ h => ?_
 refine and_c h fun h7 h => ?_
 refine and_c h fun h6 h => ?_
 refine any_c h fun l h5 h8 => ?_
 replace h2 := Option.isSome_iff_exists.mp h2
 obtain ⟨x, _⟩ := h2
 refine zk ?_; clear zk
 rw [t.2]
 exact tre_from x.2 (by rw [u.2, h5, non_inv h6, non_inv h7]) (hf _ h3) (hg _ h8)
theorem cTo_ok (hf : ∀ e, f e = true -> TrE S xs gl cn e a) (hg : ∀ e, g e = true -> TrE S xs gl cn e b) (h : cSl false f g e = true) : TrE S xs gl cn e (.sto a b) := by
 refine cps fun _ zk => ?_
 refine any_c h fun t _ h => ?_
 refine and_c h fun h2 h => ?_
 refine and_c h fun h3 h => ?_
 refine any_c h fun u _ h => ?_
 refine and_c h fun h7 h => ?_
 refine and_c h fun h6 h => ?_
 refine any_c h fun l h5 h8 => ?_
 replace h2 := Option.isSome_iff_exists.mp h2
 obtain ⟨x, _⟩ := h2
 refine zk ?_; clear zk
 rw [t.2]
 exact tre_to x.2 (by rw [u.2, h5, non_inv h6, non_inv h7]) (hf _ h3) (hg _ h8)
noncomputable def cAttr (k : Nat) (f : Expr -> Bool) (e : Expr) : Bool := (asAttr e).any fun t => decide (fieldNames[k]? = some t.1.2.1) && (noCall t.1.1 && f t.1.1)
theorem cAttr_ok {k : Nat} (hf : ∀ e, f e = true -> TrE S xs gl cn e a) (h : cAttr k f e = true) : TrE S xs gl cn e (.attr a k) := by
 refine any_c h fun y17 _ h => ?_
 obtain ⟨t, rfl⟩ := y17
 replace h := and_inv h
 refine cps fun _ zk => ?_
 obtain ⟨h2, h⟩ := h
 refine and_c h fun h3 h4 => ?_
 refine zk ?_; clear zk
 exact .attr (dec_inv h2) (fun env whole => noCall_ok h3 _ env whole) (hf _ h4)
variable {es : Es} {F' : List Expr -> Bool}
noncomputable def cCall (f : Nat) (gl : List Str) (F' : List Expr -> Bool) (e : Expr) : Bool := (asCall e).any fun t => t.1.2.2.1.isEmpty && (((asName t.1.1).any fun x => cRef gl x.1.1 fadL[f]?) && F' t.1.2.1)
theorem cCall_ok {f : Nat} (W : SOk S) (hF : ∀ l, F' l = true -> TrEs S xs gl cn l es) (h : cCall f gl F' e = true) : TrE S xs gl cn e (.call f es) := by
 refine cps fun _ zk => ?_
 refine any_c h fun t _ h => ?_
 refine and_c h fun h2 h => ?_
 refine and_c h fun h3 h5 => ?_
 refine any_c h3 fun x _ h6 => ?_
 refine x0_3 (cRef_ok W h6) fun a b q => x1_2 q fun ad c d => ?_
 refine zk ?_; clear zk
 rw [t.2, x.2, emp_inv h2]
 exact W.K.elim fun P eK => .call a d (W.fad ▸ c) (eK ▸ kp_ok P (List.mem_of_getElem? c)) b (hF _ h5)
noncomputable def cBlt (f : F) (gl : List Str) (F' : List Expr -> Bool) (e : Expr) : Bool := (asCall e).any fun t => t.1.2.2.1.isEmpty && (((asName t.1.1).any fun x => gl.contains x.1.1 && (nDbg x.1.1 && (((gTab.lookup x.1.1).any fun v => v.isNone) && (bTab.lookup x.1.1).any fun g => fN g == fN f))) && F' t.1.2.1)
theorem cBlt_ok {f : F} (W : SOk S) (hF : ∀ l, F' l = true -> TrEs S xs gl cn l es) (h : cBlt f gl F' e = true) : TrE S xs gl cn e (.blt f es) := by
 refine cps fun _ zk => ?_
 refine any_c h fun t _ h => ?_
 refine and_c h fun h2 h => ?_
 refine and_c h fun h3 h5 => ?_
 refine any_c h3 fun x _ h3 => ?_
 refine and_c h3 fun h6 h3 => ?_
 refine and_c h3 fun h7 h3 => ?_
 refine and_c h3 fun h8 h9 => ?_
 refine any_c h8 fun v h10 h11 => ?_
 refine any_c h9 fun g h12 h13 => ?_
 rw [non_inv h11] at h10
 obtain ⟨b1, b2⟩ := bTab_ok h12
 rw [<- fOf_fN g, eq_of_beq h13, fOf_fN] at b1
 refine zk ?_; clear zk
 rw [t.2, x.2, emp_inv h2]
 exact .blt (List.contains_iff_mem.mp h6) (W.name h10) b1 b2 (not_inv h7) (hF _ h5)
noncomputable def cList (F' : List Expr -> Bool) (e : Expr) : Bool := (asList e).any fun t => F' t.1.1
theorem cList_ok (hF : ∀ l, F' l = true -> TrEs S xs gl cn l es) (h : cList F' e = true) : TrE S xs gl cn e (.list es) := by
 refine any_c h fun y21 _ h => ?_
 obtain ⟨t, rfl⟩ := y21
 exact .list (hF _ h)
noncomputable def cTup (F' : List Expr -> Bool) (e : Expr) : Bool := (asTup e).any fun t => F' t.1.1
theorem cTup_ok (hF : ∀ l, F' l = true -> TrEs S xs gl cn l es) (h : cTup F' e = true) : TrE S xs gl cn e (.tup es) := by
 refine any_c h fun y22 _ h => ?_
 obtain ⟨t, rfl⟩ := y22
 exact .tup (hF _ h)
noncomputable def cDict (k v : E) (gl : List Str) (e : Expr) : Bool := (asDict e).any fun t => (one t.1.1).any fun ko => ko.any fun kx => (one t.1.2.1).any fun vx => (asName kx).any fun x => (asName vx).any fun y => (litI k).any fun i => (litI v).any fun j => cInt gl x.1.1 i && cInt gl y.1.1 j
theorem cDict_ok {k v : E} (W : SOk S) (h : cDict k v gl e = true) : TrE S xs gl cn e (.dict1 k v) := by
 refine cps fun _ zk => ?_
 refine any_c h fun t _ h => ?_
 refine any_c h fun ko h2 h => ?_
 refine any_c h fun kx h3 h => ?_
 refine any_c h fun vx h4 h => ?_
 refine any_c h fun x _ h => ?_
 refine any_c h fun y _ h => ?_
 refine any_c h fun i h7 h => ?_
 refine any_c h fun j h8 h => ?_
 refine and_c h fun h9 h10 => ?_
 obtain ⟨a, b, t', c⟩ := cInt_ok W h9
 obtain ⟨a', b', u', c'⟩ := cInt_ok W h10
 refine zk ?_; clear zk
 rw [t.2, one_inv h2, h3, one_inv h4, x.2, y.2, litI_inv h7, litI_inv h8]
 exact .dict1 a c b a' c' b'
noncomputable def cComp (caps : List Nat) (xs cn : List Str) (f : Expr -> Bool) (g : List Str -> List Str -> Expr -> Bool) (e : Expr) : Bool := (asComp e).any fun t => (oneGen t.1.2.1).any fun u => u.1.2.2.2.isEmpty && (cScope xs cn caps t.1.2.2.1 u.1.1).any fun s => f u.1.2.2.1 && g (s.1 ++ [u.1.1]) s.2 t.1.1
theorem cComp_ok {caps : List Nat} {g : List Str -> List Str -> Expr -> Bool} (hf : ∀ e, f e = true -> TrE S xs gl cn e b) (hg : ∀ ys gl2 e, g ys gl2 e = true -> TrE S ys gl2 [] e a) (h : cComp caps xs cn f g e = true) : TrE S xs gl cn e (.comp caps a b) := by
 refine cps fun _ zk => ?_
 refine any_c h fun t _ h => ?_
 refine any_c h fun u _ h => ?_
 refine and_c h fun h3 h => ?_
 refine any_c h fun s h4 h => ?_
 refine and_c h fun h5 h6 => ?_
 refine x0_9 (cScope_ok h4) fun c1 c2 c3 c4 c5 c6 c7 c8 c9 => ?_
 refine zk ?_; clear zk
 rw [t.2, u.2]
 exact .comp (emp_inv h3) c1 c2 c3 c4 c5 c6 c7 c8 c9 (hf _ h5) (hg _ _ _ h6)
noncomputable def cComf (caps : List Nat) (xs cn : List Str) (f : Expr -> Bool) (g k : List Str -> List Str -> Expr -> Bool) (e : Expr) : Bool := (asComp e).any fun t => (oneGen t.1.2.1).any fun u => (one u.1.2.2.2).any fun c => (cScope xs cn caps t.1.2.2.1 u.1.1).any fun s => f u.1.2.2.1 && (g (s.1 ++ [u.1.1]) s.2 t.1.1 && k (s.1 ++ [u.1.1]) s.2 c)
theorem cComf_ok {caps : List Nat} {g k : List Str -> List Str -> Expr -> Bool} (hf : ∀ e, f e = true -> TrE S xs gl cn e b) (hg : ∀ ys gl2 e, g ys gl2 e = true -> TrE S ys gl2 [] e a) (hk : ∀ ys gl2 e, k ys gl2 e = true -> TrE S ys gl2 [] e c) (h : cComf caps xs cn f g k e = true) : TrE S xs gl cn e (.compIf caps a b c) := by
 refine cps fun _ zk => ?_
 refine any_c h fun t _ h => ?_
 refine any_c h fun u _ h => ?_
 refine any_c h fun c h3 h => ?_
 refine any_c h fun s h4 h => ?_
 refine and_c h fun h5 h => ?_
 refine and_c h fun h6 h7 => ?_
 refine x0_9 (cScope_ok h4) fun c1 c2 c3 c4 c5 c6 c7 c8 c9 => ?_
 refine zk ?_; clear zk
 rw [t.2, u.2, one_inv h3]
 exact .compIf c1 c2 c3 c4 c5 c6 c7 c8 c9 (hf _ h5) (hg _ _ _ h6) (hk _ _ _ h7)
noncomputable def cApp (f g : Expr -> Bool) (e : Expr) : Bool := (asCall e).any fun t => t.1.2.2.1.isEmpty && (asAttr t.1.1).any fun u => noCall u.1.1 && (decide (u.1.2.1 = ("append" : Str)) && ((u.1.2.2.endLine == t.1.2.2.2.line) && (f u.1.1 && (one t.1.2.1).any g)))
theorem cApp_ok (hf : ∀ e, f e = true -> TrE S xs gl cn e a) (hg : ∀ e, g e = true -> TrE S xs gl cn e b) (h : cApp f g e = true) : TrE S xs gl cn e (.append a b) := by
 refine cps fun _ zk => ?_
 refine any_c h fun t _ h => ?_
 refine and_c h fun h2 h => ?_
 refine any_c h fun u _ h => ?_
 refine and_c h fun h4 h => ?_
 refine and_c h fun h5 h => ?_
 refine and_c h fun h6 h => ?_
 refine and_c h fun h7 h => ?_
 refine any_c h fun w h8 h9 => ?_
 refine zk ?_; clear zk
 rw [t.2, u.2, emp_inv h2, one_inv h8, dec_inv h5]
 exact .append (fun env => noCall_ok h4 _ env _) h6 (hf _ h7) (hg _ h9)
noncomputable def cCons (f : Expr -> Bool) (F' : List Expr -> Bool) (l : List Expr) : Bool := (unc l).any fun u => f u.1 && F' u.2
theorem cCons_ok {l : List Expr} (hf : ∀ e, f e = true -> TrE S xs gl cn e a) (hF : ∀ l, F' l = true -> TrEs S xs gl cn l es) (h : cCons f F' l = true) : TrEs S xs gl cn l (.cons a es) := by
 refine any_c h fun u h1 h => ?_
 cases unc_inv h1
 refine and_c h fun h2 h3 => ?_
 exact .cons (hf _ h2) (hF _ h3)
mutual
noncomputable def chkE : E -> List Str -> List Str -> List Str -> Expr -> Bool
 | .loc i => fun xs gl cn => cLoc i xs
 | .lit v => fun xs gl cn => cLit v gl
 | .bin o a b => fun xs gl cn => cBin o (chkE a xs gl cn) (chkE b xs gl cn)
 | .not a => fun xs gl cn => cUn .Not (chkE a xs gl cn)
 | .neg a => fun xs gl cn => cUn .USub (chkE a xs gl cn)
 | .inv a => fun xs gl cn => cUn .Invert (chkE a xs gl cn)
 | .cmp o a b => fun xs gl cn => cCmp o (chkE a xs gl cn) (chkE b xs gl cn)
 | .chain a o b p c => fun xs gl cn => cChain o p (chkE a xs gl cn) (chkE b xs gl cn) (chkE c xs gl cn)
 | .and a b => fun xs gl cn => cBo .And (chkE a xs gl cn) (chkE b xs gl cn)
 | .or a b => fun xs gl cn => cBo .Or (chkE a xs gl cn) (chkE b xs gl cn)
 | .idx a i => fun xs gl cn => cSub (chkE a xs gl cn) (chkE i xs gl cn)
 | .sfrom a i => fun xs gl cn => cSl true (chkE a xs gl cn) (chkE i xs gl cn)
 | .sto a i => fun xs gl cn => cSl false (chkE a xs gl cn) (chkE i xs gl cn)
 | .attr a k => fun xs gl cn => cAttr k (chkE a xs gl cn)
 | .call f as => fun xs gl cn => cCall f gl (chkEs as xs gl cn)
 | .blt f as => fun xs gl cn => cBlt f gl (chkEs as xs gl cn)
 | .list es => fun xs gl cn => cList (chkEs es xs gl cn)
 | .tup es => fun xs gl cn => cTup (chkEs es xs gl cn)
 | .dict1 k v => fun xs gl cn => cDict k v gl
 | .comp caps elt it => fun xs gl cn => cComp caps xs cn (chkE it xs gl cn) fun ys gl2 => chkE elt ys gl2 []
 | .compIf caps elt it cd => fun xs gl cn => cComf caps xs cn (chkE it xs gl cn) (fun ys gl2 => chkE elt ys gl2 []) fun ys gl2 => chkE cd ys gl2 []
 | .append a v => fun xs gl cn => cApp (chkE a xs gl cn) (chkE v xs gl cn)
noncomputable def chkEs : Es -> List Str -> List Str -> List Str -> List Expr -> Bool
 | .nil => fun xs gl cn es => es.isEmpty
 | .cons e r => fun xs gl cn => cCons (chkE e xs gl cn) (chkEs r xs gl cn)
end
mutual
theorem chkE_ok (W : SOk S) : ∀ (a : E) (xs gl cn : List Str) (e : Expr), chkE a xs gl cn e = true -> TrE S xs gl cn e a
 | .loc i, xs, gl, cn, e, h => cLoc_ok h
 | .lit v, xs, gl, cn, e, h => cLit_ok W h
 | .bin o a b, xs, gl, cn, e, h => cBin_ok (chkE_ok W a xs gl cn) (chkE_ok W b xs gl cn) h
 | .not a, xs, gl, cn, e, h => cNot_ok (chkE_ok W a xs gl cn) h
 | .neg a, xs, gl, cn, e, h => cNeg_ok (chkE_ok W a xs gl cn) h
 | .inv a, xs, gl, cn, e, h => cInv_ok (chkE_ok W a xs gl cn) h
 | .cmp o a b, xs, gl, cn, e, h => cCmp_ok (chkE_ok W a xs gl cn) (chkE_ok W b xs gl cn) h
 | .chain a o b p c, xs, gl, cn, e, h => cChain_ok (chkE_ok W a xs gl cn) (chkE_ok W b xs gl cn) (chkE_ok W c xs gl cn) h
 | .and a b, xs, gl, cn, e, h => cAnd_ok (chkE_ok W a xs gl cn) (chkE_ok W b xs gl cn) h
 | .or a b, xs, gl, cn, e, h => cOr_ok (chkE_ok W a xs gl cn) (chkE_ok W b xs gl cn) h
 | .idx a i, xs, gl, cn, e, h => cSub_ok (chkE_ok W a xs gl cn) (chkE_ok W i xs gl cn) h
 | .sfrom a i, xs, gl, cn, e, h => cFrom_ok (chkE_ok W a xs gl cn) (chkE_ok W i xs gl cn) h
 | .sto a i, xs, gl, cn, e, h => cTo_ok (chkE_ok W a xs gl cn) (chkE_ok W i xs gl cn) h
 | .attr a k, xs, gl, cn, e, h => cAttr_ok (chkE_ok W a xs gl cn) h
 | .call f as, xs, gl, cn, e, h => cCall_ok W (chkEs_ok W as xs gl cn) h
 | .blt f as, xs, gl, cn, e, h => cBlt_ok W (chkEs_ok W as xs gl cn) h
 | .list es, xs, gl, cn, e, h => cList_ok (chkEs_ok W es xs gl cn) h
 | .tup es, xs, gl, cn, e, h => cTup_ok (chkEs_ok W es xs gl cn) h
 | .dict1 k v, xs, gl, cn, e, h => cDict_ok W h
 | .comp caps elt it, xs, gl, cn, e, h => cComp_ok (chkE_ok W it xs gl cn) (fun ys gl2 => chkE_ok W elt ys gl2 []) h
 | .compIf caps elt it cd, xs, gl, cn, e, h => cComf_ok (chkE_ok W it xs gl cn) (fun ys gl2 => chkE_ok W elt ys gl2 []) (fun ys gl2 => chkE_ok W cd ys gl2 []) h
 | .append a v, xs, gl, cn, e, h => cApp_ok (chkE_ok W a xs gl cn) (chkE_ok W v xs gl cn) h
theorem chkEs_ok (W : SOk S) : ∀ (as : Es) (xs gl cn : List Str) (es : List Expr), chkEs as xs gl cn es = true -> TrEs S xs gl cn es as
 | .nil, xs, gl, cn, es, h => by cases emp_inv h; exact .nil
 | .cons a r, xs, gl, cn, es, h => cCons_ok (chkE_ok W a xs gl cn) (chkEs_ok W r xs gl cn) h
end
end
noncomputable def asAssign : (s : Stmt) -> Option {t : Expr × Expr × Pos // s = .Assign [t.1] t.2.1 t.2.2} | .Assign [t] e p => some ⟨(t, e, p), rfl⟩ | _ => none
noncomputable def asAug : (s : Stmt) -> Option {t : Expr × Operator × Expr × Pos // s = .AugAssign t.1 t.2.1 t.2.2.1 t.2.2.2} | .AugAssign t o e p => some ⟨(t, o, e, p), rfl⟩ | _ => none
noncomputable def asExprS : (s : Stmt) -> Option {t : Expr × Pos // s = .Expr t.1 t.2} | .Expr e p => some ⟨(e, p), rfl⟩ | _ => none
noncomputable def asIf : (s : Stmt) -> Option {t : Expr × List Stmt × List Stmt × Pos // s = .If t.1 t.2.1 t.2.2.1 t.2.2.2} | .If c t f p => some ⟨(c, t, f, p), rfl⟩ | _ => none
noncomputable def asFor : (s : Stmt) -> Option {t : Expr × Expr × List Stmt × Pos // s = .For t.1 t.2.1 t.2.2.1 [] t.2.2.2} | .For t i b [] p => some ⟨(t, i, b, p), rfl⟩ | _ => none
noncomputable def asWhile : (s : Stmt) -> Option {t : Expr × List Stmt × Pos // s = .While t.1 t.2.1 [] t.2.2} | .While c b [] p => some ⟨(c, b, p), rfl⟩ | _ => none
noncomputable def asRet : (s : Stmt) -> Option {t : Expr × Pos // s = .Return (some t.1) t.2} | .Return (some e) p => some ⟨(e, p), rfl⟩ | _ => none
noncomputable def asCont : (s : Stmt) -> Option {p : Pos // s = .Continue p} | .Continue p => some ⟨p, rfl⟩ | _ => none
section
variable {e : Expr}
noncomputable def plainV : Expr -> Bool | .ListComp .. => false | .SetComp .. => false | .DictComp .. => false | .Tuple .. => false | _ => true
noncomputable def noSlice : Expr -> Bool | .Slice .. => false | _ => true
theorem noComp_ok (h : noComp e = true) (t : Option Expr) (l : Nat) (env : Env) : swapsWith e t l env = pure false := by cases e <;> first | rfl | exact nf h
theorem plainV_comp (h : plainV e = true) : noComp e = true := by cases e <;> first | rfl | exact nf h
theorem plainV_tup (h : plainV e = true) (env : Env) (es : List Expr) (k : Nat) (p : Pos) : swappedStores [.Tuple es k p] e env = pure none := by cases e <;> first | rfl | exact nf h
theorem plainV_att (env : Env) (o : Expr) (y : Str) (p : Pos) : swappedStores [.Attribute o y p] e env = pure none := by cases e <;> rfl
theorem noSlice_ok (h : noSlice e = true) (ov iv new : Value) : augStore e ov iv new = (do holding [new, ov, iv] (PySem.setItem ov iv new); release [new, ov, iv] []; pure .next) := by cases e <;> first | rfl | exact nf h
end
noncomputable def chkT (xs : List Str) : List Nat -> List Expr -> Bool
 | [] => fun es => es.isEmpty
 | i :: is => fun es => (unc es).any fun u => (asName u.1).any fun x => decide (xs[i]? = some x.1.1) && chkT xs is u.2
theorem chkT_ok {xs : List Str} : ∀ {is : List Nat} {es : List Expr}, chkT xs is es = true -> Tgts xs es is
 | [], es, h => by rw [emp_inv h]; exact .nil
 | i :: is, es, h => by
   replace h := any_inv h
   refine cps fun _ zk => ?_
   refine x1_2 h fun u h1 _ => ?_
   clear h; rename_i h
   refine any_c h fun x _ h => ?_
   refine zk ?_; clear zk
   rw [unc_inv h1, x.2]
   exact .cons (dec_inv (and_inv h).1) (chkT_ok (and_inv h).2)
noncomputable def chkAC (cn : List Str) (x : Str) (p : Pos) (e : Expr) : Bool := (asComp e).any fun t => (oneGen t.1.2.1).isSome && (decide (x ∉ cn) && ((p.line == t.1.2.2.2.line) && !(t.1.2.2.1.names.any fun nk => nk.1 == x && (nk.2 == .local || nk.2 == .cell))))
section
variable {S : St} {xs gl cn : List Str} {s : Stmt} {a b c : E} {f g k : Expr -> Bool} {B1 B2 : List Stmt -> Bool} {b1 b2 : Ss}
theorem trs_ac {i : Nat} {x : Str} {p pos : Pos} {e : Expr} (h1 : xs[i]? = some x) (h : chkAC cn x p e = true) (h2 : TrE S xs gl cn e a) : TrS S xs gl cn (.Assign [.Name x p] e pos) (.asg i a) := by
 refine cps fun _ zk => ?_
 refine any_c h fun t _ h => ?_
 refine and_c h fun h7 h => ?_
 refine and_c h fun h8 h => ?_
 refine and_c h fun h9 h10 => ?_
 replace h7 := Option.isSome_iff_exists.mp h7
 obtain ⟨u, _⟩ := h7
 have he := t.2.trans (congrArg (fun z => Expr.ListComp t.1.1 z t.1.2.2.1 t.1.2.2.2) u.2)
 rw [he] at h2
 refine zk ?_; clear zk
 rw [he]
 exact .asgComp h1 (dec_inv h8) h9 (not_inv h10) h2
noncomputable def sAsg (i : Nat) (xs cn : List Str) (f : Expr -> Bool) (s : Stmt) : Bool := (asAssign s).any fun t => (asName t.1.1).any fun x => decide (xs[i]? = some x.1.1) && (f t.1.2.1 && (noComp t.1.2.1 || chkAC cn x.1.1 x.1.2 t.1.2.1))
theorem sAsg_ok {i : Nat} (hf : ∀ e, f e = true -> TrE S xs gl cn e a) (h : sAsg i xs cn f s = true) : TrS S xs gl cn s (.asg i a) := by
 refine cps fun _ zk => ?_
 refine any_c h fun t _ h => ?_
 refine any_c h fun x _ h => ?_
 refine and_c h fun h4 h => ?_
 refine and_c h fun h5 h => ?_
 refine zk ?_; clear zk
 rw [t.2, x.2]
 rcases (Bool.or_eq_true ..).mp h with h | h
 · exact .asg (dec_inv h4) (fun env => noComp_ok h _ _ env) (hf _ h5)
 · exact trs_ac (dec_inv h4) h (hf _ h5)
noncomputable def sUnp (is : List Nat) (xs : List Str) (f : Expr -> Bool) (s : Stmt) : Bool := (asAssign s).any fun t => (asTup t.1.1).any fun es => chkT xs is es.1.1 && (plainV t.1.2.1 && f t.1.2.1)
theorem sUnp_ok {is : List Nat} (hf : ∀ e, f e = true -> TrE S xs gl cn e a) (h : sUnp is xs f s = true) : TrS S xs gl cn s (.unpack is a) := by
 refine cps fun _ zk => ?_
 refine any_c h fun t _ h => ?_
 refine any_c h fun x _ h => ?_
 refine and_c h fun h4 h => ?_
 refine and_c h fun h5 h6 => ?_
 refine zk ?_; clear zk
 rw [t.2, x.2]
 exact .unpack (chkT_ok h4) (fun env => noComp_ok (plainV_comp h5) (some (.Tuple x.1.1 x.1.2.1 x.1.2.2)) t.1.2.2.line env) (fun env => plainV_tup h5 env _ _ _) (hf _ h6)
noncomputable def sIdx (f g k : Expr -> Bool) (s : Stmt) : Bool := (asAssign s).any fun t => (asSub t.1.1).any fun o => plainV t.1.2.1 && (f o.1.1 && (g o.1.2.1 && k t.1.2.1))
theorem sIdx_ok (hf : ∀ e, f e = true -> TrE S xs gl cn e a) (hg : ∀ e, g e = true -> TrE S xs gl cn e b) (hk : ∀ e, k e = true -> TrE S xs gl cn e c) (h : sIdx f g k s = true) : TrS S xs gl cn s (.setIdx a b c) := by
 refine cps fun _ zk => ?_
 refine any_c h fun t _ h => ?_
 refine any_c h fun x _ h => ?_
 refine and_c h fun h4 h => ?_
 refine and_c h fun h5 h => ?_
 refine and_c h fun h6 h7 => ?_
 refine zk ?_; clear zk
 rw [t.2, x.2]
 exact .setIdx (fun env => noComp_ok (plainV_comp h4) _ _ env) (hf _ h5) (hg _ h6) (hk _ h7)
noncomputable def sAttr (n : Nat) (f g : Expr -> Bool) (s : Stmt) : Bool := (asAssign s).any fun t => (asAttr t.1.1).any fun o => decide (fieldNames[n]? = some o.1.2.1) && (plainV t.1.2.1 && (f o.1.1 && g t.1.2.1))
theorem sAttr_ok {n : Nat} (hf : ∀ e, f e = true -> TrE S xs gl cn e a) (hg : ∀ e, g e = true -> TrE S xs gl cn e b) (h : sAttr n f g s = true) : TrS S xs gl cn s (.setAttr a n b) := by
 refine cps fun _ zk => ?_
 refine any_c h fun t _ h => ?_
 refine any_c h fun x _ h => ?_
 refine and_c h fun h4 h => ?_
 refine and_c h fun h5 h => ?_
 refine and_c h fun h6 h7 => ?_
 refine zk ?_; clear zk
 rw [t.2, x.2]
 exact .setAttr (dec_inv h4) (fun env => noComp_ok (plainV_comp h5) (some (.Attribute x.1.1 x.1.2.1 x.1.2.2)) t.1.2.2.line env) (fun env => plainV_att env _ _ _) (hf _ h6) (hg _ h7)
noncomputable def sAugL (i : Nat) (o : B) (xs : List Str) (f : Expr -> Bool) (s : Stmt) : Bool := (asAug s).any fun t => (asName t.1.1).any fun x => decide (xs[i]? = some x.1.1) && (isB t.1.2.1 o && (nDbg x.1.1 && (!(x.1.1 == ("__classdict__" : Str)) && f t.1.2.2.1)))
theorem sAugL_ok {i : Nat} {o : B} (hf : ∀ e, f e = true -> TrE S xs gl cn e a) (h : sAugL i o xs f s = true) : TrS S xs gl cn s (.augLoc i o a) := by
 refine cps fun _ zk => ?_
 refine any_c h fun t _ h => ?_
 refine any_c h fun x _ h => ?_
 refine and_c h fun h4 h => ?_
 refine and_c h fun h5 h => ?_
 refine and_c h fun h6 h => ?_
 refine and_c h fun h7 h8 => ?_
 refine zk ?_; clear zk
 rw [t.2, x.2]
 exact .augLoc (dec_inv h4) (isB_ok h5) (not_inv h6) (not_inv h7) (hf _ h8)
noncomputable def sAugI (o : B) (f g k : Expr -> Bool) (s : Stmt) : Bool := (asAug s).any fun t => (asSub t.1.1).any fun u => isB t.1.2.1 o && (noSlice u.1.2.1 && (f u.1.1 && (g u.1.2.1 && k t.1.2.2.1)))
theorem sAugI_ok {o : B} (hf : ∀ e, f e = true -> TrE S xs gl cn e a) (hg : ∀ e, g e = true -> TrE S xs gl cn e b) (hk : ∀ e, k e = true -> TrE S xs gl cn e c) (h : sAugI o f g k s = true) : TrS S xs gl cn s (.augIdx a b o c) := by
 refine cps fun _ zk => ?_
 refine any_c h fun t _ h => ?_
 refine any_c h fun x _ h => ?_
 refine and_c h fun h4 h => ?_
 refine and_c h fun h5 h => ?_
 refine and_c h fun h6 h => ?_
 refine and_c h fun h7 h8 => ?_
 refine zk ?_; clear zk
 rw [t.2, x.2]
 exact .augIdx (isB_ok h4) (fun ov iv new => noSlice_ok h5 ov iv new) (hf _ h6) (hg _ h7) (hk _ h8)
noncomputable def sExpr (f : Expr -> Bool) (s : Stmt) : Bool := (asExprS s).any fun t => noComp t.1.1 && f t.1.1
theorem sExpr_ok (hf : ∀ e, f e = true -> TrE S xs gl cn e a) (h : sExpr f s = true) : TrS S xs gl cn s (.expr a) := by
 refine any_c h fun t _ h => ?_
 rw [t.2]
 exact .expr (fun env => noComp_ok (and_inv h).1 _ _ env) (hf _ (and_inv h).2)
noncomputable def sIf (f : Expr -> Bool) (B1 B2 : List Stmt -> Bool) (s : Stmt) : Bool := (asIf s).any fun t => f t.1.1 && (B1 t.1.2.1 && B2 t.1.2.2.1)
theorem sIf_ok (hf : ∀ e, f e = true -> TrE S xs gl cn e a) (h1 : ∀ l, B1 l = true -> TrSs S xs gl cn l b1) (h2 : ∀ l, B2 l = true -> TrSs S xs gl cn l b2) (h : sIf f B1 B2 s = true) : TrS S xs gl cn s (.ife a b1 b2) := by
 refine any_c h fun t _ h => ?_
 rw [t.2]
 exact .ife (hf _ (and_inv h).1) (h1 _ (and_inv (and_inv h).2).1) (h2 _ (and_inv (and_inv h).2).2)
noncomputable def sFor (i : Nat) (xs : List Str) (f : Expr -> Bool) (B1 : List Stmt -> Bool) (s : Stmt) : Bool := (asFor s).any fun t => (asName t.1.1).any fun x => decide (xs[i]? = some x.1.1) && (f t.1.2.1 && B1 t.1.2.2.1)
theorem sFor_ok {i : Nat} (hf : ∀ e, f e = true -> TrE S xs gl cn e a) (h1 : ∀ l, B1 l = true -> TrSs S xs gl cn l b1) (h : sFor i xs f B1 s = true) : TrS S xs gl cn s (.for_ i a b1) := by
 refine cps fun _ zk => ?_
 refine any_c h fun t _ h => ?_
 refine any_c h fun x _ h => ?_
 refine zk ?_; clear zk
 rw [t.2, x.2]
 exact .for_ (dec_inv (and_inv h).1) (hf _ (and_inv (and_inv h).2).1) (h1 _ (and_inv (and_inv h).2).2)
noncomputable def sForT (is : List Nat) (xs : List Str) (f : Expr -> Bool) (B1 : List Stmt -> Bool) (s : Stmt) : Bool := (asFor s).any fun t => (asTup t.1.1).any fun es => chkT xs is es.1.1 && (f t.1.2.1 && B1 t.1.2.2.1)
theorem sForT_ok {is : List Nat} (hf : ∀ e, f e = true -> TrE S xs gl cn e a) (h1 : ∀ l, B1 l = true -> TrSs S xs gl cn l b1) (h : sForT is xs f B1 s = true) : TrS S xs gl cn s (.forT is a b1) := by
 refine cps fun _ zk => ?_
 refine any_c h fun t _ h => ?_
 refine any_c h fun x _ h => ?_
 refine zk ?_; clear zk
 rw [t.2, x.2]
 exact .forT (chkT_ok (and_inv h).1) (hf _ (and_inv (and_inv h).2).1) (h1 _ (and_inv (and_inv h).2).2)
noncomputable def sWhile (f : Expr -> Bool) (B1 : List Stmt -> Bool) (s : Stmt) : Bool := (asWhile s).any fun t => f t.1.1 && B1 t.1.2.1
theorem sWhile_ok (hf : ∀ e, f e = true -> TrE S xs gl cn e a) (h1 : ∀ l, B1 l = true -> TrSs S xs gl cn l b1) (h : sWhile f B1 s = true) : TrS S xs gl cn s (.while a b1) := by
 refine any_c h fun t _ h => ?_
 rw [t.2]
 exact .while (hf _ (and_inv h).1) (h1 _ (and_inv h).2)
noncomputable def sRet (f : Expr -> Bool) (s : Stmt) : Bool := (asRet s).any fun t => f t.1.1
theorem sRet_ok (hf : ∀ e, f e = true -> TrE S xs gl cn e a) (h : sRet f s = true) : TrS S xs gl cn s (.ret a) := by
 refine any_c h fun t _ h => ?_
 rw [t.2]
 exact .ret (hf _ h)
theorem sCont_ok (h : (asCont s).isSome = true) : TrS S xs gl cn s .cont := by
 replace h := Option.isSome_iff_exists.mp h
 obtain ⟨t, _⟩ := h
 rw [t.2]
 exact .cont
mutual
noncomputable def chkS (xs gl cn : List Str) : Mine.S -> Stmt -> Bool
 | .asg i a => sAsg i xs cn (chkE a xs gl cn)
 | .unpack is a => sUnp is xs (chkE a xs gl cn)
 | .setIdx a i v => sIdx (chkE a xs gl cn) (chkE i xs gl cn) (chkE v xs gl cn)
 | .setAttr a k v => sAttr k (chkE a xs gl cn) (chkE v xs gl cn)
 | .augLoc i o a => sAugL i o xs (chkE a xs gl cn)
 | .augIdx a i o v => sAugI o (chkE a xs gl cn) (chkE i xs gl cn) (chkE v xs gl cn)
 | .expr a => sExpr (chkE a xs gl cn)
 | .ife c t f => sIf (chkE c xs gl cn) (chkSs xs gl cn t) (chkSs xs gl cn f)
 | .for_ i it b => sFor i xs (chkE it xs gl cn) (chkSs xs gl cn b)
 | .forT is it b => sForT is xs (chkE it xs gl cn) (chkSs xs gl cn b)
 | .while c b => sWhile (chkE c xs gl cn) (chkSs xs gl cn b)
 | .ret a => sRet (chkE a xs gl cn)
 | .cont => fun s => (asCont s).isSome
 | .stuck => fun _ => true
noncomputable def chkSs (xs gl cn : List Str) : Ss -> List Stmt -> Bool
 | .nil => fun ss => ss.isEmpty
 | .cons a r => fun ss => (unc ss).any fun u => chkS xs gl cn a u.1 && chkSs xs gl cn r u.2
end
mutual
theorem chkS_ok (W : SOk S) : ∀ (a : Mine.S) (s : Stmt), chkS xs gl cn a s = true -> TrS S xs gl cn s a
 | .asg i a, s, h => sAsg_ok (chkE_ok W a xs gl cn) h
 | .unpack is a, s, h => sUnp_ok (chkE_ok W a xs gl cn) h
 | .setIdx a i v, s, h => sIdx_ok (chkE_ok W a xs gl cn) (chkE_ok W i xs gl cn) (chkE_ok W v xs gl cn) h
 | .setAttr a k v, s, h => sAttr_ok (chkE_ok W a xs gl cn) (chkE_ok W v xs gl cn) h
 | .augLoc i o a, s, h => sAugL_ok (chkE_ok W a xs gl cn) h
 | .augIdx a i o v, s, h => sAugI_ok (chkE_ok W a xs gl cn) (chkE_ok W i xs gl cn) (chkE_ok W v xs gl cn) h
 | .expr a, s, h => sExpr_ok (chkE_ok W a xs gl cn) h
 | .ife c t f, s, h => sIf_ok (chkE_ok W c xs gl cn) (chkSs_ok W t) (chkSs_ok W f) h
 | .for_ i it b, s, h => sFor_ok (chkE_ok W it xs gl cn) (chkSs_ok W b) h
 | .forT is it b, s, h => sForT_ok (chkE_ok W it xs gl cn) (chkSs_ok W b) h
 | .while c b, s, h => sWhile_ok (chkE_ok W c xs gl cn) (chkSs_ok W b) h
 | .ret a, s, h => sRet_ok (chkE_ok W a xs gl cn) h
 | .cont, s, h => sCont_ok h
 | .stuck, s, h => .stuck
theorem chkSs_ok (W : SOk S) : ∀ (a : Ss) (ss : List Stmt), chkSs xs gl cn a ss = true -> TrSs S xs gl cn ss a
 | .nil, ss, h => by rw [emp_inv h]; exact .nil
 | .cons a r, ss, h => by
   refine any_c h fun u h1 h => ?_
   rw [unc_inv h1]
   exact .cons (chkS_ok W a _ (and_inv h).1) (chkSs_ok W r _ (and_inv h).2)
end
end
noncomputable def xsOf (s : Scope) : List Str := (s.names.filter fun z => z.2 == .local || z.2 == .cell).map (·.1)
noncomputable def cnOf (s : Scope) : List Str := (s.names.filter fun z => z.2 == .cell).map (·.1)
noncomputable def glOf (s : Scope) : List Str := (s.names.filter fun z => z.2 == .globalImplicit).map (·.1)
noncomputable def chkFn (xs : List Str) (s : Stmt) (f : Fn) : Bool := chkSs xs (glOf (dScope s)) (cnOf (dScope s)) f.body (dBody s) && (decide ((dScope s).kind = .function) && (decide ((dScope s).isCoroutine = false) && (decide ((dScope s).isGenerator = false) && (decide (xs.length = f.nloc) && (decide (f.nargs <= f.nloc) && (decide xs.Nodup &&
 (decide (∀ x ∈ xs, (x ∈ cnOf (dScope s) /\ (dScope s).names.lookup x = some .cell) \/ (x ∉ cnOf (dScope s) /\ (dScope s).names.lookup x = some .local)) && (decide (∀ x ∈ glOf (dScope s), (dScope s).names.lookup x = some .globalImplicit) && decide (∀ x ∈ cnOf (dScope s), (dScope s).names.lookup x = some .cell)))))))))
theorem fn_of {S : St} (xs : List Str) {f : Fn} {a : Addr} {s : Stmt} {q m : String} {t : Nat} {c : Addr} (W : SOk S) (hK : S.K.lookup a = some (fnO s q m t c)) (hc : codeIn S.K (.ref c) (Str.ofString q) = true) (hb : chkFn xs s f = true)
 (hbind : ∀ vals : List Value, vals.length = f.nargs -> bindArgs (fnOf (dName s) (Str.ofString q) (dPar s) (dBody s) (dScope s) .none .none .none (.str (Str.ofString m) t) none (.ref c) .none) ⟨vals, []⟩ = pure ((xs.take f.nargs).zip vals)) : FnOk S f a := by
 refine cps fun _ zk => ?_
 obtain ⟨h1, hb⟩ := and_inv hb
 simp only [Bool.and_eq_true, decide_eq_true_iff] at hb
 refine x0_9 hb fun h2 h3 h4 h5 h6 h7 h8 h9 h10 => ?_
 clear hb
 refine zk ?_; clear zk
 exact ⟨xs, glOf (dScope s), cnOf (dScope s), _, _, _, _, _, _, _, _, _, _, _, _, _, _, _, hK, hc, chkSs_ok W f.body _ h1, h2, h3, h4, h5, h6, h7, h8, h9, h10, hbind⟩
section
variable {P : List Value -> Prop}
theorem v0 (h : P []) : ∀ vals : List Value, vals.length = 0 -> P vals := fun vals e => by cases vals with | nil => exact h | cons _ _ => cases e
theorem vS {n : Nat} (h : ∀ a, ∀ vals : List Value, vals.length = n -> P (a :: vals)) : ∀ vals : List Value, vals.length = n + 1 -> P vals := fun vals e => by
 cases vals with
 | nil => cases e
 | cons a r => exact h a r (Nat.succ.inj e)
theorem v1 (h : ∀ a, P [a]) : ∀ vals : List Value, vals.length = 1 -> P vals := vS fun a => v0 (h a)
theorem v2 (h : ∀ a b, P [a, b]) : ∀ vals : List Value, vals.length = 2 -> P vals := vS fun a => vS fun b => v0 (h a b)
theorem v3 (h : ∀ a b c, P [a, b, c]) : ∀ vals : List Value, vals.length = 3 -> P vals := vS fun a => vS fun b => vS fun c => v0 (h a b c)
theorem v4 (h : ∀ a b c d, P [a, b, c, d]) : ∀ vals : List Value, vals.length = 4 -> P vals := vS fun a => vS fun b => vS fun c => vS fun d => v0 (h a b c d)
theorem v5 (h : ∀ a b c d e, P [a, b, c, d, e]) : ∀ vals : List Value, vals.length = 5 -> P vals := vS fun a => vS fun b => vS fun c => vS fun d => vS fun e => v0 (h a b c d e)
theorem v6 (h : ∀ a b c d e f, P [a, b, c, d, e, f]) : ∀ vals : List Value, vals.length = 6 -> P vals := vS fun a => vS fun b => vS fun c => vS fun d => vS fun e => vS fun f => v0 (h a b c d e f)
theorem v7 (h : ∀ a b c d e f g, P [a, b, c, d, e, f, g]) : ∀ vals : List Value, vals.length = 7 -> P vals := vS fun a => vS fun b => vS fun c => vS fun d => vS fun e => vS fun f => vS fun g => v0 (h a b c d e f g)
end
section
variable {w : World} {p : Program} {loose : List Str} {mean : ExcName -> Option Value} {mg mb : Str -> Option Value} {h : Heap} {sc : Addr} {ns : List Int}
theorem st_sok : SOk (st w p loose mean mg mb h sc ns) := ⟨⟨w.params, rfl⟩, fun k a e => by
 show (gadC ++ [sc])[k]? = some a
 rw [List.getElem?_append_left (gsm e).1]; exact e, rfl⟩
noncomputable def mG : String × Nat := ("chess.geometry", 248)
noncomputable def mS : String × Nat := ("chess.sliders", 409)
noncomputable def mR : String × Nat := ("chess.retro", 476)
noncomputable def mL : String × Nat := ("law_nt0439_01", 629)
noncomputable def FnB (s : Stmt) (q : String) (m : String × Nat) (c : Addr) (f : Fn) (vals : List Value) : Prop :=
 bindArgs (fnOf (dName s) (Str.ofString q) (dPar s) (dBody s) (dScope s) .none .none .none (.str (Str.ofString m.1) m.2) none (.ref c) .none) ⟨vals, []⟩ = pure (((xsOf (dScope s)).take f.nargs).zip vals)
theorem okF {f : Fn} {c : Addr} (s : Stmt) (q : String) (m : String × Nat) (hbind : ∀ vals : List Value, vals.length = f.nargs -> FnB s q m c f vals) (hK : (Mine.K w.params).lookup (c + 1) = some (fnO s q m.1 m.2 c) := by kernel_rfl) (hc : codeIn (Mine.K w.params) (.ref c) (Str.ofString q) = true := by kernel_rfl) (hb : chkFn (xsOf (dScope s)) s f = true := by kernel_rfl) :
 FnOk (st w p loose mean mg mb h sc ns) f (c + 1) := fn_of (xsOf (dScope s)) st_sok hK hc hb hbind
theorem ok_solve : FnOk (st w p loose mean mg mb h sc ns) f_solve 172 := fn_of ["sides", "after", "lost", "values", "left", "before", "queue", "n", "m", "at"] (s := dS topS 35) (q := "solve") (m := "chess.retro") (t := 476) (c := 171) st_sok (by kernel_rfl) (by kernel_rfl) (by kernel_rfl) (v3 (fun a b c => by kernel_rfl))
end
section
variable {w : World} {p : Program} {loose : List Str} {mean : ExcName -> Option Value} {mg mb : Str -> Option Value} {h : Heap} {sc : Addr} {ns : List Int}
noncomputable def AllFn (S : St) : List Fn -> List Addr -> Prop
 | f :: fs, a :: as => FnOk S f a /\ AllFn S fs as
 | _, _ => True
theorem AllFn.at_ {S : St} {fs : List Fn} {as : List Addr} (h : AllFn S fs as) {i : Nat} {f : Fn} {a : Addr} (e1 : fs[i]? = some f) (e2 : as[i]? = some a) : FnOk S f a := by
 induction fs generalizing as i with
 | nil => exact nn e1
 | cons x fs ih =>
   cases as with
   | nil => exact nn e2
   | cons y as =>
     cases i with
     | zero => cases e1; cases e2; exact h.1
     | succ i => exact ih h.2 e1 e2
theorem fns_ok (f : Nat) (fn : Fn) (a : Addr) (e1 : fnOfId f = some fn) (e2 : fadL[f]? = some a) : FnOk (st w p loose mean mg mb h sc ns) fn a :=
 AllFn.at_ (fs := fnL) (as := fadL) (show AllFn _ fnL fadL from ⟨okF (dS topS 14) "is_growing" mG (v1 fun _ => by show _ = _; kernel_rfl),
  okF (dS topS 15) "add_masks" mG (v1 fun _ => by show _ = _; kernel_rfl),
  okF (dS topS 16) "inner_squares" mG (v2 fun _ _ => by show _ = _; kernel_rfl),
  okF (dS topS 17) "add_rays" mG (v1 fun _ => by show _ = _; kernel_rfl),
  okF (dS topS 18) "add_pawns" mG (v1 fun _ => by show _ = _; kernel_rfl),
  okF (dS topS 19) "add_knights" mG (v1 fun _ => by show _ = _; kernel_rfl),
  okF (dS topS 20) "add_castles" mG (v1 fun _ => by show _ = _; kernel_rfl),
  okF (dS topS 21) "make_geometry" mG (v4 fun _ _ _ _ => by show _ = _; kernel_rfl),
  okF (dS topS 23) "ray_attacks" mS (v4 fun _ _ _ _ => by show _ = _; kernel_rfl),
  okF (dS topS 24) "rook_attacks" mS (v3 fun _ _ _ => by show _ = _; kernel_rfl),
  okF (dS topS 25) "bishop_attacks" mS (v3 fun _ _ _ => by show _ = _; kernel_rfl),
  okF (dS topS 26) "queen_attacks" mS (v3 fun _ _ _ => by show _ = _; kernel_rfl),
  okF (dS topS 27) "slider_attacks" mS (v4 fun _ _ _ _ => by show _ = _; kernel_rfl),
  okF (dS topS 28) "piece_attacks" mS (v5 fun _ _ _ _ _ => by show _ = _; kernel_rfl),
  ok_solve,
  okF (dS topS 36) "index_of" mR (v5 fun _ _ _ _ _ => by show _ = _; kernel_rfl),
  okF (dS topS 37) "parts_of" mR (v2 fun _ _ => by show _ = _; kernel_rfl),
  okF (dS topS 38) "mark_places" mR (v4 fun _ _ _ _ => by show _ = _; kernel_rfl),
  okF (dS topS 39) "weak_moves" mR (v5 fun _ _ _ _ _ => by show _ = _; kernel_rfl),
  okF (dS topS 40) "strong_moves" mR (v6 fun _ _ _ _ _ _ => by show _ = _; kernel_rfl),
  okF (dS topS 41) "moves_at" mR (v7 fun _ _ _ _ _ _ _ => by show _ = _; kernel_rfl),
  okF (dS topS 42) "build_zone" mR (v3 fun _ _ _ => by show _ = _; kernel_rfl),
  okF (dS topS 43) "build_table" mR (v2 fun _ _ => by show _ = _; kernel_rfl),
  okF (dS topS 44) "probe" mR (v7 fun _ _ _ _ _ _ _ => by show _ = _; kernel_rfl),
  okF (dS topS 48) "_law_shapes" mL (v0 (by show _ = _; kernel_rfl)),
  okF (dS topS 49) "_law_take" mL (v2 fun _ _ => by show _ = _; kernel_rfl),
  okF (dS topS 50) "_law_met" mL (v5 fun _ _ _ _ _ => by show _ = _; kernel_rfl),
  okF (dS topS 51) "_law_hits" mL (v4 fun _ _ _ _ => by show _ = _; kernel_rfl),
  okF (dS topS 52) "_law_close" mL (v3 fun _ _ _ => by show _ = _; kernel_rfl),
  okF (dS topS 53) "_law_stands" mL (v4 fun _ _ _ _ => by show _ = _; kernel_rfl),
  okF (dS topS 54) "_law_moves" mL (v4 fun _ _ _ _ => by show _ = _; kernel_rfl),
  okF (dS topS 55) "_law_word" mL (v4 fun _ _ _ _ => by show _ = _; kernel_rfl),
  okF (dS topS 56) "_law_mated" mL (v5 fun _ _ _ _ _ => by show _ = _; kernel_rfl),
  okF (dS topS 57) "_law_want" mL (v6 fun _ _ _ _ _ _ => by show _ = _; kernel_rfl),
  okF (dS topS 58) "_law_right" mL (v6 fun _ _ _ _ _ _ => by show _ = _; kernel_rfl),
  okF (dS topS 59) "_law_drawn" mL (v3 fun _ _ _ => by show _ = _; kernel_rfl),
  okF (dS topS 62) "law" mL (v1 fun _ => by show _ = _; kernel_rfl),
  okF (dS (dBody (dS topS 13)) 0) "Geometry.__init__" mG (v5 fun _ _ _ _ _ => by show _ = _; kernel_rfl), True.intro⟩) e1 e2
theorem geo_tab (P : Params) : fieldNames.map (fun y => (findIn (Mine.K P) (.ref geoCls) y, takerIn (Mine.K P) geoCls y)) = fieldNames.map fun _ => (some none, some none) := by kernel_rfl
theorem geo_plain (P : Params) (y : Str) : plainGet (Mine.K P) geoCls y = true := by kernel_rfl
theorem geo_fields (P : Params) : ∀ y ∈ fieldNames, plainGet (Mine.K P) geoCls y = true /\ hasDictIn (Mine.K P) geoCls = true /\ (∃ at_, findIn (Mine.K P) (.ref geoCls) y = some at_ /\ noGet (Mine.K P) at_ = true) /\ takerIn (Mine.K P) geoCls y = some none := fun y hy =>
 have q := map_at (geo_tab P) y hy
 ⟨geo_plain P y, by kernel_rfl, ⟨none, congrArg Prod.fst q, by kernel_rfl⟩, congrArg Prod.snd q⟩
theorem geo_set (P : Params) : findIn (Mine.K P) (.ref geoCls) "__setattr__" = some (some (.builtin "object.__setattr__")) /\ plainOver (Mine.K P) geoCls = true := ⟨by kernel_rfl, by kernel_rfl⟩
theorem k_makes (P : Params) : makesIn (Mine.K P) geoCls = true := by kernel_rfl
theorem k_init (P : Params) : findIn (Mine.K P) (.ref geoCls) "__init__" = some (some (.ref 62)) := by kernel_rfl
theorem k_isFn (P : Params) : typeIn (Mine.K P) (.ref 62) = some (.type "function") := by kernel_rfl
noncomputable def vOk : V -> Value -> Bool
 | .int i => fun u => isI (some u) i
 | .gref k => fun u => gadC[k]?.any fun a => isR (some u) a
 | _ => fun _ => false
noncomputable def vsOk : List V -> List Value -> Bool
 | [] => fun us => us.isEmpty
 | v :: r => fun us => (unc us).any fun u => vOk v u.1 && vsOk r u.2
noncomputable def mkSeq (b : Bool) (us : List Value) : Obj := { cls := .type (if b then "list" else "tuple"), data := .seq us.toArray }
noncomputable def oOk : O -> Bool × List Value -> Bool
 | .list xs => fun r => r.1 && vsOk xs r.2
 | .tup xs => fun r => !r.1 && vsOk xs r.2
 | _ => fun _ => false
noncomputable def gRows : List (Addr × Bool × List Value) := [(47, false, [.int 0 250, .int 1 251, .int 0 252, .int (-1) 254, .int 1 255, .int 1 256, .int (-1) 258, .int (-1) 260]), (48, false, [.int 1 262, .int 0 263, .int (-1) 265, .int 0 266, .int 1 267, .int (-1) 269, .int (-1) 271, .int 1 272]), (244, true, [.ref 236, .ref 237, .ref 238, .ref 239, .ref 240, .ref 241, .ref 242, .ref 243]), (253, true, [.ref 245, .ref 246, .ref 247, .ref 248, .ref 249, .ref 250, .ref 251, .ref 252]), (236, false, [.int 0 631, .int 1 632]), (237, false, [.int 1 633, .int 0 634]), (238, false, [.int 0 635, .int (-1) 637]), (239, false, [.int (-1) 639, .int 0 640]), (240, false, [.int 1 641, .int 1 642]), (241, false, [.int 1 643, .int (-1) 645]), (242, false, [.int (-1) 647, .int (-1) 649]), (243, false, [.int (-1) 651, .int 1 652]), (245, false, [.int 1 654, .int 2 655]), (246, false, [.int 2 656, .int 1 657]), (247, false, [.int 2 658, .int (-1) 660]), (248, false, [.int 1 661, .int (-2) 663]), (249, false, [.int (-1) 665, .int (-2) 667]), (250, false, [.int (-2) 669, .int (-1) 671]), (251, false, [.int (-2) 673, .int 1 674]), (252, false, [.int (-1) 676, .int 2 677])]
noncomputable def gobjC : List O := (gobj []).take 20
noncomputable def rowsOk : List O -> List (Addr × Bool × List Value) -> Bool
 | [] => fun _ => true
 | o :: os => fun rs => (unc rs).any fun r => oOk o r.1.2 && rowsOk os r.2
theorem gRows_ok : rowsOk gobjC gRows = true := by kernel_rfl
theorem gRows_gad : gRows.map (·.1) = gadC := rfl
theorem gRows_K (P : Params) : gRows.map (fun r => (Mine.K P).lookup r.1) = gRows.map fun r => some (mkSeq r.2.1 r.2.2) := by kernel_rfl
theorem vOk_ok {v : V} {u : Value} (e : vOk v u = true) : VR (gadL sc) [] v u := by
 cases v with
 | int i => exact (isI_ok e).elim fun t q => ⟨t, Option.some.inj q⟩
 | gref k =>
   refine x1_2 (any_inv e) fun a q r => ?_
   refine ⟨a, ?_, Option.some.inj (isR_ok r)⟩
   show (gadC ++ [sc])[k]? = some a
   rw [List.getElem?_append_left (gsm q).1]; exact q
 | _ => exact nf e
theorem vsOk_ok {xs : List V} {us : List Value} (e : vsOk xs us = true) : VRs (gadL sc) [] xs us := by
 induction xs generalizing us with
 | nil => exact emp_inv e
 | cons v r ih => exact x1_2 (any_inv e) fun u q k => i2_3 u.1 u.2 (unc_inv q) (vOk_ok (and_inv k).1) (ih (and_inv k).2)
theorem oOk_ok {o : O} {r : Bool × List Value} {prog : Program} (e : oOk o r = true) : OR prog w (gadL sc) [] o (mkSeq r.1 r.2) := by
 cases o with
 | list xs => exact i2_2 r.2.toArray _ (by rw [(and_inv e).1]; rfl) (vsOk_ok (and_inv e).2)
 | tup xs => exact i2_2 r.2.toArray _ (by rw [not_inv (and_inv e).1]; rfl) (vsOk_ok (and_inv e).2)
 | _ => exact nf e
theorem rows_at {os : List O} {rs : List (Addr × Bool × List Value)} (e : rowsOk os rs = true) {k : Nat} {o : O} (h : os[k]? = some o) : ∃ r, rs[k]? = some r /\ oOk o r.2 = true := by
 induction os generalizing rs k with
 | nil => exact nn h
 | cons x os ih =>
   refine x1_2 (any_inv e) fun r q e => ?_
   cases unc_inv q
   cases k with
   | zero => cases h; exact i1_2 r.1 rfl ((and_inv e).1)
   | succ k => exact ih (and_inv e).2 h
theorem gobj_ok (X : (Mine.K w.params).In h) (hs : ∃ ob, h.get? sc = some ob /\ OR PySem.Challenge.rw_nt0439_01.row.prog w (gadL sc) [] (.list (ns.map .int)) ob) (k : Nat) (o : O) (e : (gobj ns)[k]? = some o) : ∃ a ob, (gadL sc)[k]? = some a /\ h.get? a = some ob /\ OR PySem.Challenge.rw_nt0439_01.row.prog w (gadL sc) [] o ob := by
 have e : (gobjC ++ [.list (ns.map .int)])[k]? = some o := e
 show ∃ a ob, (gadC ++ [sc])[k]? = some a /\ _
 by_cases hk : k < 20
 · rw [List.getElem?_append_left hk] at e
   refine x1_2 (rows_at gRows_ok e) fun r hr ok => ?_
   refine i2_3 r.1 _ ?_ (X _ _ (map_at (gRows_K _) r (List.mem_of_getElem? hr))) (oOk_ok ok)
   rw [List.getElem?_append_left hk, <- gRows_gad, List.getElem?_map, hr]; rfl
 · rw [List.getElem?_append_right (Nat.le_of_not_lt hk)] at e
   have k0 : k - 20 = 0 := by
    have := (gsm e).1
    exact Nat.lt_one_iff.mp this
   have q : k = 20 := Nat.le_antisymm (Nat.sub_eq_zero_iff_le.mp k0) (Nat.le_of_not_lt hk)
   subst q
   refine so1 e ?_
   exact x1_2 hs fun ob q1 q2 => i2_3 _ ob rfl q1 q2
theorem st_good (X : (Mine.K w.params).In h) (T : Top p loose mean mg mb h) (hs : ∃ ob, h.get? sc = some ob /\ OR PySem.Challenge.rw_nt0439_01.row.prog w (gadL sc) [] (.list (ns.map .int)) ob) : (st w p loose mean mg mb h sc ns).Good where
 X := X
 T := T
 geo := geo_fields _
 geoSet := geo_set _
 G := gobj_ok X hs
end
end Mine
end
section
open PySem PySem.W PySem.Calls PyProof.Rows
set_option maxRecDepth 100000
namespace Mine
noncomputable abbrev excBm : List Value := [.type "Exception", .type "BaseException", .type "object"]
noncomputable abbrev badBm : List Value := .ref 31 :: excBm
noncomputable abbrev badObj : Obj := excClassObj "BadTable" "BadTable" 44 43 [.ref 31] badBm true [] [] false none none (some (.ref 35)) none (some (.str "BadTable" 218)) (some (.str "BadTable" 226)) (some (.bool true)) "Exception.__new__"
theorem k_bad (P : Params) : (Mine.K P).lookup 44 = some badObj := by kernel_rfl
theorem k_badInit (P : Params) : findIn (Mine.K P) (.ref 44) "__init__" = some (some (.ref 28)) := by kernel_rfl
theorem k_badFn (P : Params) : typeIn (Mine.K P) (.ref 28) = some (.type "function") := by kernel_rfl
noncomputable abbrev excObj (d : Option Addr) (t : Addr) : Obj := { cls := .ref 44, dict := d, data := .fields #[.ref t, .none, .none, .none, .bool false, .none] }
section
variable {prog : Program} {w : World} {A : Around} {E : Value -> Shared -> Prop} {R : Result -> Shared -> Prop} {h : Heap} {g : Array GenState} {d : Drawn} {t : Nat} {os : OsState}
theorem bad_new {rest : List Value} (hC : h.get? 44 = some badObj)
 (hq : R (.ok (.ret (.ref (h.objs.size + 1)))) ⟨(h.push { cls := .type "tuple", data := .seq rest.toArray }).push (excObj none h.objs.size), g, d, t, os⟩) (hrest : rest.length <= sizeLine) :
 codeAny (model prog w) A (.builtin "Exception.__new__" ⟨.ref 44 :: rest, []⟩) R ⟨h, g, d, t, os⟩ := by
 have Fn := PySem.F.excBase_Exception
 have hends := Fn.ends
 have hcB : (Value.ref 44 :: badBm).contains (.type "Exception") = true := by decide +kernel
 have hcA : (Value.ref 44 :: badBm).contains (.type "AttributeError") = false := by decide +kernel
 have hcN : (Value.ref 44 :: badBm).contains (.type "NameError") = false := by decide +kernel
 refine codeAny_builtinAt Fn.entry ?_
 unfold Builtin.«BaseException.__new__»
 refine PySem.wpAt_bind ?_
 show PySem.wpAt _ _ _ (stack >>= _) _ _ _
 refine PySem.wpAt_bind (PySem.wpAt_stack fun p below => PySem.wpAt_of_wpAny ?_)
 wp_walk
 refine PySem.wpAt_of_wpAny ?_
 rw [Fn.owner]
 repeat (first | with_reducible refine wpAny_madeHere_exc Fn.canon hC ?_ | with_reducible refine wpAny_loadPart_at hC ?_ | (with_reducible refine wpAny_isSubtype_exc hC ?_; first | rw [hcB] | rw [hcA] | rw [hcN]) | wp_step)
 show R _ _
 rw [Heap.size_push]
 exact hq
theorem bad_check {rest : List Value} {Q : Unit -> Shared -> Prop} (hC : h.get? 44 = some badObj) (hq : Q () ⟨h, g, d, t, os⟩) : wpAny (model prog w) A (checkBuiltinCall "Exception.__new__" ⟨.ref 44 :: rest, []⟩) Q E ⟨h, g, d, t, os⟩ := by
 have Fn := PySem.F.excBase_Exception
 have hcont : (Value.ref 44 :: badBm).contains (.type "Exception") = true := by decide +kernel
 have hstar := Fn.noStar
 simp only [checkBuiltinCall, Fn.newKind, Fn.newSplit, Fn.newRow]
 repeat (first | refine wpAny_loadPart_at hC ?_ | (refine wpAny_isSubtype_exc hC ?_; rw [hcont]) | refine wpAny_staticBase_exc hC ?_ | refine wpAny_madeBy_exc hC ?_ | simp only [bne_self_eq_false, Bool.false_eq_true, if_false] | wp_step)
 exact hq
theorem bad_call {rest : List Value} {Q : Value -> Shared -> Prop} (X : (Mine.K w.params).In h) (hrest : rest.length <= sizeLine)
 (hq : codeAny (model prog w) (A.under (.builtin "type.__call__" ⟨.ref 44 :: rest, []⟩)) (.call (.ref 28) ⟨.ref (h.objs.size + 1) :: rest, []⟩) (fun r s' => match r with | .ok (.ret v) => v = .none /\ Q (.ref (h.objs.size + 1)) s' | .ok _ => False | .error e => E e s')
  ⟨(h.push { cls := .type "tuple", data := .seq rest.toArray }).push (excObj none h.objs.size), g, d, t, os⟩) :
 wpAny (model prog w) A (call (.ref 44) rest) Q E ⟨h, g, d, t, os⟩ := by
 have hC := X _ _ (k_bad w.params)
 have Fn := PySem.F.excBase_Exception
 have f1 := tc_lookup
 have f2 := tc_bind (.ref 44)
 have hT : (⟨h, g, d, t, os⟩ : Shared).TypeIs (.ref 44) "type" := ⟨_, hC, rfl⟩
 refine wpAny_call (codeAny_of_tree ?_)
 show wpAny _ _ (callAny (.ref 44) _) _ _ _
 repeat (any_goals (first | assumption | with_reducible refine wpAny_loadPart_at hC ?_ | wp_step))
 refine ⟨rfl, ?_⟩
 refine codeAny_call_builtin_at (Code.quiet_builtin _ (by decide +kernel)) entry_typeCall (wpAny_check_type_call_sub hC ?_)
 unfold Builtin.«type.__call__»
 repeat (first | with_reducible refine wpAny_loadPart_at hC ?_ | with_reducible refine wpAny_madeBy_exc hC ?_ | wp_step)
 refine codeAny_call_builtin_code (Code.quiet_builtin _ Fn.quiet) (bad_check hC ?_)
 refine bad_new hC ?_ hrest
 show wpAny _ _ _ _ _ _
 have k : ∀ b o, h.get? b = some o -> ((h.push { cls := .type "tuple", data := .seq rest.toArray }).push (excObj none h.objs.size)).get? b = some o := fun b o e => Heap.get?_push_of_some _ (Heap.get?_push_of_some _ e)
 have hC₁ := k _ _ hC
 have X₁ := X.keeps k
 have hget : ((h.push { cls := .type "tuple", data := .seq rest.toArray }).push (excObj none h.objs.size)).get? (h.objs.size + 1) = some (excObj none h.objs.size) := by heap_get
 have hcC : (Value.ref 44 :: badBm).contains (.ref 44) = true := by decide +kernel
 unfold isInstance
 repeat (first | with_reducible refine wpAny_loadPart_at hget ?_ | wp_step)
 show wpAny _ _ (isSubtype (.ref 44) _) _ _ _
 refine wpAny_isSubtype_exc hC₁ ?_
 rw [hcC]
 repeat (first | with_reducible refine wpAny_loadPart_at hget ?_ | wp_step)
 show wpAny _ _ (typeLookup (.ref 44) _) _ _ _
 refine (looks_findIn X₁ (k_badInit _)).here ?_
 refine wpAny_holding (wpAny_bind ((bind_fn X₁ (.ref (h.objs.size + 1)) (k_badFn _)).here ?_))
 refine wpAny_bind (wpAny_call (codeAny_mono hq fun r s' z => ?_))
 rcases r with e | (v | _ | _ | _) <;> first | exact z | exact z.elim | skip
 obtain ⟨rfl, z⟩ := z
 exact wpAny_pure (wpAny_pure z)
end
open PySem.Builtin.ObjectAttr in
theorem bad_refuse (self : Value) : refuseLoop self "__setattr__" (.ref 44 :: badBm) = pure () := by
 rw [refuseLoop_ref, refuseLoop_ref]
 kernel_rfl
theorem k_badTaker (P : Params) : takerIn (Mine.K P) 44 "text" = some none := by kernel_rfl
theorem k_badSet (P : Params) : findIn (Mine.K P) (.ref 44) "__setattr__" = some (some (.builtin "object.__setattr__")) := by kernel_rfl
theorem k_badText (P : Params) : findIn (Mine.K P) (.ref 44) "text" = some none := by kernel_rfl
section
variable {prog : Program} {w : World} {A : Around} {E : Value -> Shared -> Prop} {s : Shared}
theorem bad_osa {e t tk : Addr} {v : Value} {R : Result -> Shared -> Prop} (X : (Mine.K w.params).In s.heap) (he : s.heap.get? e = some (excObj none t))
 (h : ∀ h' d', (∀ b o, b ≠ e -> s.heap.get? b = some o -> h'.get? b = some o) -> h'.get? e = some (excObj (some d') t) -> R (.ok (.ret .none)) { s with heap := h', toks := s.toks + 1 }) :
 codeAny (model prog w) A (.call (.builtin "object.__setattr__") ⟨[.ref e, .str "text" tk, v], []⟩) R s := by
 have I : InstAt s.heap e (excObj none t) 44 none := ⟨he, rfl, rfl, trivial⟩
 have SF := PySem.F.store_object
 have hC := X _ _ (k_bad w.params)
 have sub : Looks (model prog w) s.heap (isInstance (.ref e) (.type "object")) true := by
  refine I.type.andThen ?_
  intro A Q E s k q
  obtain ⟨hp, g, d, t, os⟩ := s
  refine wpAny_isSubtype_exc (k _ _ hC) ?_
  rw [show (Value.ref 44 :: badBm).contains (.type "object") = true by decide +kernel]
  exact q
 have hm : Looks (model prog w) s.heap (mroOf (.ref 44)) (.ref 44 :: badBm) := by
  intro A Q E s k q
  obtain ⟨hp, g, d, t, os⟩ := s
  exact wpAny_mroOf_exc (k _ _ hC) q
 refine codeAny_call_builtin SF.slot.plain SF.entry (@check_slot (model prog w) _ _ s "object.__setattr__" "object" "__setattr__" (.ref e) [.str "text" tk, v] [] _ SF.kind SF.split sub (SF.args (.ref e) (.str "text" tk) v) ?_)
 rw [osa_eq, PySem.refuse_eq]
 refine wpAny_bind (wpAny_bind (I.type.here (wpAny_bind (hm.here ?_))))
 rw [bad_refuse]
 refine wpAny_pure (wpAny_bind (I.type.here (wpAny_bind ((looks_findIn X (k_badText _)).here (wpAny_bind (wpAny_pure ?_))))))
 show wpAny _ _ (PySem.Builtin.ObjectAttr.storeInOwnDict (.ref e) (.ref 44) _ "text" v _) _ _ _
 have L1 : Looks (model prog w) s.heap (classData 44) _ := looks_clsIn (K := Mine.K w.params) X (by unfold clsIn; rw [k_bad])
 refine wpAny_bind (wpAny_pure (wpAny_bind (wpAny_bind (wpAny_loadPart he (wpAny_bind (L1.here ?_))))))
 refine wpAny_bind (wpAny_alloc (wpAny_bind ?_))
 have he₁ := Heap.get?_push_of_some { cls := .type "dict", data := .dict #[] } he
 refine wpAny_update he₁ ?_
 refine wpAny_pure (a := some s.heap.objs.size) (wpAny_bind (wpAny_pure (wpAny_bind ?_)))
 have hd₂ : (((s.heap.push { cls := .type "dict", data := .dict #[] }).update e fun o => { o with dict := some s.heap.objs.size })).get? s.heap.objs.size = some (dictOf [] 0) := by
  rw [Heap.get?_update_other _ _ (Nat.ne_of_lt (Heap.lt_size he))]
  exact Heap.get?_push_size _ rfl
 have he₂ : (((s.heap.push { cls := .type "dict", data := .dict #[] }).update e fun o => { o with dict := some s.heap.objs.size })).get? e = some (excObj (some s.heap.objs.size) t) := Heap.get?_update_self _ he₁ rfl
 have hk₂ : ∀ b o, b ≠ e -> s.heap.get? b = some o -> (((s.heap.push { cls := .type "dict", data := .dict #[] }).update e fun o => { o with dict := some s.heap.objs.size })).get? b = some o := fun b o hb ho => by
  rw [Heap.get?_update_other _ _ (Ne.symm hb)]
  exact Heap.get?_push_of_some _ ho
 show wpAny (model prog w) _ _ _ _ { s with heap := ((s.heap.push { cls := .type "dict", data := .dict #[] }).update e fun o => { o with dict := some s.heap.objs.size }) }
 generalize ((s.heap.push { cls := .type "dict", data := .dict #[] }).update e fun o => { o with dict := some s.heap.objs.size }) = h₂ at hd₂ he₂ hk₂ ⊢
 unfold nsSet
 refine wpAny_bind (wpAny_bind (wpAny_askSetting (wpAny_pure (wpAny_bind (wpAny_mkText (wpAny_bind (wpAny_loadPart hd₂ ?_)))))))
 have q : (!([] : List DictEntry).toArray.any (·.key.isStr "text") && ([] : List DictEntry).toArray.any (·.refKey)) = false := by simp
 dsimp only
 rw [aRefKeyMayBeTheName_at, q]
 refine wpAny_updatePart hd₂ ?_
 have e1 : ∀ tk c, Obj.putName "text" (PyData.keyHash w.params "text") (.str "text" tk) c (dictOf [] 0) = dictOf (putL "text" (PyData.keyHash w.params "text") (.str "text" tk) c []) (putN "text" [] 0) := fun _ _ => putName_dict ..
 have D' : (h₂.update s.heap.objs.size (Obj.putName "text" (PyData.keyHash w.params "text") (.str "text" s.toks) v)).get? s.heap.objs.size = some (dictOf (putL "text" (PyData.keyHash w.params "text") (.str "text" s.toks) v []) (putN "text" [] 0)) := by
  rw [Heap.get?_update_self _ hd₂ (by rw [e1]; rfl), e1]
 refine wpAny_bind (wpAny_lookBehind D' (pastItsLine_dict (by rw [List.size_toArray, sizeLine_eq]; simp [putL])) ?_)
 have hne : e ≠ s.heap.objs.size := Nat.ne_of_lt (Heap.lt_size he)
 refine wpAny_pure (h _ s.heap.objs.size (fun b o hb ho => ?_) ?_)
 · rw [Heap.get?_update_other _ _ (Nat.ne_of_gt (Heap.lt_size ho))]
   exact hk₂ b o hb ho
 · rw [Heap.get?_update_other _ _ (Ne.symm hne)]
   exact he₂
theorem bad_store {e t : Addr} {v : Value} {Q : Unit -> Shared -> Prop} (X : (Mine.K w.params).In s.heap) (he : s.heap.get? e = some (excObj none t))
 (h : ∀ h' d', (∀ b o, b ≠ e -> s.heap.get? b = some o -> h'.get? b = some o) -> h'.get? e = some (excObj (some d') t) -> Q () { s with heap := h', toks := s.toks + 2 }) :
 wpAny (model prog w) A (PySem.setAttr (.ref e) "text" v) Q E s :=
 set_plain X (⟨he, rfl, rfl, trivial⟩ : InstAt s.heap e (excObj none t) 44 none) (k_badSet _) (bad_osa (s := { s with toks := s.toks + 1 }) X he fun h' d' k q => h h' d' k q)
end
theorem k_excInit (P : Params) : findCls (Mine.K P) (.type "Exception") (.type "type") "__init__" = some (.val (.builtin "Exception.__init__")) := by kernel_rfl
theorem k_excName (P : Params) : nsIn (Mine.K P) mainGlobals "Exception" = some none := by kernel_rfl
theorem boot_exc : bootBuiltins "Exception" = some (.type "Exception") := by kernel_rfl
section
variable {prog : Program} {w : World} {A : Around} {E : Value -> Shared -> Prop} {s : Shared}
theorem exc_method {pl : Sem Bool} {Q : Value × List Value -> Shared -> Prop} (X : (Mine.K w.params).In s.heap)
 (h : Q (.builtin "Exception.__init__", []) { s with toks := s.toks + 1 }) : wpAny (model prog w) A (getMethod (.type "Exception") "__init__" pl) Q E s := by
 have ht : typeOf (.type "Exception") = pure (.type "type") := by first | rfl | kernel_rfl
 have hstub : opaqueClassAbove (.type "Exception") = pure none := by unfold opaqueClassAbove; dsimp only; rw [show Manifest.isStub "Exception" = false by decide +kernel]; rfl
 have L0 : Looks (model prog w) s.heap (typeOf (.type "Exception")) (.type "type") := Looks.of_pure ht
 have hg : findIn (Mine.K w.params) (.type "type") "__getattribute__" = some (some (.builtin "type.__getattribute__")) := type_tga
 unfold getMethod specialOf
 refine wpAny_bind (wpAny_bind (L0.here ((looks_findIn X hg).here ?_)))
 dsimp only
 rw [if_pos canon_tga]
 refine wpAny_bind (wpAny_mono (Q := fun v => Q (v, [])) (E := E) ?_ (fun _ _ z => wpAny_pure z) fun _ _ z => z)
 have LO : Looks (model prog w) s.heap (opaqueClassAbove (.type "Exception")) none := Looks.of_pure hstub
 refine cls_open X LO L0 hg (looks_hook X (r := none) (by rfl)) (by show subIn _ _ _ = _; rfl) (k_excInit _)
  (wpAny_pure (by show wpAny _ _ (handedOut _) _ _ _; rw [handedOut_of (by decide +kernel)]; exact wpAny_pure h))
theorem exc_init {e t : Addr} {v : Value} {Q : Value -> Shared -> Prop} (X : (Mine.K w.params).In s.heap) (he : s.heap.get? e = some (excObj none t))
 (h : ∀ h' t', (∀ b o, b ≠ e -> s.heap.get? b = some o -> h'.get? b = some o) -> h'.get? e = some (excObj none t') -> Q .none { s with heap := h' }) :
 wpAny (model prog w) A (call (.builtin "Exception.__init__") [.ref e, v]) Q E s := by
 have F := PySem.F.excBase_Exception
 have hC := X _ _ (k_bad w.params)
 have hcB : (Value.ref 44 :: badBm).contains (.type "Exception") = true := by decide +kernel
 have hshort := F.noStar
 obtain ⟨hp, g, d, tk, os⟩ := s
 dsimp only at hC he
 refine wpAny_call (codeAny_call_builtin F.init.plain F.initEntry ?_)
 simp only [checkBuiltinCall, F.initKind, F.initSplit, F.initRow]
 repeat (first | with_reducible refine wpAny_loadPart_at he ?_ | with_reducible refine wpAny_loadPart_at hC ?_ | wp_step)
 show wpAny _ _ (isSubtype (.ref 44) _) _ _ _
 refine wpAny_isSubtype_exc hC ?_
 rw [hcB]
 repeat wp_step
 have he₁ := Heap.get?_push_of_some { cls := .type "tuple", data := .seq #[v] } he
 refine h _ hp.objs.size (fun b o hb ho => ?_) ?_
 · rw [Heap.get?_update_other _ _ (Ne.symm hb)]
   exact Heap.get?_push_of_some _ ho
 · rw [Heap.get?_update_self _ he₁ rfl]
   rfl
theorem bad_init {p : Program} {loose : List Str} {mean : ExcName -> Option Value} {mg mb : Str -> Option Value} {h₀ : Heap} {e t : Addr} {msg : Value} {R : Result -> Shared -> Prop}
 (X₀ : (Mine.K w.params).In h₀) (T : Top p loose mean mg mb h₀) (keep : ∀ b o, h₀.get? b = some o -> s.heap.get? b = some o) (hroom : A.depth < recursionLimit) (he : s.heap.get? e = some (excObj none t)) (hen : h₀.get? e = none)
 (h : ∀ h' t' d' tk', (∀ b o, b ≠ e -> s.heap.get? b = some o -> h'.get? b = some o) -> h'.get? e = some (excObj (some d') t') -> R (.ok (.ret .none)) { s with heap := h', toks := tk' }) :
 codeAny (model prog w) A (.call (.ref 28) ⟨[.ref e, msg], []⟩) R s := by
 have X := X₀.keeps keep
 refine codeAny_call_cells (binds := [("self", .ref e), ("text", msg)]) hroom (X 28 _ rfl) rfl (T.nolimit.keeps keep) (codeRec_of X (by kernel_rfl)) rfl rfl rfl ?_ (fun s₁ hs₁ => ?_)
 · intro x hx
   simp only [List.mem_cons, List.not_mem_nil, or_false] at hx
   rcases hx with rfl | rfl <;> exact .inl rfl
 · refine x2_2 (hs₁.done) fun h₁ tk₁ y1 hk₁ => ?_
   subst y1
   refine x3_4 (hs₁.toInCall.ns) fun oL es ep hL hd hsk hf => ?_
   have hfresh := hs₁.toInCall.fresh
   have hself : nsFind es "self" = some (.ref e) := (hf _).trans (by kernel_rfl)
   have htext : nsFind es "text" = some msg := (hf _).trans (by kernel_rfl)
   have he₁ := hk₁ _ _ he
   have k₁ : ∀ b o, h₀.get? b = some o -> h₁.get? b = some o := fun b o q => hk₁ _ _ (keep _ _ q)
   have hne : ∀ b o, h₀.get? b = some o -> b ≠ e := fun b o q z => by rw [z, hen] at q; exact nn q
   generalize henv : callEnvC _ s.heap.objs.size 28 = env at *
   have f1 : env.scope.kind = .function := by rw [<- henv]; rfl
   have f2 : env.kindOf "self" = some .local := by rw [<- henv]; rfl
   have f3 : env.kindOf "text" = some .local := by rw [<- henv]; rfl
   have f4 : env.kindOf "Exception" = some .globalImplicit := by rw [<- henv]; rfl
   have f5 : env.globals = mainGlobals := by rw [<- henv]; rfl
   have f6 : env.builtins = builtinsNs := by rw [<- henv]; rfl
   have f7 : env.locals = s.heap.objs.size := by rw [<- henv]; rfl
   have hLe : env.locals ≠ e := by rw [f7]; exact Nat.ne_of_gt (Heap.lt_size he)
   have rd : ∀ (x : Str) (u : Value) (pos : Pos) (B : Around) (s' : Shared) (Q : Value -> Shared -> Prop) (E : Value -> Shared -> Prop), env.kindOf x = some .local -> nsFind es x = some u -> s'.heap.get? env.locals = some oL -> (x == ("__debug__" : Str)) = false -> Q u s' -> wpAny (model prog w) B (eval (.Name x pos) env) Q E s' :=
    fun x u pos B s' Q E hk hv ho hdb q => wpAny_Name (wpAny_loadName_local (m := fun y => nsFind es y) f1 hk (i3_4 oL es ep ho hd hsk (fun _ => rfl)) hv q) hdb
   refine wpAny_execs_cons (wpAny_Expr (methodCall_KW (Name_function_global f1 f4 (loadGlobal_builtin (by rw [f5]; exact T.g.keeps k₁) (mg_none_of X₀ T.g (k_excName _)) (by rw [f6]; exact T.b.keeps k₁) ((T.builtins _ (by decide)).trans boot_exc) ?_) (by decide))) (by unfold interactive; rw [f1]; rfl) ?_)
   · refine exc_method (X₀.keeps k₁) ?_
     refine callWith_of (P := fun _ => True) rfl (fun _ _ => i1_2 (.machine) (.inr (.inl rfl)) (Looks.of_pure rfl)) (evalArgs_plain (Calls.spliced_cons (rd _ _ _ _ _ _ _ f2 hself hL (by decide) (Calls.spliced_cons (rd _ _ _ _ _ _ _ f3 htext hL (by decide) (Calls.spliced_nil ⟨trivial, ?_⟩))))))
     refine exc_init (s := { s with heap := h₁, toks := tk₁ + 1 }) (X₀.keeps k₁) he₁ fun h₂ t₂ k₂ he₂ => ?_
     have hL₂ := k₂ _ _ hLe hL
     have k₃ : ∀ b o, h₀.get? b = some o -> h₂.get? b = some o := fun b o q => k₂ _ _ (hne _ _ q) (k₁ _ _ q)
     refine wpAny_execs_cons (wpAny_Assign_stores (rd _ _ _ _ _ _ _ f3 htext hL₂ (by decide) ?_) rfl rfl)
     show wpAny _ _ (do
      let ov <- holding [msg] (eval (.Name "self" _) env)
      standAt _
      holding [msg, ov] (PySem.setAttr ov "text" msg)
      release [msg, ov] []) _ _ _
     refine wpAny_bind (wpAny_holding (rd _ _ _ _ _ _ _ f2 hself hL₂ (by decide) ?_))
     refine wpAny_bind (wpAny_standAt (wpAny_bind (wpAny_holding (bad_store (X₀.keeps k₃) he₂ fun h₄ d₄ k₄ he₄ => ?_))))
     refine wpAny_release' (wpAny_execs_nil ?_)
     exact h h₄ t₂ d₄ _ (fun b o hb ho => k₄ _ _ hb (k₂ _ _ hb (hk₁ _ _ ho))) he₄
   · rfl
theorem bad_make {p : Program} {loose : List Str} {mean : ExcName -> Option Value} {mg mb : Str -> Option Value} {h₀ : Heap} {msg : Value} {Q : Value -> Shared -> Prop}
 (X₀ : (Mine.K w.params).In h₀) (T : Top p loose mean mg mb h₀) (keep : ∀ b o, h₀.get? b = some o -> s.heap.get? b = some o) (hroom : A.depth + 1 < recursionLimit)
 (h : ∀ h' e t' d' tk', (∀ b o, s.heap.get? b = some o -> h'.get? b = some o) -> s.heap.get? e = none -> h'.get? e = some (excObj (some d') t') -> Q (.ref e) { s with heap := h', toks := tk' }) :
 wpAny (model prog w) A (call (.ref 44) [msg]) Q E s := by
 obtain ⟨hp, g, d, tk, os⟩ := s
 have X := X₀.keeps keep
 have hno : hp.get? (hp.objs.size + 1) = none := Heap.get?_none_of_le (Nat.le_succ _)
 refine bad_call X (by rw [sizeLine_eq]; simp) ?_
 have he : ((hp.push { cls := .type "tuple", data := .seq [msg].toArray }).push (excObj none hp.objs.size)).get? (hp.objs.size + 1) = some (excObj none hp.objs.size) := by heap_get
 have k : ∀ b o, hp.get? b = some o -> ((hp.push { cls := .type "tuple", data := .seq [msg].toArray }).push (excObj none hp.objs.size)).get? b = some o := fun b o e => Heap.get?_push_of_some _ (Heap.get?_push_of_some _ e)
 refine bad_init (s := ⟨(hp.push { cls := .type "tuple", data := .seq [msg].toArray }).push (excObj none hp.objs.size), g, d, tk, os⟩) X₀ T (fun b o q => k _ _ (keep _ _ q)) hroom he ?_ fun h' t' d' tk' k' q => ⟨rfl, h h' _ t' d' tk' (fun b o z => k' _ _ (fun w => by rw [w, hno] at z; exact nn z) (k _ _ z)) hno q⟩
 cases q : h₀.get? (hp.objs.size + 1) with
 | none => rfl
 | some o => have := keep _ _ q; rw [hno] at this; exact nn this
end
theorem k_badName (P : Params) : nsIn (Mine.K P) mainGlobals "BadTable" = some (some (.ref 44)) := by kernel_rfl
theorem k_badKeep (P : Params) : keepIn (Mine.K P) (.ref 44) = true := by kernel_rfl
section
variable {prog : Program} {w : World} {A : Around} {E : Value -> Shared -> Prop} {s : Shared}
theorem raise_made {env : Env} {x : Sem Value} {Q : Flow -> Shared -> Prop} (hh : A.handled = none)
 (h : wpAny (model prog w) A x (fun v s₁ => ∃ e t d, v = .ref e /\ s₁.heap.get? 44 = some badObj /\ s₁.heap.get? e = some (excObj (some d) t) /\ E (.ref e) s₁) E s) :
 wpAny (model prog w) A (raiseStmt env (some x) none) Q E s := by
 have hcB : (Value.ref 44 :: badBm).contains (.type "BaseException") = true := by decide +kernel
 unfold raiseStmt
 refine wpAny_bind (wpAny_mono h (fun v s₁ h₁ => ?_) fun _ _ x => x)
 refine x3_4 h₁ fun e t d' y1 hC he hE => ?_
 clear h₁
 subst y1
 obtain ⟨hp, g, d, tk, os⟩ := s₁
 repeat (first | with_reducible refine wpAny_loadPart_at he ?_ | with_reducible refine wpAny_loadPart_at hC ?_ | (with_reducible refine wpAny_isSubtype_exc hC ?_; rw [hcB]) | wp_step)
 exact wpAny_raiseNew_none hh hE
theorem bad_raise {p : Program} {loose : List Str} {mean : ExcName -> Option Value} {mg mb : Str -> Option Value} {h₀ : Heap} {env : Env} {np kp cpos pos : Pos} {tx : Str} {k : Nat} {Q : Flow -> Shared -> Prop}
 (X₀ : (Mine.K w.params).In h₀) (T : Top p loose mean mg mb h₀) (keep : ∀ b o, h₀.get? b = some o -> s.heap.get? b = some o) (hroom : A.depth + 1 < recursionLimit) (hh : A.handled = none)
 (f1 : env.scope.kind = .function) (f4 : env.kindOf "BadTable" = some .globalImplicit) (f5 : env.globals = mainGlobals) (hz : tx.length <= 1000)
 (h : ∀ h' e t' d' tk', (∀ b o, s.heap.get? b = some o -> h'.get? b = some o) -> s.heap.get? e = none -> h'.get? e = some (excObj (some d') t') -> E (.ref e) { s with heap := h', toks := tk' }) :
 wpAny (model prog w) A (exec (.Raise (some (.Call (.Name "BadTable" np) [.Constant (.str tx) k kp] [] cpos)) none pos) env) Q E s := by
 rw [arm_exec_Raise]
 refine wpAny_bind (wpAny_standAt (raise_made hh ?_))
 have X := X₀.keeps keep
 refine wpAny_bind (wpAny_mono (Q := fun v s₁ => ∃ e t d, v = .ref e /\ s₁.heap.get? 44 = some badObj /\ s₁.heap.get? e = some (excObj (some d) t) /\ E (.ref e) s₁) (E := E) ?_ (fun v s₁ q => wpAny_bind (wpAny_standAt (wpAny_pure q))) fun _ _ z => z)
 refine Call_ (Name_function_global f1 f4 (loadGlobal_global (by rw [f5]; exact T.g.keeps keep) (mg_of X₀ T.g (k_badName _)) ?_) (by decide))
 show wpAny _ _ (callWith cpos (.ref 44) [] [(false, eval (.Constant (.str tx) k kp) env)] []) _ _ _
 refine callWith_of (P := fun h => (Mine.K w.params).In h) rfl (fun h hh => keeps_K (k_badKeep _) h hh) (evalArgs_plain (Calls.spliced_cons (wpAny_Constant_str (Calls.spliced_nil ⟨X, ?_⟩))))
 exact bad_make (s := { s with toks := s.toks + 1 }) X₀ T keep hroom fun h' e t' d' tk' k q1 q2 => i3_4 e t' d' rfl (k _ _ (X _ _ (k_bad _))) q2 (h h' e t' d' tk' k q1 q2)
end
end Mine
end
section
open PySem PySem.W PySem.Calls PyProof.Rows
namespace Mine
noncomputable def frOf (l : List Env) : List Addr := l.filterMap (·.frame)
noncomputable def Led (ext : List (Addr × Obj)) (l : List Env) : Prop := ∀ env ∈ l, env.scope.kind = .function /\ ∃ L o es ep, env.frame = some L /\ (L, o) ∈ ext /\ o.data = .dict es ep
section
variable {S : St} {ext : List (Addr × Obj)} {ρ ρ₁ : List Addr} {σ σ₁ : Hp} {h h' : Heap} {l : List Env}
theorem Led.mono {ext' : List (Addr × Obj)} (x : Led ext l) (k : ∀ p ∈ ext, p ∈ ext') : Led ext' l := fun env he => let ⟨a, L, o, es, ep, b, c, d⟩ := x env he; ⟨a, L, o, es, ep, b, k _ c, d⟩
theorem Led.at_ (x : Led ext l) {a : Addr} (ha : a ∈ frOf l) : ∃ o es ep, (a, o) ∈ ext /\ o.data = .dict es ep := by
 refine cps fun _ zk => ?_
 refine x1_2 (List.mem_filterMap.mp ha) fun env he hf => ?_
 refine x0_2 (x env he) fun _ y1 => ?_
 refine x4_3 y1 fun L o es ep b c d => ?_
 refine zk ?_; clear zk
 rw [b] at hf; cases hf
 exact i3_2 o es ep c d
theorem flew (H : S.HR ext ρ σ h) (hl : Led ext l) (st : (hideAll h (frOf l)).StaysIn h') (ut : h.UpToSlots h') (hne : l ≠ []) : S.HR ext ρ σ h' := by
 have off : ∀ a, a ∈ frOf l -> S.h₀.objs.size <= a /\ a ∉ ρ := fun a ha => let ⟨o, _, _, c, _⟩ := hl.at_ ha; ⟨H.exa _ c, H.disj _ c⟩
 have exs : ∀ p ∈ ext, ∃ o, h'.get? p.1 = some o /\ Like p.2 o := by
  intro p hp
  refine x1_2 (H.exs p hp) fun o ho lk => ?_
  by_cases hF : p.1 ∈ frOf l
  · refine cps fun _ zk => ?_
    refine x3_2 (hl.at_ hF) fun o2 es ep c d => ?_
    refine x1_2 (H.exs _ c) fun o' ho' lk' => ?_
    rw [ho] at ho'
    refine zk ?_; clear zk
    cases ho'
    have hd : o.data = .dict es ep := lk'.2.1.trans d
    obtain ⟨sl, e⟩ := ut _ _ ho fun vs q => by rw [hd] at q; cases q
    exact ⟨_, e, lk.1, lk.2.1, lk.2.2.1, fun ⟨vs, q⟩ => by rw [<- lk.2.1, hd] at q; cases q⟩
  · exact ⟨o, st _ _ (hideAll_get _ ho hF), lk⟩
 refine ⟨fun b o e => st _ _ (hideAll_get _ (H.keep b o e) fun q => Nat.lt_irrefl _ (Nat.lt_of_lt_of_le (Heap.lt_size e) (off b q).1)), exs, H.len, fun i a o e1 e2 => ?_, H.above, H.nd, H.disj, H.exa, ?_⟩
 · refine x1_2 (H.obj i a o e1 e2) fun ob q1 q2 => ?_
   exact ⟨ob, st _ _ (hideAll_get _ q1 fun q => (off a q).2 (List.mem_of_getElem? e1)), q2⟩
 · cases l with
   | nil => exact absurd rfl hne
   | cons env r =>
     refine cps fun _ zk => ?_
     refine x0_2 (hl env (.head _)) fun _ y2 => ?_
     refine x4_3 y2 fun L o es ep b c d => ?_
     refine x1_2 (exs _ c) fun o' q _ => ?_
     refine zk ?_; clear zk
     exact Nat.le_trans (H.exa _ c) (Nat.le_of_lt (Heap.lt_size q))
theorem funFrames_led {base : Heap} (hx : ∀ p ∈ ext, ∃ o, h'.get? p.1 = some o /\ o.data = p.2.data) (hn : ∀ a ∈ frOf l, base.get? a = none) : Led ext l -> h'.FunFrames base l := by
 induction l with
 | nil => intro _; trivial
 | cons env r ih =>
   intro hl
   refine cps fun _ zk => ?_
   refine x0_2 (hl env (.head _)) fun k y3 => ?_
   refine x4_3 y3 fun L o es ep b c d => ?_
   refine x1_2 (hx _ c) fun o' q q2 => ?_
   refine zk ?_; clear zk
   refine ⟨by rw [k]; decide, i2_4 L o' b (hn L (List.mem_filterMap.mpr ⟨env, .head _, b⟩)) q (fun vs z => by rw [q2, d] at z; cases z), ih (fun a ha => hn a ?_) fun e he => hl e (.tail _ he)⟩
   refine x1_2 (List.mem_filterMap.mp ha) fun e he hf => ?_
   exact List.mem_filterMap.mpr ⟨e, .tail _ he, hf⟩
theorem VR.back {gad : List Addr} (hp : ρ <+: ρ₁) {x : V} {v v0 : Value} (h0 : VR gad ρ x v0) (h : VR gad ρ₁ x v) : VR gad ρ x v := by
 cases x with
 | ref a =>
   refine cps fun _ zk => ?_
   refine x1_2 h0 fun y e _ => ?_
   clear h0
   refine x1_2 h fun z e2 r => ?_
   clear h
   refine zk ?_; clear zk
   rw [getElem?_mono hp e] at e2; cases e2
   exact ⟨y, e, r⟩
 | _ => exact h
theorem VRs.back {gad : List Addr} (hp : ρ <+: ρ₁) {xs : List V} {vs us : List Value} (h0 : VRs gad ρ xs us) (h : VRs gad ρ₁ xs vs) : VRs gad ρ xs vs := by
 induction xs generalizing vs us with
 | nil => exact h
 | cons _ _ ih => exact x2_3 h0 fun _ _ _ a b => x2_3 h fun v r e h hr => i2_3 v r e (VR.back hp a h) (ih b hr)
theorem KVs.back {gad : List Addr} (hp : ρ <+: ρ₁) {xs : List (Int × V)} {l l0 : List (Int × Value)} (h0 : KVs gad ρ xs l0) (h : KVs gad ρ₁ xs l) : KVs gad ρ xs l := by
 induction xs generalizing l l0 with
 | nil => exact h
 | cons _ _ ih => exact x2_3 h0 fun _ _ _ a b => x2_3 h fun v r e h hr => i2_3 v r e (VR.back hp a h) (ih b hr)
theorem FsR.back {gad : List Addr} (hp : ρ <+: ρ₁) {xs : List V} {ns : List Str} {es es0 : List DictEntry} (h0 : FsR gad ρ xs ns es0) (h : FsR gad ρ₁ xs ns es) : FsR gad ρ xs ns es := by
 induction xs generalizing ns es es0 with
 | nil => exact h
 | cons _ _ ih =>
   refine h0.inv fun n ns' _ _ _ _ q1 _ a b => ?_
   subst q1
   exact x4_3 h fun hh t v r e h hr => i4_3 hh t v r e (VR.back hp a h) (ih b hr)
theorem OR.back {prog : Program} {w : World} {gad : List Addr} (hp : ρ <+: ρ₁) {x : O} {o o0 : Obj} (h0 : OR prog w gad ρ x o0) (h : OR prog w gad ρ₁ x o) : OR prog w gad ρ x o := by
 cases x with
 | list xs => refine x2_2 h0 fun _ _ _ a => ?_; clear h0; refine x2_2 h fun vs n e _ => ?_; clear h; rename_i h; exact i2_2 vs n e (VRs.back hp a h)
 | tup xs => refine x2_2 h0 fun _ _ _ a => ?_; clear h0; refine x2_2 h fun vs n e _ => ?_; clear h; rename_i h; exact i2_2 vs n e (VRs.back hp a h)
 | dict kv => refine x1_2 h0 fun _ _ a => ?_; clear h0; refine x1_2 h fun kvs e _ => ?_; clear h; rename_i h; exact ⟨kvs, e, KVs.back hp a h⟩
 | inst d =>
   refine cps fun _ zk => ?_
   refine x1_2 h0 fun d0 a _ => ?_
   clear h0
   refine x1_2 h fun dx e _ => ?_
   clear h; rename_i h
   refine zk ?_; clear zk
   rw [getElem?_mono hp a] at e; cases e
   exact ⟨_, a, h⟩
 | ns fs => refine x2_2 h0 fun _ _ _ a => ?_; clear h0; refine x2_2 h fun es n e _ => ?_; clear h; rename_i h; exact i2_2 es n e (FsR.back hp a h)
 | range a b c => exact h
theorem HR.shrink {ext0 : List (Addr × Obj)} {h0 : Heap} (H0 : S.HR ext0 ρ σ h0) (H : S.HR ext ρ₁ σ₁ h) (hp : ρ <+: ρ₁) (hs : σ <+: σ₁) : S.HR ext ρ σ h where
 keep := H.keep
 exs := H.exs
 len := H0.len
 obj := fun i a o e1 e2 => by
  refine cps fun _ zk => ?_
  refine x1_2 (H0.obj i a o e1 e2) fun ob0 _ r0 => ?_
  refine x1_2 (H.obj i a o (getElem?_mono hp e1) (by
   obtain ⟨t, rfl⟩ := hs
   rw [List.getElem?_append_left (gsm e2).1]; exact e2)) fun ob q r => ?_
  refine zk ?_; clear zk
  exact ⟨ob, q, OR.back hp r0 r⟩
 above := fun a ha => H.above a (hp.subset ha)
 nd := H.nd.sublist hp.sublist
 disj := fun p hp' q => H.disj p hp' (hp.subset q)
 exa := H.exa
 size := H.size
end
noncomputable def RaisedIn (S : St) (s : Shared) (env : Env) (outer : List Env) (ext : List (Addr × Obj)) (ρ : List Addr) (σ : Hp) (v : Value) (s' : Shared) : Prop :=
 ∃ e h h' t' ext1, v = .ref e /\ s' = { s with heap := h', toks := t' } /\ (∀ p ∈ ext, p ∈ ext1) /\ S.HR ext1 ρ σ h /\ Led ext1 (env :: outer) /\
   (((∀ b o, h.get? b = some o -> h'.get? b = some o) /\ h.get? e = none /\ ∃ t d, h'.get? e = some (excObj (some d) t)) \/
    (h.UpToSlots h' /\ ∃ a0 L, env.frame = some L /\ Heap.HeldW (hideAll h (frOf (env :: outer))) (env :: outer) e (.ref 44) a0 L h'))
noncomputable def Fly (S : St) (s : Shared) (outer : List Env) (ext : List (Addr × Obj)) (ρ : List Addr) (σ : Hp) (v : Value) (s' : Shared) : Prop :=
 ∃ e h h' t' ext1 l a0, v = .ref e /\ s' = { s with heap := h', toks := t' } /\ (∀ p ∈ ext, p ∈ ext1) /\ S.HR ext1 ρ σ h /\ Led ext1 l /\ l ≠ [] /\ h.UpToSlots h' /\ Heap.FlyingW (hideAll h (frOf l)) outer e (.ref 44) a0 h'
section
variable {S : St} {s : Shared} {env : Env} {outer : List Env} {ext : List (Addr × Obj)} {ρ ρ₁ : List Addr} {σ σ₁ : Hp} {A : Around} {v : Value} {s' : Shared}
theorem RaisedIn.from {h₁ : Heap} {t₁ : Nat} {ext2 : List (Addr × Obj)} (x : RaisedIn S { s with heap := h₁, toks := t₁ } env outer ext2 ρ₁ σ₁ v s') {ext0 : List (Addr × Obj)} {h0 : Heap} (H0 : S.HR ext0 ρ σ h0) (hp : ρ <+: ρ₁) (hs : σ <+: σ₁) (he : ∀ p ∈ ext, p ∈ ext2) : RaisedIn S s env outer ext ρ σ v s' := by
 refine x5_1 x fun e h h' t' ext1 zq => x0_6 zq fun e1 e2 k H L d => ?_
 clear x
 exact i5_1 e h h' t' ext1 ⟨e1, e2, (fun p hp => k p (he p hp)), (HR.shrink H0 H hp hs), L, d⟩
theorem raised_frames {h : Heap} {ext1 : List (Addr × Obj)} {h' : Heap} (H : S.HR ext1 ρ σ h) (L : Led ext1 (env :: outer)) (k : ∀ b o, h.get? b = some o -> h'.get? b = some o) : h'.FunFrames (hideAll h (frOf (env :: outer))) (env :: outer) :=
 funFrames_led (fun p hp => let ⟨o, q, lk⟩ := H.exs p hp; ⟨o, k _ _ q, lk.2.1⟩) (fun a ha => hideAll_none _ ha) L
theorem raised_stays {h : Heap} {h' : Heap} (k : ∀ b o, h.get? b = some o -> h'.get? b = some o) : (hideAll h (frOf (env :: outer))).StaysIn h' := fun b o q => k _ _ (of_hideAll _ q)
theorem raised_none {h : Heap} {e : Addr} (k : h.get? e = none) : (hideAll h (frOf (env :: outer))).get? e = none := by
 cases q : (hideAll h (frOf (env :: outer))).get? e with
 | none => rfl
 | some o => have := of_hideAll _ q; rw [k] at this; exact nn this
theorem raised_leave {Q : Unit -> Shared -> Prop} {E : Value -> Shared -> Prop} (x : RaisedIn S s env outer ext ρ σ v s') (hfr : A.frames = some (env :: outer)) (k : ∀ s'', Fly S s outer ext ρ σ v s'' -> Q () s'') :
 wpAny S.M A (leaving env v) Q E s' := by
 refine x5_1 x fun e h h' t' ext1 zq => x0_6 zq fun zz2 zz3 ke H L d => ?_
 clear x
 subst zz2
 subst zz3
 refine cps fun _ zk => ?_
 refine x0_2 (L env (.head _)) fun _ y4 => ?_
 refine x4_1 y4 fun Lo o es ep zq => x0_2 zq fun hf _ => ?_
 refine zk ?_; clear zk
 rcases d with ⟨k1, k2, t, dd, he⟩ | ⟨k1, a0, Lx, hx, hh⟩
 · refine wpAny_leaving_firstW (base := hideAll h (frOf (env :: outer))) (a0 := .ref t) (s := { s with heap := h', toks := t' }) hfr (raised_frames H L k1) hf he (raised_stays k1) (raised_none k2) rfl rfl rfl fun h'' hL => ?_
   refine cps fun _ zk => ?_
   refine x0_4 hL fun z1 zz4 z3 z4 => ?_
   clear hL
   obtain ⟨_, _, z2⟩ := zz4
   refine zk ?_; clear zk
   exact k _ ⟨e, h, h'', t', ext1, env :: outer, .ref t, rfl, rfl, ke, H, L, by simp, (Heap.UpToSlots.of_keeps k1).trans z4, z1, raised_none k2, z2, z3⟩
 · unfold leaving
   refine wpAny_bind (wpAny_noteFrame_againW hx hh.2.2.2 ?_)
   refine wpAny_landsW (s := { s with heap := h', toks := t' }) hh fun h'' hfl hs => ?_
   refine cps fun _ zk => ?_
   refine x0_4 hfl fun z1 z2 zz5 z4 => ?_
   clear hfl
   obtain ⟨_, _, z3⟩ := zz5
   refine zk ?_; clear zk
   exact k _ ⟨e, h, h'', t', ext1, env :: outer, a0, rfl, rfl, ke, H, L, by simp, k1.trans hs, z1, z2, z3, z4⟩
end
section
variable {M : Model} {A : Around} {E : Value -> Shared -> Prop} {s : Shared}
theorem setFlight_held {base : Heap} {l : List Env} {e L L' : Addr} {cls a0 : Value} {Q : Unit -> Shared -> Prop} (R : Heap.HeldW base l e cls a0 L' s.heap)
 (h : ∀ h', Heap.HeldW base l e cls a0 L h' -> s.heap.UpToSlots h' -> Q () { s with heap := h' }) : wpAny M A (setFlight (.ref e) (some L)) Q E s := by
 refine cps fun _ zk => ?_
 refine x0_4 R fun hkb hen hl zz1 => ?_
 refine x5_1 zz1 fun oe vs T oT ts zq => x0_9 zq fun he hcls hd h1 hnT hTe hT hdT h3 => ?_
 have hsz : 3 < ts.size := (Array.getElem?_eq_some_iff.mp h3).1
 have hd' : (oT.mapFields (·.setIfInBounds 3 (rawInt L))).data = .fields (ts.setIfInBounds 3 (rawInt L)) := Obj.data_mapFields hdT _
 have stay : ∀ b o, b ≠ T -> s.heap.get? b = some o -> (s.heap.update T (Obj.mapFields (·.setIfInBounds 3 (rawInt L)))).get? b = some o :=
  fun b o hb q => by rw [Heap.get?_update_other _ _ (Ne.symm hb)]; exact q
 have plain : ∀ b o, s.heap.get? b = some o -> (∀ vs, o.data ≠ .fields vs) -> b ≠ T := fun b o hb hn q => by
  rw [q, hT] at hb; cases hb; exact hn ts hdT
 refine zk ?_; clear zk
 unfold setFlight
 refine wpAny_bind (wpAny_field he hd h1 ?_)
 rw [if_pos (show (Value.ref T != Value.none) = true from by simp)]
 refine wpAny_setField hT hdT hsz (h _ ⟨fun b o q => stay b o (fun w => by rw [w, hnT] at q; exact nn q) (hkb b o q), hen, hl.of_keeps fun b o q hn => ⟨o, stay b o (plain b o q hn) q, rfl⟩, ?_⟩ fun b o q hn => ⟨o.slots, stay b o (plain b o q hn) q⟩)
 exact i5_1 oe vs T _ _ ⟨(stay _ _ (Ne.symm hTe) he), hcls, hd, h1, hnT, hTe, (Heap.get?_update_self _ hT (Obj.isFreed_of_fields hd')), hd', (by simp [hsz])⟩
end
section
variable {S : St} {s : Shared} {env : Env} {outer : List Env} {ext : List (Addr × Obj)} {ρ ρ₁ : List Addr} {σ σ₁ : Hp} {A : Around} {v : Value} {s' : Shared}
theorem raised_passes (x : RaisedIn S s env outer ext ρ σ v s') (hfr : A.frames = some (env :: outer)) : notedBy S.M A env (cameBackBy S.M A env (RaisedIn S s env outer ext ρ σ)) v s' := by
 refine x5_1 x fun e h h' t' ext1 zq => x0_6 zq fun zz2 zz3 ke H L d => ?_
 clear x
 subst zz2
 subst zz3
 refine cps fun _ zk => ?_
 refine x0_2 (L env (.head _)) fun _ y1 => ?_
 refine x4_1 y1 fun Lo o es ep zq => x0_2 zq fun hf _ => ?_
 have back : ∀ h'' a0, h.UpToSlots h'' -> Heap.HeldW (hideAll h (frOf (env :: outer))) (env :: outer) e (.ref 44) a0 Lo h'' -> cameBackBy S.M A env (RaisedIn S s env outer ext ρ σ) (.ref e) { s with heap := h'', toks := t' } := by
  intro h'' a0 ut hh
  refine cps fun _ zk => ?_
  refine x0_4 (id hh) fun _ _ _ zz4 => ?_
  refine x5_1 zz4 fun oe vs T oT ts zq => x0_5 zq fun he _ hd h1 _ => ?_
  refine zk ?_; clear zk
  unfold cameBackBy
  refine wpAny_bind (wpAny_field (s := { s with heap := h'', toks := t' }) he hd h1 ?_)
  rw [if_neg (show ¬ ((Value.ref T == Value.none) = true) from by simp)]
  rw [hf]
  first
   | exact setFlight_held (s := { s with heap := h'', toks := t' }) hh fun h3 hh3 ut3 => i5_1 e h h3 t' ext1 ⟨rfl, rfl, ke, H, L, (.inr ⟨ut.trans ut3, a0, Lo, hf, hh3⟩)⟩
   | exact wpAny_bind (wpAny_pure (setFlight_held (s := { s with heap := h'', toks := t' }) hh fun h3 hh3 ut3 => ⟨e, h, h3, t', ext1, rfl, rfl, ke, H, L, .inr ⟨ut.trans ut3, a0, Lo, hf, hh3⟩⟩))
 refine zk ?_; clear zk
 unfold notedBy
 rcases d with ⟨k1, k2, t, dd, he⟩ | ⟨k1, a0, Lx, hx, hh⟩
 · unfold noteFrame
   simp only [hf]
   refine wpAny_bind (wpAny_field (s := { s with heap := h', toks := t' }) (vs := #[.ref t, .none, .none, .none, .bool false, .none]) (x := Value.none) he rfl rfl ?_)
   rw [if_neg (show ¬ ((Value.none != Value.none) = true) from by decide)]
   refine wpAny_entryW (s := { s with heap := h', toks := t' }) (base := hideAll h (frOf (env :: outer))) (a0 := .ref t) (vs := #[.ref t, .none, .none, .none, .bool false, .none]) hfr (raised_frames H L k1) hf he (raised_stays k1) (raised_none k2) rfl (by simp) rfl fun h'' hN => ?_
   refine x0_4 hN fun z1 z2 z3 z4 => ?_
   clear hN
   exact back h'' (.ref t) ((Heap.UpToSlots.of_keeps k1).trans z4) ⟨z1, raised_none k2, z2, z3⟩
 · rw [hf] at hx; cases hx
   exact wpAny_noteFrame_againW hf hh.2.2.2 (back h' a0 k1 hh)
end
section
variable {S : St} {n : Nat} {Φ : CallF} {xs gl cn : List Str} {env : Env} {A : Around} {ext : List (Addr × Obj)} {ρ ρ' : List Addr} {m m' : Frm} {σ σ' : Hp} {h h' : Heap} {outer : List Env}
theorem led_of (F : FS S env xs cn m ρ ext h) (R : RoomS n A ext env) (hfr : A.frames = some (env :: outer)) (k : env.scope.kind = .function) : Led (frameExt env xs h ++ ext) (env :: outer) := by
 refine x1_2 (R.frames) fun l z1 z2 => ?_
 rw [hfr] at z1
 cases z1
 intro e he
 rcases List.mem_cons.mp he with rfl | he
 · refine x3_3 (F.dict) fun o es ep q1 q2 _ => ?_
   exact ⟨k, _, _, es, ep, R.frame, List.mem_append_left _ (.head _), by rw [q1]; exact q2⟩
 · refine cps fun _ zk => ?_
   refine x0_2 (z2 e he) fun k y1 => ?_
   refine x4_3 y1 fun L o es ep a b c => ?_
   refine zk ?_; clear zk
   exact ⟨k, L, o, es, ep, a, List.mem_append_right _ b, c⟩
noncomputable def RxSs (S : St) (n : Nat) (xs gl cn : List Str) (body : List Stmt) (m : Frm) (σ : Hp) : Prop :=
 ∀ (env : Env) (A : Around) (ext : List (Addr × Obj)) (ρ : List Addr) (s : Shared) (outer : List Env), EnvOk env gl cn -> A.frames = some (env :: outer) -> RoomS n A ext env -> FS S env xs cn m ρ ext s.heap -> S.HR ext ρ σ s.heap ->
   wpAny S.M A (execs body env) (fun _ _ => False) (RaisedIn S s env outer ext ρ σ) s
noncomputable def RxS (S : St) (n : Nat) (xs gl cn : List Str) (st : Stmt) (m : Frm) (σ : Hp) : Prop :=
 ∀ (env : Env) (A : Around) (ext : List (Addr × Obj)) (ρ : List Addr) (s : Shared) (outer : List Env), EnvOk env gl cn -> A.frames = some (env :: outer) -> RoomS n A ext env -> FS S env xs cn m ρ ext s.heap -> S.HR ext ρ σ s.heap ->
   wpAny S.M A (exec st env) (fun _ _ => False) (RaisedIn S s env outer ext ρ σ) s
theorem rx_raise (G : S.Good) (hK : S.K = Mine.K S.w.params) (hn : 1 <= n) {tx : Str} {k : Nat} {np kp cpos pos : Pos} (hb : ("BadTable" : Str) ∈ gl) (hz : tx.length <= 1000) : RxS S n xs gl cn (.Raise (some (.Call (.Name "BadTable" np) [.Constant (.str tx) k kp] [] cpos)) none pos) m σ := by
 intro env A ext ρ s outer he hfr R F H
 exact bad_raise (hK ▸ G.X) G.T H.keep (by have := R.depth; lia) R.hd he.kind (he.gk _ hb) he.glob hz fun h' e t' d' tk' k q1 q2 =>
  i5_1 e s.heap h' tk' _ ⟨rfl, rfl, (fun p hp => List.mem_append_right _ hp), (F.enter H), (led_of F R hfr he.kind), (.inl ⟨k, q1, t', d', q2⟩)⟩
theorem rx_here {st : Stmt} {r : List Stmt} (i : RxS S n xs gl cn st m σ) : RxSs S n xs gl cn (st :: r) m σ := by
 intro env A ext ρ s outer he hfr R F H
 exact wpAny_execs_cons (wpAny_mono (i env A ext ρ s outer he hfr R F H) (fun _ _ q => q.elim) fun _ _ q => q)
theorem rx_later {st : Stmt} {r : List Stmt} {a : Mine.S} {m₁ : Frm} {σ₁ : Hp} (i : SS S n Φ xs gl cn st a) (e : execS S.g Φ a m σ = some (.next, m₁, σ₁)) (hs : σ <+: σ₁) (j : RxSs S n xs gl cn r m₁ σ₁) : RxSs S n xs gl cn (st :: r) m σ := by
 intro env A ext ρ s outer he hfr R F H
 refine wpAny_execs_cons (wpAny_mono (i env A ext ρ m σ .next m₁ σ₁ s he R F H e) (fun f s' q => ?_) fun _ _ q => q.elim)
 refine x3_5 q fun ρ₁ h₁ t₁ p₁ zz1 H₁ F₁ r₁ => ?_
 clear q
 subst zz1
 cases r₁
 exact wpAny_mono (j env A ext ρ₁ { s with heap := h₁, toks := t₁ } outer he hfr R F₁ H₁) (fun _ _ q => q) fun _ _ q => q.from H p₁ hs fun _ z => z
theorem rx_if {c : Expr} {t f : List Stmt} {pos : Pos} {a : E} {v : V} {σ₁ : Hp} (it : STr S n Φ xs gl cn c a) (e : vE S.g Φ a m σ = some (v, σ₁)) (e2 : truth v = some true) (hs : σ <+: σ₁) (j : RxSs S n xs gl cn t m σ₁) : RxS S n xs gl cn (.If c t f pos) m σ := by
 intro env A ext ρ s outer he hfr R F H
 refine wpAny_If (inTest it he R F H e e2 fun ρ₁ h₁ t₁ p₁ H₁ F₁ => ?_)
 simp only [if_true]
 exact wpAny_mono (j env A ext ρ₁ { s with heap := h₁, toks := t₁ } outer he hfr R F₁ H₁) (fun _ _ q => q) fun _ _ q => q.from H p₁ hs fun _ z => z
inductive FRx (S : St) (n : Nat) (Φ : CallF) (xs gl cn : List Str) (i : Nat) (body : List Stmt) (b : Ss) (σ : Hp) : Nat -> It -> Frm -> Prop where
 | now {k it m v it' m₁} : next S.g σ it = some (some (v, it')) -> setLoc i v m = some m₁ -> RxSs S n xs gl cn body m₁ σ -> FRx S n Φ xs gl cn i body b σ k it m
 | later {k it m v it' m₁ m₂} : next S.g σ it = some (some (v, it')) -> setLoc i v m = some m₁ -> execSs S.g Φ b m₁ σ = some (.next, m₂, σ) -> FRx S n Φ xs gl cn i body b σ k it' m₂ -> FRx S n Φ xs gl cn i body b σ (k + 1) it m
noncomputable def RLoop (S : St) (s₀ : Shared) (env : Env) (xs cn : List Str) (ext : List (Addr × Obj)) (ρ₀ : List Addr) (σ : Hp) (I : Addr) (run : Nat -> It -> Frm -> Prop) (k : Nat) (s : Shared) : Prop :=
 ∃ it ρ h t ob m, s = { s₀ with heap := h, toks := t } /\ ρ₀ <+: ρ /\ run k it m /\ S.HR ext ρ σ h /\ FS S env xs cn m ρ ext h /\ h.get? I = some ob /\ ItO S.gad ρ it ob /\ Apart S ext ρ I /\ Off env xs I
theorem raise_loop (G : S.Good) {i : Nat} {x : Str} {p : Pos} (hx : xs[i]? = some x) {body : List Stmt} {b : Ss} {ρ₀ : List Addr} {I : Addr} {s₀ : Shared} {ext0 : List (Addr × Obj)} {h0 : Heap} (H0 : S.HR ext0 ρ₀ σ h0) (he : EnvOk env gl cn) (hfr : A.frames = some (env :: outer)) (hR : RoomS n A ext env)
 (ib : SSs S n Φ xs gl cn body b) (k : Nat) (s : Shared) (J : RLoop S s₀ env xs cn ext ρ₀ σ I (FRx S n Φ xs gl cn i body b σ) k s) :
 codeAny S.M A (.forLoop (.Name x p) (.ref I) body [] env) (fun r s' => match r with | .ok _ => False | .error e => cameBackBy S.M A env (RaisedIn S s₀ env outer ext ρ₀ σ) e s') s := by
 refine codeAny_forLoop_any (fun k s => RLoop S s₀ env xs cn ext ρ₀ σ I (FRx S n Φ xs gl cn i body b σ) k s) (fun k s J => ?_) k J
 refine x6_1 J fun it ρ h t ob m zq => x0_9 zq fun zz2 hp hrun H F hI hO DI OI => ?_
 clear J
 subst zz2
 have go : ∀ {v it' m₁} {Q : Unit -> Shared -> Prop} {E : Value -> Shared -> Prop}, next S.g σ it = some (some (v, it')) -> setLoc i v m = some m₁ -> True := fun _ _ => trivial
 cases hrun with
 | @now _ _ _ v it' m₁ e1 e2 j =>
   refine next_snd (s := { s₀ with heap := h, toks := t }) G hR.hd (by simp [frameExt]) e1 (F.enter H) (OI.apart DI F) hI hO fun v' h₁ t₁ H₁ hx₁ hnx => ?_
   refine cps fun _ zk => ?_
   obtain ⟨H₁, F₁⟩ := F.back H₁ (List.prefix_refl _)
   refine x2_4 hnx fun u ob₁ zz3 ru hI₁ hO₁ => ?_
   clear hnx
   refine zk ?_; clear zk
   subst zz3
   dsimp only
   have H₂ : S.HR ((I, ob₁) :: ext) ρ σ h₁ := H₁.cons_ext (p := (I, ob₁)) hI₁ (Like.refl _) DI.rho DI.above
   refine tgt_name (n := n) hx env A ((I, ob₁) :: ext) ρ m m₁ σ v u { s₀ with heap := h₁, toks := t₁ } I ob₁ it' he hR.hd (F₁.consExt OI) H₂ ru e2 trivial hI₁ hO₁ _ _ fun h₂ t₂ H₃ F₃ => ?_
   refine wpAny_mono (j env A ((I, ob₁) :: ext) ρ { s₀ with heap := h₂, toks := t₂ } outer he hfr (hR.cons _) F₃ H₃) (fun f s' q => q.elim) fun v s' q => ?_
   have q' : RaisedIn S s₀ env outer ext ρ₀ σ v s' := q.from H0 hp (List.prefix_refl _) fun _ z => .tail _ z
   exact raised_passes q' hfr
 | @later k _ _ v it' m₁ m₂ e1 e2 e3 j =>
   refine next_snd (s := { s₀ with heap := h, toks := t }) G hR.hd (by simp [frameExt]) e1 (F.enter H) (OI.apart DI F) hI hO fun v' h₁ t₁ H₁ hx₁ hnx => ?_
   refine cps fun _ zk => ?_
   obtain ⟨H₁, F₁⟩ := F.back H₁ (List.prefix_refl _)
   refine x2_4 hnx fun u ob₁ zz4 ru hI₁ hO₁ => ?_
   clear hnx
   refine zk ?_; clear zk
   subst zz4
   dsimp only
   have H₂ : S.HR ((I, ob₁) :: ext) ρ σ h₁ := H₁.cons_ext (p := (I, ob₁)) hI₁ (Like.refl _) DI.rho DI.above
   refine tgt_name (n := n) hx env A ((I, ob₁) :: ext) ρ m m₁ σ v u { s₀ with heap := h₁, toks := t₁ } I ob₁ it' he hR.hd (F₁.consExt OI) H₂ ru e2 trivial hI₁ hO₁ _ _ fun h₂ t₂ H₃ F₃ => ?_
   refine wpAny_mono (ib env A ((I, ob₁) :: ext) ρ m₁ σ .next m₂ σ { s₀ with heap := h₂, toks := t₂ } he (hR.cons _) F₃ H₃ e3) (fun f s' q => ?_) fun _ _ q => q.elim
   refine x3_5 q fun ρ₄ h₄ t₄ p₄ zz5 H₄ F₄ r₄ => ?_
   clear q
   subst zz5
   cases r₄
   refine x1_2 (H₄.exs _ (.head _)) fun oi q1 q2 => ?_
   have q5 := q2.eq hO₁.noFrame
   dsimp only at q5
   subst q5
   exact i1_2 k (Nat.lt_succ_self _) (i6_1 it' ρ₄ h₄ t₄ _ m₂ ⟨rfl, (hp.trans p₄), j, (H₄.mono_ext fun p hp => .tail _ hp), F₄.tailExt, q1, (hO₁.mono p₄), ⟨H₄.disj _ (.head _), DI.ext, DI.above⟩, OI⟩)
theorem rx_for (G : S.Good) {i : Nat} {x : Str} {p pos : Pos} {it : Expr} {body : List Stmt} {a : E} {b : Ss} {v : V} {σ₁ : Hp} {ii : It} {k : Nat} (hx : xs[i]? = some x) (hset : ∀ env x, foldedSetIterable it env x = pure x) (iE : SE S n Φ xs gl cn it a) (ib : SSs S n Φ xs gl cn body b)
 (e1 : vE S.g Φ a m σ = some (v, σ₁)) (e2 : iter S.g σ₁ v = some ii) (hs : σ <+: σ₁) (j : FRx S n Φ xs gl cn i body b σ₁ k ii m) : RxS S n xs gl cn (.For (.Name x p) it body [] pos) m σ := by
 intro env A ext ρ s outer he hfr R F H
 refine wpAny_For (inExpr iE he R F H e1 fun u ρ₁ h₁ t₁ p₁ H₁ F₁ r₁ => ?_) (hset env)
 refine iter_snd (s := { s with heap := h₁, toks := t₁ }) G e2 H₁ r₁ fun ob hO hf => ?_
 have AI := HR.apart H₁ (Nat.le_refl _)
 have OI := F₁.off (Nat.le_refl _)
 have F₂ : FS S env xs cn m ρ₁ ext (h₁.push ob) := F₁.extBut (a := h₁.objs.size) (fun b o _ e => Heap.get?_push_of_some _ e) OI.top fun x c hx hc hk => OI.cell x c hx hk hc
 refine codeAny_mono (raise_loop G hx (s₀ := { s with heap := h₁, toks := t₁ }) H₁ he hfr R ib k { s with heap := h₁.push ob, toks := t₁ } (i6_1 ii ρ₁ (h₁.push ob) t₁ ob m ⟨rfl, (List.prefix_refl _), j, (H₁.push ob), F₂, (Heap.get?_push_size _ hf), hO, AI, OI⟩)) fun r s' q => ?_
 cases r with
 | ok f => exact q.elim
 | error e => exact wpAny_mono q (fun _ _ z => z.from H p₁ hs fun _ y => y) fun _ _ z => z.from H p₁ hs fun _ y => y
end
section
variable {S : St} {n : Nat} {Φ : CallF} {xs gl cn : List Str} {A : Around} {ext : List (Addr × Obj)} {ρ : List Addr} {σ : Hp} {s : Shared}
theorem call_enter (G : S.Good) {a : Addr} {args : List V} {vals : List Value} {na nl : Nat} {oc : Value} {od : Option Addr} {osl : Array (Option Value)} {name qual : Str} {params : Arguments} {body : List Stmt} {scope : Scope} {dV kV doc pm : Value} {an : Option Addr} {cdv ct : Value}
 (hl : S.K.lookup a = some ⟨oc, od, .func (fnOf name qual params body scope dV kV doc pm an cdv ct), osl⟩) (hcd : codeIn S.K cdv qual = true)
 (hkind : scope.kind = .function) (hco : scope.isCoroutine = false) (hgen : scope.isGenerator = false) (hxs : xs.length = nl) (hle : na <= nl) (hnd : xs.Nodup) (hkinds : ∀ x ∈ xs, (x ∈ cn /\ scope.names.lookup x = some .cell) \/ (x ∉ cn /\ scope.names.lookup x = some .local))
 (hgl : ∀ x ∈ gl, scope.names.lookup x = some .globalImplicit) (hcn : ∀ x ∈ cn, scope.names.lookup x = some .cell)
 (hbind : ∀ vals : List Value, vals.length = na -> bindArgs (fnOf name qual params body scope dV kV doc pm an cdv ct) ⟨vals, []⟩ = pure ((xs.take na).zip vals)) (hargs : args.length = na)
 (R : Room (n + 1) A ext) (H : S.HR ext ρ σ s.heap) (r : S.VRs ρ args vals) {Rr : Result -> Shared -> Prop}
 (k : ∀ env outer h₁ tk, EnvOk env gl cn -> A.frames = some outer -> (A.deeper env).frames = some (env :: outer) -> RoomS n (A.deeper env) ext env -> FS S env xs cn (args.map some ++ List.replicate (nl - na) none) ρ ext h₁ -> S.HR ext ρ σ h₁ ->
  wpAny S.M (A.deeper env) (execs body env) (fun f s' => Rr (.ok (.ret (match f with | .ret v => v | _ => .none))) s') (fun e s' => wpAny S.M (A.deeper env) (leaving env e) (fun _ s'' => Rr (.error e) s'') (fun e' s'' => Rr (.error e') s'') s') { s with heap := h₁, toks := tk }) :
 codeAny S.M A (.call (.ref a) ⟨vals, []⟩) Rr s := by
 have hvl : vals.length = na := by rw [<- r.length]; exact hargs
 have htl : (xs.take na).length = na := by rw [List.length_take]; lia
 have hzip : ((xs.take na).zip vals).map (·.1) = xs.take na := List.map_fst_zip (by lia)
 have hzn : (((xs.take na).zip vals).map (·.1)).Nodup := by rw [hzip]; exact hnd.sublist (List.take_sublist ..)
 have X := G.X.keeps H.keep
 refine codeAny_call_cells (fd := fnOf name qual params body scope dV kV doc pm an cdv ct) (body := body) (binds := (xs.take na).zip vals) (by have := R.depth; lia) (X _ _ hl) rfl (G.T.nolimit.keeps H.keep) (codeRec_of X hcd) rfl (hbind vals hvl) rfl (fun x hx => ?_) (fun s₁ hs₁ => ?_) hco hgen hkind
 · have hm : x.1 ∈ xs := List.mem_of_mem_take (by rw [<- hzip]; exact List.mem_map_of_mem hx)
   rcases hkinds x.1 hm with ⟨_, h⟩ | ⟨_, h⟩
   · exact .inr ⟨h, cellsFrom_some _ _ _ (.inl h)⟩
   · exact .inl h
 · refine x2_2 (hs₁.done) fun h₁ tk y1 hk₁ => ?_
   subst y1
   have hL := HR.apart H (Nat.le_refl _)
   have hns := hs₁.toInCall.ns
   have hsz : S.h₀.objs.size <= h₁.objs.size := by
    refine x3_2 hns fun o _ _ z _ => ?_
    clear hns
    exact Nat.le_trans H.size (Nat.le_of_lt (Heap.lt_size z))
   have H₁ : S.HR ext ρ σ h₁ := H.keeps hk₁ hsz
   have slot : ∀ (i : Nat) (x : Str) (u : V), xs[i]? = some x -> (args.map some ++ List.replicate (nl - na) none)[i]? = some (some u) -> ∃ w, ((xs.take na).zip vals)[i]? = some (x, w) /\ S.VR ρ u w := by
    intro i x u e1 e2
    by_cases hi : i < args.length
    · rw [List.getElem?_append_left (by simpa using hi), List.getElem?_map, Option.map_eq_some_iff] at e2
      refine x1_2 e2 fun u' _ q => ?_
      clear e2; rename_i e2
      refine so1 q ?_
      refine x1_2 (r.at_ e2) fun w q1 q2 => ?_
      refine i1_2 w ?_ q2
      rw [List.getElem?_zip_eq_some]
      exact ⟨by rw [List.getElem?_take, if_pos (by lia)]; exact e1, q1⟩
    · rw [List.getElem?_append_right (by simpa using Nat.le_of_not_lt hi)] at e2
      have := List.mem_of_getElem? e2
      rw [List.mem_replicate] at this
      exact nn' (this.2)
   have he : EnvOk (callEnvC (fnOf name qual params body scope dV kV doc pm an cdv ct) s.heap.objs.size a) gl cn := ⟨hkind, rfl, rfl, hgl, hcn⟩
   have F : FS S (callEnvC (fnOf name qual params body scope dV kV doc pm an cdv ct) s.heap.objs.size a) xs cn (args.map some ++ List.replicate (nl - na) none) ρ ext h₁ := by
    refine ⟨by simp [hargs, hxs]; lia, hnd, hkinds, hL, ?_, fun i x hx hk => ?_, fun x y c hx hy hc1 hc2 => name_of_addr hs₁.apart (PySem.mem_of_lookup hc1) (PySem.mem_of_lookup hc2)⟩
    · refine x3_4 hns fun o es ep z1 z2 z3 z4 => ?_
      clear hns
      refine i3_4 o es ep z1 z2 z3 (fun i x u e1 hk e2 => ?_)
      refine x1_2 (slot i x u e1 e2) fun w q1 q2 => ?_
      exact ⟨w, by rw [z4]; exact bindL_hit hzn q1 hk, q2⟩
    · obtain ⟨c, hc⟩ := Option.isSome_iff_exists.mp (cellsFrom_some (x := x) scope.names (s.heap.objs.size + 1) [] (.inl hk))
      have hab := hs₁.above x c (PySem.mem_of_lookup hc)
      have hge : s.heap.objs.size <= c := Nat.le_of_lt hab
      refine i2_5 c _ hc (HR.apart H hge) (Nat.ne_of_gt hab) (hs₁.cell x c hc) (fun u e2 => ?_)
      refine x1_2 (slot i x u hx e2) fun w q1 q2 => ?_
      exact i1_2 w (bindC_hit hzn q1 hk) q2
   refine x1_2 (R.frames) fun l z1 z2 => ?_
   have hfr : (A.deeper (callEnvC (fnOf name qual params body scope dV kV doc pm an cdv ct) s.heap.objs.size a)).frames = some (callEnvC (fnOf name qual params body scope dV kV doc pm an cdv ct) s.heap.objs.size a :: l) := by
    show A.frames.map _ = _
    rw [z1]; rfl
   have RS : RoomS n (A.deeper (callEnvC (fnOf name qual params body scope dV kV doc pm an cdv ct) s.heap.objs.size a)) ext (callEnvC (fnOf name qual params body scope dV kV doc pm an cdv ct) s.heap.objs.size a) :=
    ⟨R.hd, by have := R.depth; show A.depth + 1 + n < recursionLimit; lia, by have := R.units; show A.units + 3 + 8 * n + 100 < cLine; lia, i1_2 l hfr z2, rfl⟩
   exact k _ l h₁ tk he z1 hfr RS F H₁
end
section
variable {S : St} {n : Nat} {Φ : CallF} {xs gl cn : List Str} {env : Env} {A : Around} {ext : List (Addr × Obj)} {ρ : List Addr} {m : Frm} {σ : Hp} {s : Shared} {outer : List Env}
theorem landed {H0 : Heap} {ext0 ext1 : List (Addr × Obj)} {ρ₁ : List Addr} {σ₁ : Hp} {h h' : Heap} {l : List Env} (H0 : S.HR ext0 ρ σ H0) (H : S.HR ext1 ρ₁ σ₁ h) (hp : ρ <+: ρ₁) (hs : σ <+: σ₁) (L : Led ext1 l) (hne : l ≠ []) (st : (hideAll h (frOf l)).StaysIn h') (ut : h.UpToSlots h') (ke : ∀ p ∈ ext, p ∈ ext1) : S.HR ext ρ σ h' :=
 (HR.shrink H0 (flew H L st ut hne) hp hs).mono_ext ke
theorem catch_true (G : S.Good) (hK : S.K = Mine.K S.w.params) {ext' : List (Addr × Obj)} {ρ₁ : List Addr} {σ₁ : Hp} {h0 : Heap} {np hpos cp rp : Pos} {ck : Nat} {v : Value} {s' : Shared} {Q : Flow -> Shared -> Prop} {E : Value -> Shared -> Prop}
 (hfr : A.frames = some (env :: outer)) (hf : env.frame = some env.locals) (he : EnvOk env gl cn) (hb : ("BadTable" : Str) ∈ gl) (x : Fly S s (env :: outer) ext' ρ₁ σ₁ v s') (H0 : S.HR ext ρ σ h0) (hp : ρ <+: ρ₁) (hs : σ <+: σ₁) (ke : ∀ p ∈ ext, p ∈ ext')
 (k : ∀ h' t', S.HR ext ρ σ h' -> Q (.ret (.bool true)) { s with heap := h', toks := t' }) :
 wpAny S.M A (noteFrame v env) (fun _ s₂ => wpAny S.M A (setFlight v none) (fun _ s₃ => wpAny S.M A (handleBy v env [.ExceptHandler (some (.Name "BadTable" np)) none [.Return (some (.Constant (.bool true) ck cp)) rp] hpos]) Q E s₃) E s₂) E s' := by
 refine x7_1 x fun e h h' t' ext1 l a0 zq => x0_8 zq fun zz1 zz2 k1 H L hne ut fl => ?_
 clear x
 subst zz1
 subst zz2
 have XX : S.K.In S.h₀ := G.X
 refine wpAny_looks_onW (s := { s with heap := h', toks := t' }) hfr hf fl fun h₄ hheld₄ ut₄ => ?_
 refine wpAny_landsW (s := { s with heap := h₄, toks := t' }) hheld₄ fun h₅ fl₅ ut₅ => ?_
 have H₅ := flew H L fl₅.1 ((ut.trans ut₄).trans ut₅) hne
 have hC : h₅.get? 44 = some badObj := by have := G.X.keeps H₅.keep; rw [hK] at this; exact this _ _ (k_bad _)
 refine x1_2 (fl₅.there) fun ob hob hobc => ?_
 refine wpAny_handleBy_cons (codeAny_handlers_test (Name_function_global he.kind (he.gk _ hb) (loadGlobal_global (by rw [he.glob]; exact G.T.g.keeps H₅.keep) (mg_of G.X G.T.g (by rw [hK]; exact k_badName _)) ?_) (by decide))) (by intro q; cases q)
 refine wpAny_excMatches_sub_self (h := h₅) hC hob hobc (by decide +kernel) (codeAny_handlers_suite ?_)
 refine lands_againW (s := { s with heap := h₅, toks := t' }) fl₅ fun h₆ fl₆ ut₆ => ?_
 have H₆ := landed (ext := ext) H0 H hp hs L hne fl₆.1 (((ut.trans ut₄).trans ut₅).trans ut₆) fun p hp => k1 p (ke p hp)
 exact wpAny_execs_cons (wpAny_Return_some (Constant_bool (k h₆ t' H₆)))
end
noncomputable def phi0 : CallF := fun _ _ _ => none
theorem phi0_ok {S : St} {n : Nat} : CallsOk S n phi0 := fun _ _ _ _ _ _ _ _ _ _ _ e => by exact nn e
section
variable {g : List O} {Φ : CallF} {m : Frm} {σ : Hp} {z k s a b c : Int} {xs : List V}
theorem ev_int {i : Int} : vE g Φ (.lit (.int i)) m σ = some (.int i, σ) := rfl
theorem ev_loc {i : Nat} {v : V} (h : m[i]? = some (some v)) : vE g Φ (.loc i) m σ = some (v, σ) := eL h
theorem ev_cmp {o : C} {x y : E} {i j : Int} {r : Bool} (h1 : vE g Φ x m σ = some (.int i, σ)) (h2 : vE g Φ y m σ = some (.int j, σ)) (h : cmpI o i j = some r) : vE g Φ (.cmp o x y) m σ = some (.bool r, σ) := e_cmp h1 h2 h
theorem ev_or {x y : E} {p q : Bool} (h1 : vE g Φ x m σ = some (.bool p, σ)) (h2 : vE g Φ y m σ = some (.bool q, σ)) : vE g Φ (.or x y) m σ = some (.bool (p || q), σ) := by
 cases p with
 | true => exact e_or_t h1 rfl
 | false => exact e_or_f h1 rfl h2
theorem ev_and {x y : E} {p q : Bool} (h1 : vE g Φ x m σ = some (.bool p, σ)) (h2 : vE g Φ y m σ = some (.bool q, σ)) : vE g Φ (.and x y) m σ = some (.bool (p && q), σ) := by
 cases p with
 | true => exact e_and_t h1 rfl h2
 | false => exact e_and_f h1 rfl
theorem ev_bin {o : B} {x y : E} {i j r : Int} (h1 : vE g Φ x m σ = some (.int i, σ)) (h2 : vE g Φ y m σ = some (.int j, σ)) (h : arith o i j = some r) : vE g Φ (.bin o x y) m σ = some (.int r, σ) := e_bin h1 h2 h
theorem arith_mul {i j : Int} (h1 : i.natAbs < 2 ^ 64) (h2 : j.natAbs < 2 ^ 64) : arith .mul i j = some (i * j) := if_pos ⟨h1, h2⟩
theorem ex_skip {c : E} {t : Ss} (h : vE g Φ c m σ = some (.bool false, σ)) : execS g Φ (.ife c t .nil) m σ = some (.next, m, σ) := s_if_f h rfl rfl
end
section
variable {S : St} {n : Nat} {xs gl cn : List Str} {m : Frm} {σ : Hp}
theorem rx_guard (G : S.Good) (hK : S.K = Mine.K S.w.params) (hn : 1 <= n) (hb : ("BadTable" : Str) ∈ gl) {c : Expr} {ce : E} (tr : TrE S xs gl cn c ce) {pv : Bool} (ev : vE S.g phi0 ce m σ = some (.bool pv, σ)) {tx : Str} {kk : Nat} {np kp cpos rpos pos : Pos} {r : List Stmt} (hz : tx.length <= 1000)
 (rest : pv = false -> RxSs S n xs gl cn r m σ) : RxSs S n xs gl cn (.If c [.Raise (some (.Call (.Name "BadTable" np) [.Constant (.str tx) kk kp] [] cpos)) none rpos] [] pos :: r) m σ := by
 cases pv with
 | true => exact rx_here (rx_if (soundE G phi0_ok tr).2 ev rfl (List.prefix_refl _) (rx_here (rx_raise G hK hn hb hz)))
 | false => exact rx_later (ss_ife (soundE G phi0_ok tr).2 (soundS G phi0_ok (.cons .stuck .nil)) (soundS G phi0_ok .nil)) (ex_skip ev) (List.prefix_refl _) (rest rfl)
end
section
variable {w : World} {p : Program} {loose : List Str} {mean : ExcName -> Option Value} {mg mb : Str -> Option Value} {h : Heap} {sc : Addr} {ns : List Int} {n : Nat} {A : Around} {ext : List (Addr × Obj)} {ρ : List Addr} {σ : Hp} {s : Shared} {vals : List Value} {outer : List Env}
noncomputable def pF (geo table : V) (k sd a b c z : Int) (v : Option V) : Frm := [some geo, some table, some (.int k), some (.int sd), some (.int a), some (.int b), some (.int c), some (.int z), v]
set_option maxRecDepth 20000 in
theorem probe_fly (G : (st w p loose mean mg mb h sc ns).Good) (hn : 1 <= n) {geo table : V} {z k sd a b c : Int} {xs : List V} (hz : attr σ geo 2 = some (.int z)) (hx : listOf (gobj ns) σ table = some xs)
 (hc : xs.length < 1000000 /\ 0 <= z /\ z <= 100 /\ ((k < 2 \/ 5 < k) \/ (xs.length : Int) ≠ 2 * z * z * z \/ (sd ≠ 0 /\ sd ≠ 1) \/ (a < 0 \/ z <= a) \/ (b < 0 \/ z <= b) \/ (c < 0 \/ z <= c)))
 (R : Room (n + 1) A ext) (H : (st w p loose mean mg mb h sc ns).HR ext ρ σ s.heap) (r : (st w p loose mean mg mb h sc ns).VRs ρ [geo, table, .int k, .int sd, .int a, .int b, .int c] vals) (hfr : A.frames = some outer) :
 codeAny (st w p loose mean mg mb h sc ns).M A (.call (.ref 235) ⟨vals, []⟩) (fun r s' => match r with | .ok _ => False | .error v => Fly (st w p loose mean mg mb h sc ns) s outer ext ρ σ v s') s := by
 refine x0_4 hc fun hl hz0 hz1 hd => ?_
 clear hc
 refine call_enter G (xs := ["geo", "table", "kind", "side", "strong", "piece", "weak", "size", "square"]) (gl := ["KNIGHT", "QUEEN", "len", "STRONG_MOVES", "WEAK_MOVES", "BadTable"]) (cn := []) (na := 7) (nl := 9) rfl (by kernel_rfl) rfl rfl rfl rfl (by decide) (by decide) (by decide) (by decide) (by decide) (v7 (fun a0 a1 a2 a3 a4 a5 a6 => rfl)) rfl R H r (fun env outer' h₁ tk he h1 hfr' RS F H₁ => ?_)
 rw [hfr] at h1
 cases h1
 suffices rx : RxSs (st w p loose mean mg mb h sc ns) n ["geo", "table", "kind", "side", "strong", "piece", "weak", "size", "square"] ["KNIGHT", "QUEEN", "len", "STRONG_MOVES", "WEAK_MOVES", "BadTable"] [] _ ([geo, table, .int k, .int sd, .int a, .int b, .int c].map some ++ List.replicate (9 - 7) none) σ from
  wpAny_mono (rx env _ ext ρ { s with heap := h₁, toks := tk } outer he hfr' RS F H₁) (fun _ _ q => q.elim) fun v s' q => raised_leave (q.from H (List.prefix_refl _) (List.prefix_refl _) fun _ z => z) hfr' fun s'' z => z
 have hb : ("BadTable" : Str) ∈ (["KNIGHT", "QUEEN", "len", "STRONG_MOVES", "WEAK_MOVES", "BadTable"] : List Str) := by decide
 refine rx_later (Φ := phi0) (a := .asg 7 (.attr (.loc 0) 2)) (ss_asg rfl (fun _ => rfl) (soundE G phi0_ok (chkE_ok st_sok _ _ _ _ _ (by kernel_rfl))).1) (m₁ := (pF geo table k sd a b c z none)) (σ₁ := σ) (sA (e_attr (eL rfl) hz) (lb rfl)) (List.prefix_refl _) ?_
 refine rx_guard G rfl hn hb (ce := .or (.cmp .lt (.loc 2) (.lit (.int 2))) (.cmp .gt (.loc 2) (.lit (.int 5)))) (chkE_ok st_sok _ _ _ _ _ (by kernel_rfl))
  (ev_or (ev_cmp (ev_loc rfl) ev_int rfl) (ev_cmp (ev_loc rfl) ev_int rfl)) (by decide) fun n1 => ?_
 have elen : vE (gobj ns) phi0 (.blt .len (.cons (.loc 1) .nil)) (pF geo table k sd a b c z none) σ = some (.int xs.length, σ) := by
  exact e_blt (eC (eL rfl) eN) (b1_of hx (if_pos hl))
 have m1 : arith .mul 2 z = some (2 * z) := arith_mul (by exact lb rfl) (by lia)
 have z2 : 2 * z * z <= 2 * 100 * 100 := by
  have h1 : 2 * z <= 2 * 100 := by lia
  have h2 : 2 * z * z <= 2 * z * 100 := Int.mul_le_mul_of_nonneg_left hz1 (by lia)
  lia
 have z3 : 0 <= 2 * z * z := Int.mul_nonneg (by lia) hz0
 have m2 : arith .mul (2 * z) z = some (2 * z * z) := arith_mul (by lia) (by lia)
 have m3 : arith .mul (2 * z * z) z = some (2 * z * z * z) := arith_mul (by lia) (by lia)
 refine rx_guard G rfl hn hb (ce := .cmp .ne (.blt .len (.cons (.loc 1) .nil)) (.bin .mul (.bin .mul (.bin .mul (.lit (.int 2)) (.loc 7)) (.loc 7)) (.loc 7))) (chkE_ok st_sok _ _ _ _ _ (by kernel_rfl))
  (ev_cmp elen (ev_bin (ev_bin (ev_bin ev_int (ev_loc rfl) m1) (ev_loc rfl) m2) (ev_loc rfl) m3) rfl) (by decide) fun n2 => ?_
 refine rx_guard G rfl hn hb (ce := .and (.cmp .ne (.loc 3) (.lit (.int 0))) (.cmp .ne (.loc 3) (.lit (.int 1)))) (chkE_ok st_sok _ _ _ _ _ (by kernel_rfl))
  (ev_and (ev_cmp (ev_loc rfl) ev_int rfl) (ev_cmp (ev_loc rfl) ev_int rfl)) (by decide) fun n3 => ?_
 have hd' : (a < 0 \/ z <= a) \/ (b < 0 \/ z <= b) \/ (c < 0 \/ z <= c) := by
  simp only [Bool.or_eq_false_iff, Bool.and_eq_false_iff, decide_eq_false_iff_not, Decidable.not_not] at n1 n2 n3
  lia
 have hσ : getO (gobj ns) (σ ++ [O.tup [.int a, .int b, .int c]]) (.ref σ.length) = some (.tup [.int a, .int b, .int c]) := by simp [getO]
 have gd : ∀ (v : Int) (pv : Bool) (q : pv = decide (v < 0 \/ z <= v)), vE (gobj ns) phi0 (.or (.cmp .lt (.loc 8) (.lit (.int 0))) (.cmp .ge (.loc 8) (.loc 7))) (pF geo table k sd a b c z (some (.int v))) (σ ++ [O.tup [.int a, .int b, .int c]]) = some (.bool pv, (σ ++ [O.tup [.int a, .int b, .int c]])) := by
  intro v pv q
  rw [ev_or (ev_cmp (ev_loc rfl) ev_int rfl) (ev_cmp (ev_loc rfl) (ev_loc rfl) rfl), q]
  simp
 have nx : ∀ (i : Nat) (v : V), [V.int a, V.int b, V.int c][i]? = some v -> next (gobj ns) (σ ++ [O.tup [.int a, .int b, .int c]]) (.tup (.ref σ.length) i) = some (some (v, .tup (.ref σ.length) (i + 1))) := by
  intro i v q
  simp [next, tupOf, hσ, q]
 refine rx_here (rx_for (b := .cons (.ife (.or (.cmp .lt (.loc 8) (.lit (.int 0))) (.cmp .ge (.loc 8) (.loc 7))) (.cons .stuck .nil) .nil) .nil) (a := .tup (.cons (.loc 4) (.cons (.loc 5) (.cons (.loc 6) .nil)))) (Φ := phi0) (i := 8) (k := 2) (v := .ref σ.length) (σ₁ := σ ++ [O.tup [.int a, .int b, .int c]]) (ii := .tup (.ref σ.length) 0) G rfl (fun _ _ => rfl)
  (soundE G phi0_ok (chkE_ok st_sok _ _ _ _ _ (by kernel_rfl))).1
  (soundS G phi0_ok (chkSs_ok st_sok _ _ (by kernel_rfl)))
  (e_tup (eC (eL rfl) (eC (eL rfl) (eC (eL rfl) eN))) (lb rfl)) (by unfold iter; rw [hσ]) (pfa ..) ?_)
 by_cases ha : a < 0 \/ z <= a
 · exact .now (nx 0 _ rfl) (m₁ := (pF geo table k sd a b c z (some (.int a)))) rfl (rx_guard G rfl hn hb (ce := .or (.cmp .lt (.loc 8) (.lit (.int 0))) (.cmp .ge (.loc 8) (.loc 7))) (chkE_ok st_sok _ _ _ _ _ (by kernel_rfl)) (gd a true (by simp [ha])) (by decide) fun q => by exact nt q)
 · refine .later (nx 0 _ rfl) (m₁ := (pF geo table k sd a b c z (some (.int a)))) (m₂ := (pF geo table k sd a b c z (some (.int a)))) rfl (sC (ex_skip (gd a false (by simp; lia))) sN) ?_
   by_cases hbb : b < 0 \/ z <= b
   · exact .now (nx 1 _ rfl) (m₁ := (pF geo table k sd a b c z (some (.int b)))) rfl (rx_guard G rfl hn hb (ce := .or (.cmp .lt (.loc 8) (.lit (.int 0))) (.cmp .ge (.loc 8) (.loc 7))) (chkE_ok st_sok _ _ _ _ _ (by kernel_rfl)) (gd b true (by simp [hbb])) (by decide) fun q => by exact nt q)
   · refine .later (nx 1 _ rfl) (m₁ := (pF geo table k sd a b c z (some (.int b)))) (m₂ := (pF geo table k sd a b c z (some (.int b)))) rfl (sC (ex_skip (gd b false (by simp; lia))) sN) ?_
     have hcc : c < 0 \/ z <= c := by lia
     exact .now (nx 2 _ rfl) (m₁ := (pF geo table k sd a b c z (some (.int c)))) rfl (rx_guard G rfl hn hb (ce := .or (.cmp .lt (.loc 8) (.lit (.int 0))) (.cmp .ge (.loc 8) (.loc 7))) (chkE_ok st_sok _ _ _ _ _ (by kernel_rfl)) (gd c true (by simp [hcc])) (by decide) fun q => by exact nt q)
end
section
variable {S : St} {n : Nat} {Φ : CallF} {xs gl cn : List Str} {env : Env} {A : Around} {ext : List (Addr × Obj)} {ρ : List Addr} {m : Frm} {σ : Hp} {s : Shared} {outer : List Env}
theorem try_call (G : S.Good) (hK : S.K = Mine.K S.w.params) {x : Str} {p pos epos np hpos cp rp tpos : Pos} {ck : Nat} {args : List Expr} {as : Es} {a : Addr} {vs : List V} (hx : x ∈ gl) (hb : ("BadTable" : Str) ∈ gl) (e1 : nsIn S.K mainGlobals x = some (some (.ref a))) (hk : keepIn S.K (.ref a) = true) (hd : (x == ("__debug__" : Str)) = false)
 (hsw : ∀ env, swapsWith (.Call (.Name x p) args [] pos) none epos.line env = pure false) (htr : ∀ env, backTo pos (starEach args env) = args.map fun e => (false, eval e env)) (i : SEs S n Φ xs gl cn args as) (ev : evalEs S.g Φ as m σ = some (vs, σ))
 (fly : ∀ {A : Around} {ext : List (Addr × Obj)} {ρ : List Addr} {s : Shared} {vals : List Value} {outer : List Env}, Room n A ext -> S.HR ext ρ σ s.heap -> S.VRs ρ vs vals -> A.frames = some outer ->
  codeAny S.M A (.call (.ref a) ⟨vals, []⟩) (fun r s' => match r with | .ok _ => False | .error v => Fly S s outer ext ρ σ v s') s)
 (he : EnvOk env gl cn) (hfr : A.frames = some (env :: outer)) (R : RoomS n A ext env) (F : FS S env xs cn m ρ ext s.heap) (H : S.HR ext ρ σ s.heap) {Q : Flow -> Shared -> Prop} {E : Value -> Shared -> Prop}
 (k : ∀ h' t', S.HR ext ρ σ h' -> Q (.ret (.bool true)) { s with heap := h', toks := t' }) :
 wpAny S.M A (exec (.Try [.Expr (.Call (.Name x p) args [] pos) epos] [.ExceptHandler (some (.Name "BadTable" np)) none [.Return (some (.Constant (.bool true) ck cp)) rp] hpos] [] [] tpos) env) Q E s := by
 have Y := F.sur he R (n := n)
 have H' := F.enter H
 refine wpAny_Try_except (wpAny_execs_cons (wpAny_Expr (wpAny_mono (Q := fun _ _ => False) ?_ (fun _ _ z => z.elim) fun _ _ z => z) (by unfold interactive; rw [he.kind]; rfl) (hsw env)))
 refine Call_ (globalName G Y H' hx e1 hd ?_)
 rw [htr]
 refine callArgs (P := fun h => S.K.In h) (fun h hh => keeps_K hk h hh) (andThens (i env A _ ρ m σ vs σ s Y H' ev) fun w ρ₁ h₁ t₁ p₁ H₁ r₁ => ⟨G.X.keeps H₁.keep, ?_⟩)
 refine wpAny_call (codeAny_mono (fly (s := { s with heap := h₁, toks := t₁ }) Y.room H₁ r₁ hfr) fun r s' q => ?_)
 cases r with
 | ok f => exact q.elim
 | error v =>
   refine catch_true (s := s) G hK hfr R.frame he hb ?_ H p₁ (List.prefix_refl _) (ext' := frameExt env xs s.heap ++ ext) (fun p hp => List.mem_append_right _ hp) k
   exact q
end
section
variable {w : World} {p : Program} {loose : List Str} {mean : ExcName -> Option Value} {mg mb : Str -> Option Value} {h : Heap} {sc : Addr} {ns : List Int} {n : Nat} {A : Around} {ext : List (Addr × Obj)} {ρ : List Addr} {σ : Hp} {s : Shared} {vals : List Value} {outer : List Env}
set_option maxRecDepth 20000 in
theorem build_fly (G : (st w p loose mean mg mb h sc ns).Good) (hn : 1 <= n) {geo : V} {k zn : Int} (hc : k < 2 \/ 5 < k)
 (R : Room (n + 1) A ext) (H : (st w p loose mean mg mb h sc ns).HR ext ρ σ s.heap) (r : (st w p loose mean mg mb h sc ns).VRs ρ [geo, .int k, .int zn] vals) (hfr : A.frames = some outer) :
 codeAny (st w p loose mean mg mb h sc ns).M A (.call (.ref 221) ⟨vals, []⟩) (fun r s' => match r with | .ok _ => False | .error v => Fly (st w p loose mean mg mb h sc ns) s outer ext ρ σ v s') s := by
 refine call_enter G (xs := ["geo", "kind", "zone", "half", "table", "places", "where", "k", "sides", "after", "lost", "n", "side", "strong", "piece", "weak", "row", "origin", "goal", "place", "values"]) (gl := ["KNIGHT", "QUEEN", "BadTable"]) (cn := []) (na := 3) (nl := 21) rfl (by kernel_rfl) rfl rfl rfl rfl (by decide) (by decide) (by decide) (by decide) (by decide) (v3 (fun a0 a1 a2 => rfl)) rfl R H r (fun env outer' h₁ tk he h1 hfr' RS F H₁ => ?_)
 rw [hfr] at h1
 cases h1
 suffices rx : RxSs (st w p loose mean mg mb h sc ns) n ["geo", "kind", "zone", "half", "table", "places", "where", "k", "sides", "after", "lost", "n", "side", "strong", "piece", "weak", "row", "origin", "goal", "place", "values"] ["KNIGHT", "QUEEN", "BadTable"] [] _ ([geo, .int k, .int zn].map some ++ List.replicate (21 - 3) none) σ from
  wpAny_mono (rx env _ ext ρ { s with heap := h₁, toks := tk } outer he hfr' RS F H₁) (fun _ _ q => q.elim) fun v s' q => raised_leave (q.from H (List.prefix_refl _) (List.prefix_refl _) fun _ z => z) hfr' fun s'' z => z
 have hb : ("BadTable" : Str) ∈ (["KNIGHT", "QUEEN", "BadTable"] : List Str) := by decide
 exact rx_guard G rfl hn hb (ce := .or (.cmp .lt (.loc 1) (.lit (.int 2))) (.cmp .gt (.loc 1) (.lit (.int 5)))) (chkE_ok st_sok _ _ _ _ _ (by kernel_rfl))
  (ev_or (ev_cmp (ev_loc rfl) ev_int rfl) (ev_cmp (ev_loc rfl) ev_int rfl)) (by decide) fun n1 => by
   simp only [Bool.or_eq_false_iff, decide_eq_false_iff_not] at n1
   omega
theorem unbuilt_inv {args : List V} {σ : Hp} {r : V × Hp} {X : Prop} (e : unbuilt args σ = some r) (f : ∀ geo (k : Int), args = [geo, .int k] -> (k < 2 \/ 5 < k) -> r = (.bool true, σ) -> X) : X := by
 refine a2_inv e fun geo kv ea e => ?_
 refine x1_2 (b1_inv e) fun k hk e => ?_
 split at e
 · rename_i h
   exact f geo k (by rw [ea, asInt_inv hk]) h (Option.some.inj e).symm
 · exact nn e
theorem refused_inv {g : List O} {args : List V} {σ : Hp} {r : V × Hp} {X : Prop} (e : refused g args σ = some r) (f : ∀ geo table place (z k sd a b c : Int) xs, args = [geo, table, .int k, place] -> getO g σ place = some (.tup [.int sd, .int a, .int b, .int c]) -> attr σ geo 2 = some (.int z) -> listOf g σ table = some xs ->
 (xs.length < 1000000 /\ 0 <= z /\ z <= 100 /\ ((k < 2 \/ 5 < k) \/ (xs.length : Int) ≠ 2 * z * z * z \/ (sd ≠ 0 /\ sd ≠ 1) \/ (a < 0 \/ z <= a) \/ (b < 0 \/ z <= b) \/ (c < 0 \/ z <= c))) -> r = (.bool true, σ) -> X) : X := by
 refine a4_inv e fun geo table kind place ea e => ?_
 refine x1_2 (b1_inv e) fun t ht e => ?_
 refine a4_inv e fun sv av bv cv et e => ?_
 refine x1_2 (b1_inv e) fun zv hz e => ?_
 refine x1_2 (b1_inv e) fun z z1 e => ?_
 refine x1_2 (b1_inv e) fun k z2 e => ?_
 refine x1_2 (b1_inv e) fun xs hx e => ?_
 refine x1_2 (b1_inv e) fun sd z3 e => ?_
 refine x1_2 (b1_inv e) fun a z4 e => ?_
 refine x1_2 (b1_inv e) fun b z5 e => ?_
 refine x1_2 (b1_inv e) fun c z6 e => ?_
 split at e
 · rename_i h
   exact f geo table place z k sd a b c xs (by rw [ea, asInt_inv z2]) (by rw [tupOf_inv ht, et, asInt_inv z3, asInt_inv z4, asInt_inv z5, asInt_inv z6]) (by rw [hz, asInt_inv z1]) hx h (Option.some.inj e).symm
 · exact nn e
theorem at_4 {n : Nat} {x : Option (V × Hp)} {r : V × Hp} {X : Prop} (e : (if 4 <= n then x else none) = some r) (f : 4 <= n -> x = some r -> X) : X := by
 split at e
 · exact f ‹_› e
 · exact nn e
theorem idx_lit {g : List O} {Φ : CallF} {m : Frm} {σ : Hp} {j : Nat} {o : V} {xs : List V} {i : Int} {u : V} (h : m[j]? = some (some o)) (ho : getO g σ o = some (.tup xs)) (q : 0 <= i /\ i < 2 ^ 62) (hu : xs[i.toNat]? = some u) : vE g Φ (.idx (.loc j) (.lit (.int i))) m σ = some (u, σ) :=
 eX (eL h) eI (by unfold idx; rw [ho]; exact (if_pos q).trans hu)
set_option maxRecDepth 20000 in
theorem unbuilt_ok (G : (st w p loose mean mg mb h sc ns).Good) (n : Nat) : CallOkAt (st w p loose mean mg mb h sc ns) (n + 1) (fun _ args σ => if 4 <= n then unbuilt args σ else none) 40 := by
 intro args σ v σ' a A ext ρ s vals e ha R hne H r
 refine at_4 e fun h4 e => unbuilt_inv e fun geo k ea hc ev => ?_
 clear e
 subst ea
 refine so1 ha ?_
 cases ev
 cases n with
 | zero => exact absurd h4 (by decide)
 | succ n =>
 refine codeToCall (call_enter G (xs := ["geo", "kind"]) (gl := ["build_zone", "BadTable"]) (cn := []) (na := 2) (nl := 2) rfl (by kernel_rfl) rfl rfl rfl rfl (by decide) (by decide) (by decide) (by decide) (by decide) (v2 (fun a0 a1 => rfl)) rfl R H r (fun env outer' h₁ tk he h1 hfr' RS F H₁ => ?_))
 refine wpAny_execs_cons (try_call (s := { s with heap := h₁, toks := tk }) (Φ := phi0) (as := .cons (.loc 0) (.cons (.loc 1) (.cons (.lit (.int 1)) .nil))) (vs := [geo, .int k, .int 1]) G rfl (.head _) (.tail _ (.head _)) (gl_build_zone _) (kp_build_zone _) rfl (fun _ => rfl) (fun _ => rfl)
  ((chkEs_ok st_sok _ _ _ _ _ (by kernel_rfl)).2 _ phi0 G phi0_ok) (eC (eL rfl) (eC (eL rfl) (eC eI eN)))
  (fun R H r hfr => build_fly G (by lia) hc R H r hfr) he hfr' RS F H₁ fun h' t' H' => ?_)
 exact i3_4 ρ h' t' (List.prefix_refl _) rfl H' rfl
set_option maxRecDepth 20000 in
theorem refused_ok (G : (st w p loose mean mg mb h sc ns).Good) (n : Nat) : CallOkAt (st w p loose mean mg mb h sc ns) (n + 1) (fun _ args σ => if 4 <= n then refused (st w p loose mean mg mb h sc ns).g args σ else none) 39 := by
 intro args σ v σ' a A ext ρ s vals e ha R hne H r
 refine at_4 e fun h4 e => refused_inv e fun geo table place z k sd a b c xs ea hp hz hx hr ev => ?_
 clear e
 subst ea
 refine so1 ha ?_
 cases ev
 cases n with
 | zero => exact absurd h4 (by decide)
 | succ n =>
 refine codeToCall (call_enter G (xs := ["geo", "table", "kind", "place"]) (gl := ["probe", "BadTable"]) (cn := []) (na := 4) (nl := 4) rfl (by kernel_rfl) rfl rfl rfl rfl (by decide) (by decide) (by decide) (by decide) (by decide) (v4 (fun a0 a1 a2 a3 => rfl)) rfl R H r (fun env outer' h₁ tk he h1 hfr' RS F H₁ => ?_))
 refine wpAny_execs_cons (try_call (s := { s with heap := h₁, toks := tk }) (Φ := phi0) (as := .cons (.loc 0) (.cons (.loc 1) (.cons (.loc 2) (.cons (.idx (.loc 3) (.lit (.int 0))) (.cons (.idx (.loc 3) (.lit (.int 1))) (.cons (.idx (.loc 3) (.lit (.int 2))) (.cons (.idx (.loc 3) (.lit (.int 3))) .nil)))))))
  (vs := [geo, table, .int k, .int sd, .int a, .int b, .int c]) G rfl (.head _) (.tail _ (.head _)) (gl_probe _) (kp_probe _) rfl (fun _ => rfl) (fun _ => rfl)
  ((chkEs_ok st_sok _ _ _ _ _ (by kernel_rfl)).2 _ phi0 G phi0_ok)
  (eC (eL rfl) (eC (eL rfl) (eC (eL rfl) (eC (idx_lit rfl hp (by decide) rfl) (eC (idx_lit rfl hp (by decide) rfl) (eC (idx_lit rfl hp (by decide) rfl) (eC (idx_lit rfl hp (by decide) rfl) eN)))))))
  (fun R H r hfr => probe_fly G (by lia) hz hx hr R H r hfr) he hfr' RS F H₁ fun h' t' H' => ?_)
 exact i3_4 ρ h' t' (List.prefix_refl _) rfl H' rfl
theorem prog_ok (G : (st w p loose mean mg mb h sc ns).Good) : ProgOk (st w p loose mean mg mb h sc ns) where
 fns := fns_ok
 init := rfl
 geo := rfl
 makes := k_makes _
 inits := k_init _
 isFn := k_isFn _
 refused := refused_ok G
 unbuilt := unbuilt_ok G
end
end Mine
end
section
open PySem PySem.W PySem.Calls PyProof.Rows
namespace Mine
theorem vrs_of_ints {gad : List Addr} {vs : List Value} {ns : List Int} (h : IntsAre vs ns) : VRs gad [] (ns.map .int) vs := by
 induction h with
 | nil => rfl
 | cons n t hr ih => exact i2_3 _ _ rfl ⟨t, rfl⟩ ih
theorem or_of_well {h : Heap} {sc : Addr} {vs : List Value} {ns : List Int} {prog : Program} {w : World} {gad : List Addr} {P : Params} (hL : h.IsList sc vs.toArray) (hI : IntsAre vs ns) (hw : Well P h (.ref sc) (ofPy (PyData.list (ns.map PyData.int)))) : ∃ ob, h.get? sc = some ob /\ OR prog w gad [] (.list (ns.map .int)) ob := by
 refine cps fun _ zk => ?_
 obtain ⟨o, e, c, n, d⟩ := hL
 have hw' : ∃ us : List Value, h.get? sc = some { cls := .type "list", data := .seq us.toArray } := by
  generalize hq : ofPy (PyData.list (ns.map PyData.int)) = q at hw
  have hq' : ∃ l, q = WData.list l := ⟨_, hq.symm⟩
  obtain ⟨l, rfl⟩ := hq'
  cases hw with
  | list e _ => exact ⟨_, e⟩
 obtain ⟨us, e2⟩ := hw'
 rw [e] at e2
 refine zk ?_; clear zk
 cases e2
 cases d
 exact i1_2 _ e (i2_2 vs.toArray _ rfl (vrs_of_ints hI))
theorem top_heap {prog : Program} {w : World} {gad : List Addr} {h : Heap} : HR prog w gad h [] [] [] h where
 keep := fun _ _ e => e
 exs := fun _ h => by cases h
 len := rfl
 obj := fun i a o e _ => by exact nn e
 above := fun _ h => by cases h
 nd := List.nodup_nil
 disj := fun _ h => by cases h
 exa := fun _ h => by cases h
 size := Nat.le_refl _
end Mine
namespace Mine
noncomputable def lawD : DefRec := ((defOf view PySem.Challenge.rw_nt0439_01.row.name).map (·.1)).getD ⟨"", default, [], default, default⟩
theorem law_def : defOf view PySem.Challenge.rw_nt0439_01.row.name = some (lawD, []) := by kernel_rfl
noncomputable def o3 (P : Params) : Obj := ((K P).lookup 3).getD default
theorem dict_law {P : Params} {es ep} (e : (o3 P).data = .dict es ep) : nsFind es (Str.ofString "law") = some (.ref 350) := by
 have h : (match (o3 P).data with | .dict es _ => nsFind es (Str.ofString "law") | _ => none) = some (.ref 350) := by kernel_rfl
 rw [e] at h
 exact h
theorem fa_ {w : World} {h : Heap} {mg : Str -> Option Value} {fa : Addr} (k : (K w.params).In h) (T : ∃ o es ep, h.get? mainGlobals = some o /\ o.data = Data.dict es ep /\ StrKeys es /\ ∀ n, nsFind es n = mg n) (m : mg (Str.ofString "law") = some (.ref fa)) : fa = 350 := by
 refine x3_4 T fun o es ep e1 e2 _ e4 => ?_
 have e5 : h.get? mainGlobals = some (o3 w.params) := k 3 _ rfl
 have e6 : (o3 w.params).data = .dict es ep := Option.some.inj (e1.symm.trans e5) ▸ e2
 exact Value.ref.inj (Option.some.inj ((e4 _ ▸ m).symm.trans (dict_law e6)))
theorem law_runs {w : World} {s : Shared} {mg mb : Str -> Option Value} {p : Program} {loose mean} {sc : Addr} {ns : List Int} {Q : Result -> Shared -> Prop} (law_true : ∀ ns : List Int, ns.length <= 63 -> ∃ σ', Phi (gobj ns) 12 36 [.gref 20] [] = some (.bool true, σ'))
 (X : (K w.params).In s.heap) (T : Top p loose mean mg mb s.heap) (hc : ¬ (63 : Int) < ns.length) (L : ∃ ob, s.heap.get? sc = some ob /\ OR PySem.Challenge.rw_nt0439_01.row.prog w (gadL sc) [] (.list (ns.map .int)) ob)
 (hQ : ∀ s', (∀ b o, s.heap.get? b = some o -> s'.heap.get? b = some o) -> s'.os = s.os -> s'.gens = s.gens -> Q (.ok (.ret (.bool true))) s') : codeAny (model PySem.Challenge.rw_nt0439_01.row.prog w) callerA (.call (.ref 350) ⟨[.ref sc], []⟩) Q s := by
 have G := st_good X T L
 have P := prog_ok G
 refine (law_true ns (by omega)).elim fun σ' e => ?_
 rw [phi_fn (S := st w p loose mean mg mb s.heap sc ns) (f := 36) rfl] at e
 refine codeAny_mono (call_snd (s := s) (ρ := []) (ext := []) G (P.fns 36 _ 350 rfl rfl) (soundPhi G P 11) e ⟨rfl, by decide, by decide, [], rfl, fun _ h => by cases h⟩ top_heap ⟨_, _, rfl, ⟨sc, rfl, rfl⟩, rfl⟩) fun r s' q => ?_
 cases r with
 | error e => exact q.elim
 | ok f => cases f with
   | ret u =>
     refine x3_4 q fun ρ' h' t' p' z H z2 => ?_
     subst z
     subst z2
     exact hQ _ H.keep rfl rfl
   | _ => exact q.elim
end Mine
set_option maxRecDepth 100000 in
set_option maxHeartbeats 8000000 in
theorem Mine.holds_of (law_true : ∀ ns : List Int, ns.length <= 63 -> ∃ σ', Mine.Phi (Mine.gobj ns) 12 36 [.gref 20] [] = some (.bool true, σ')) : PySem.Challenge.rw_nt0439_01.Holds := by
 refine holds_law Mine.said_law fun _ => ?_
 refine holds_open (q := Mine.view) (loose := [Str.ofString "_law_ways", Str.ofString "_law_leaps"]) (Xt := fun s => xlAt Mine.view [] s && recOk (RowW.records Mine.rwN.toRowW) s) (XP := XL Mine.view []) (Yf := Hook.obs Mine.hk) (Ya := Hook.val Mine.hk) (YP := Hook.says Mine.hk) (N := 4830) Mine.left_ (Hook.of Mine.hk) (Hook.keeps Mine.hk) (fun s e => xl_of s (Bool.and_eq_true_iff.mp e).1) XL.keeps Mine.law_def (by rfl) (by rfl) (fun s e => recFacts_of (Bool.and_eq_true_iff.mp e).2) (by rfl) (row_said Mine.said_law) (by decide +kernel) ⟨rfl, rfl, rfl, rfl, rfl, by decide +kernel⟩ ?hw ?hc
 case hw => w_witness2
 case hc =>
  intro w s₀ s₁ mg mb G Y fa o pm cd doc dV kV ho hd hcd hD hmg hg args vals as hpre hlay hrd hwl hlo
  have KX := kIn_of Y
  refine Ground.open G ?_
  intro T B D TE TW
  have hfa := Mine.fa_ KX T.g hmg
  subst hfa
  clear ho hd hcd hD hmg G Y B D TE TW
  wrow_args hpre hlay hrd hwl hlo
  rename_i ns hs hlay0 hL1 hr1 hl2 w4 w3 sc vs w0 hL ra w1 r0 hI hr hc1 hc2
  refine enter_call (codeAny_mono ?_ (fun _ _ g => GoodW.toG g))
  exact Mine.law_runs law_true KX T hc1 (Mine.or_of_well hL hI w1) fun s' k o g => ⟨.inl ⟨.bool true, .bool true, [], rfl, fun _ => rfl, ReadsW.bool true, by kernel_rfl, fun _ => ⟨List.nodup_nil, fun _ h => by cases h⟩⟩, k, o, g.trans hg⟩
end
section
namespace MineP
open Mine
noncomputable def geoT23 : Hp := [.ns [.int (2), .int (3), .int (6), .int (63), .bool false, .bool false, .ref 13, .ref 14, .ref 15, .ref 26, .ref 17, .ref 20, .ref 21, .ref 59],
 .inst 11,
 .list [.int (21), .int (42)],
 .list [.int (3), .int (12), .int (48)],
 .list [.ref 29, .ref 33, .ref 37, .ref 40, .ref 43, .ref 47, .ref 50, .ref 53],
 .list [],
 .list [.int (32), .int (16), .int (0), .int (0), .int (2), .int (1)],
 .list [.int (8), .int (4), .int (32), .int (16), .int (0), .int (0)],
 .list [.int (0), .int (0), .int (2), .int (1), .int (8), .int (4)],
 .list [.ref 18, .ref 19],
 .list [.none, .none, .none, .none],
 .list [],
 .range (0) (3) (1),
 .range (0) (2) (1),
 .list [.int (0)],
 .list [.int (14), .int (13), .int (59), .int (55), .int (44), .int (28)],
 .range (0) (8) (1),
 .list [.int (0)],
 .list [.int (20), .int (40), .int (16), .int (32), .int (0), .int (0)],
 .range (0) (6) (1),
 .range (5) (-1) (-1),
 .list [.int (0)],
 .list [.int (2), .int (0), .int (8), .int (0), .int (32), .int (0)],
 .range (0) (6) (1),
 .range (5) (-1) (-1),
 .list [.int (0)],
 .list [.int (0), .int (0), .int (1), .int (2), .int (5), .int (10)],
 .range (0) (6) (1),
 .list [.int (0)],
 .list [.int (0), .int (1), .int (0), .int (4), .int (0), .int (16)],
 .range (0) (6) (1),
 .list [.int (0)],
 .list [.int (8), .int (0), .int (32), .int (0), .int (0), .int (0)],
 .range (0) (6) (1),
 .range (5) (-1) (-1),
 .list [.int (0)],
 .list [.int (0), .int (0), .int (2), .int (0), .int (8), .int (0)],
 .range (0) (6) (1),
 .list [.int (0)],
 .list [.int (0), .int (0), .int (0), .int (1), .int (0), .int (4)],
 .range (0) (6) (1),
 .list [.int (0)],
 .list [.int (0), .int (4), .int (0), .int (16), .int (0), .int (0)],
 .range (0) (6) (1),
 .range (5) (-1) (-1),
 .range (0) (6) (1),
 .range (0) (6) (1),
 .list [.int (0)],
 .list [.int (0), .int (0), .int (0), .int (0), .int (0), .int (0)],
 .range (0) (4) (1)]
noncomputable def geoT24 : Hp := [.ns [.int (2), .int (4), .int (8), .int (255), .bool false, .bool false, .ref 13, .ref 14, .ref 15, .ref 26, .ref 17, .ref 20, .ref 21, .ref 59],
 .inst 11,
 .list [.int (85), .int (170)],
 .list [.int (3), .int (12), .int (48), .int (192)],
 .list [.ref 29, .ref 33, .ref 37, .ref 40, .ref 43, .ref 47, .ref 50, .ref 53],
 .list [],
 .list [.int (32), .int (16), .int (128), .int (64), .int (2), .int (1), .int (8), .int (4)],
 .list [.int (8), .int (4), .int (32), .int (16), .int (128), .int (64), .int (0), .int (0)],
 .list [.int (0), .int (0), .int (2), .int (1), .int (8), .int (4), .int (32), .int (16)],
 .list [.ref 18, .ref 19],
 .list [.none, .none, .none, .none],
 .list [],
 .range (0) (4) (1),
 .range (0) (2) (1),
 .list [.int (0)],
 .list [.int (14), .int (13), .int (59), .int (55), .int (236), .int (220), .int (176), .int (112)],
 .range (0) (8) (1),
 .list [.int (0)],
 .list [.int (84), .int (168), .int (80), .int (160), .int (64), .int (128), .int (0), .int (0)],
 .range (0) (8) (1),
 .range (7) (-1) (-1),
 .list [.int (0)],
 .list [.int (2), .int (0), .int (8), .int (0), .int (32), .int (0), .int (128), .int (0)],
 .range (0) (8) (1),
 .range (7) (-1) (-1),
 .list [.int (0)],
 .list [.int (0), .int (0), .int (1), .int (2), .int (5), .int (10), .int (21), .int (42)],
 .range (0) (8) (1),
 .list [.int (0)],
 .list [.int (0), .int (1), .int (0), .int (4), .int (0), .int (16), .int (0), .int (64)],
 .range (0) (8) (1),
 .list [.int (0)],
 .list [.int (8), .int (0), .int (32), .int (0), .int (128), .int (0), .int (0), .int (0)],
 .range (0) (8) (1),
 .range (7) (-1) (-1),
 .list [.int (0)],
 .list [.int (0), .int (0), .int (2), .int (0), .int (8), .int (0), .int (32), .int (0)],
 .range (0) (8) (1),
 .list [.int (0)],
 .list [.int (0), .int (0), .int (0), .int (1), .int (0), .int (4), .int (0), .int (16)],
 .range (0) (8) (1),
 .list [.int (0)],
 .list [.int (0), .int (4), .int (0), .int (16), .int (0), .int (64), .int (0), .int (0)],
 .range (0) (8) (1),
 .range (7) (-1) (-1),
 .range (0) (8) (1),
 .range (0) (8) (1),
 .list [.int (0)],
 .list [.int (0), .int (0), .int (0), .int (0), .int (0), .int (0), .int (0), .int (0)],
 .range (0) (4) (1)]
noncomputable def geoT33 : Hp := [.ns [.int (3), .int (3), .int (9), .int (511), .bool false, .bool false, .ref 13, .ref 14, .ref 15, .ref 26, .ref 17, .ref 20, .ref 21, .ref 59],
 .inst 11,
 .list [.int (73), .int (146), .int (292)],
 .list [.int (7), .int (56), .int (448)],
 .list [.ref 29, .ref 33, .ref 37, .ref 40, .ref 43, .ref 47, .ref 50, .ref 53],
 .list [],
 .list [.int (160), .int (320), .int (136), .int (260), .int (0), .int (65), .int (34), .int (5), .int (10)],
 .list [.int (16), .int (40), .int (16), .int (128), .int (320), .int (128), .int (0), .int (0), .int (0)],
 .list [.int (0), .int (0), .int (0), .int (2), .int (5), .int (2), .int (16), .int (40), .int (16)],
 .list [.ref 18, .ref 19],
 .list [.none, .none, .none, .none],
 .list [],
 .range (0) (3) (1),
 .range (0) (3) (1),
 .list [.int (0)],
 .list [.int (26), .int (61), .int (50), .int (211), .int (495), .int (406), .int (152), .int (376), .int (176)],
 .range (0) (8) (1),
 .list [.int (0)],
 .list [.int (72), .int (144), .int (288), .int (64), .int (128), .int (256), .int (0), .int (0), .int (0)],
 .range (0) (9) (1),
 .range (8) (-1) (-1),
 .list [.int (0)],
 .list [.int (6), .int (4), .int (0), .int (48), .int (32), .int (0), .int (384), .int (256), .int (0)],
 .range (0) (9) (1),
 .range (8) (-1) (-1),
 .list [.int (0)],
 .list [.int (0), .int (0), .int (0), .int (1), .int (2), .int (4), .int (9), .int (18), .int (36)],
 .range (0) (9) (1),
 .list [.int (0)],
 .list [.int (0), .int (1), .int (3), .int (0), .int (8), .int (24), .int (0), .int (64), .int (192)],
 .range (0) (9) (1),
 .list [.int (0)],
 .list [.int (272), .int (32), .int (0), .int (128), .int (256), .int (0), .int (0), .int (0), .int (0)],
 .range (0) (9) (1),
 .range (8) (-1) (-1),
 .list [.int (0)],
 .list [.int (0), .int (0), .int (0), .int (2), .int (4), .int (0), .int (20), .int (32), .int (0)],
 .range (0) (9) (1),
 .list [.int (0)],
 .list [.int (0), .int (0), .int (0), .int (0), .int (1), .int (2), .int (0), .int (8), .int (17)],
 .range (0) (9) (1),
 .list [.int (0)],
 .list [.int (0), .int (8), .int (80), .int (0), .int (64), .int (128), .int (0), .int (0), .int (0)],
 .range (0) (9) (1),
 .range (8) (-1) (-1),
 .range (0) (9) (1),
 .range (0) (9) (1),
 .list [.int (0)],
 .list [.int (0), .int (0), .int (0), .int (0), .int (0), .int (0), .int (0), .int (0), .int (0)],
 .range (0) (4) (1)]
noncomputable def geoT43 : Hp := [.ns [.int (4), .int (3), .int (12), .int (4095), .bool false, .bool false, .ref 13, .ref 14, .ref 15, .ref 26, .ref 17, .ref 20, .ref 21, .ref 59],
 .inst 11,
 .list [.int (273), .int (546), .int (1092), .int (2184)],
 .list [.int (15), .int (240), .int (3840)],
 .list [.ref 29, .ref 33, .ref 37, .ref 40, .ref 43, .ref 47, .ref 50, .ref 53],
 .list [],
 .list [.int (576), .int (1408), .int (2576), .int (1056), .int (1028), .int (2056), .int (257), .int (514), .int (66), .int (133), .int (26), .int (36)],
 .list [.int (32), .int (80), .int (160), .int (64), .int (512), .int (1280), .int (2560), .int (1024), .int (0), .int (0), .int (0), .int (0)],
 .list [.int (0), .int (0), .int (0), .int (0), .int (2), .int (5), .int (10), .int (4), .int (32), .int (80), .int (160), .int (64)],
 .list [.ref 18, .ref 19],
 .list [.none, .none, .none, .none],
 .list [],
 .range (0) (3) (1),
 .range (0) (4) (1),
 .list [.int (0)],
 .list [.int (50), .int (117), .int (234), .int (196), .int (803), .int (1879), .int (3758), .int (3148), .int (560), .int (1392), .int (2784), .int (1216)],
 .range (0) (8) (1),
 .list [.int (0)],
 .list [.int (272), .int (544), .int (1088), .int (2176), .int (256), .int (512), .int (1024), .int (2048), .int (0), .int (0), .int (0), .int (0)],
 .range (0) (12) (1),
 .range (11) (-1) (-1),
 .list [.int (0)],
 .list [.int (14), .int (12), .int (8), .int (0), .int (224), .int (192), .int (128), .int (0), .int (3584), .int (3072), .int (2048), .int (0)],
 .range (0) (12) (1),
 .range (11) (-1) (-1),
 .list [.int (0)],
 .list [.int (0), .int (0), .int (0), .int (0), .int (1), .int (2), .int (4), .int (8), .int (17), .int (34), .int (68), .int (136)],
 .range (0) (12) (1),
 .list [.int (0)],
 .list [.int (0), .int (1), .int (3), .int (7), .int (0), .int (16), .int (48), .int (112), .int (0), .int (256), .int (768), .int (1792)],
 .range (0) (12) (1),
 .list [.int (0)],
 .list [.int (1056), .int (2112), .int (128), .int (0), .int (512), .int (1024), .int (2048), .int (0), .int (0), .int (0), .int (0), .int (0)],
 .range (0) (12) (1),
 .range (11) (-1) (-1),
 .list [.int (0)],
 .list [.int (0), .int (0), .int (0), .int (0), .int (2), .int (4), .int (8), .int (0), .int (36), .int (72), .int (128), .int (0)],
 .range (0) (12) (1),
 .list [.int (0)],
 .list [.int (0), .int (0), .int (0), .int (0), .int (0), .int (1), .int (2), .int (4), .int (0), .int (16), .int (33), .int (66)],
 .range (0) (12) (1),
 .list [.int (0)],
 .list [.int (0), .int (16), .int (288), .int (576), .int (0), .int (256), .int (512), .int (1024), .int (0), .int (0), .int (0), .int (0)],
 .range (0) (12) (1),
 .range (11) (-1) (-1),
 .range (0) (12) (1),
 .range (0) (12) (1),
 .list [.int (0)],
 .list [.int (0), .int (0), .int (0), .int (0), .int (0), .int (0), .int (0), .int (0), .int (0), .int (0), .int (0), .int (0)],
 .range (0) (4) (1)]
noncomputable def geoT34 : Hp := [.ns [.int (3), .int (4), .int (12), .int (4095), .bool false, .bool false, .ref 13, .ref 14, .ref 15, .ref 26, .ref 17, .ref 20, .ref 21, .ref 59],
 .inst 11,
 .list [.int (585), .int (1170), .int (2340)],
 .list [.int (7), .int (56), .int (448), .int (3584)],
 .list [.ref 29, .ref 33, .ref 37, .ref 40, .ref 43, .ref 47, .ref 50, .ref 53],
 .list [],
 .list [.int (160), .int (320), .int (136), .int (1284), .int (2560), .int (1089), .int (2082), .int (5), .int (522), .int (272), .int (40), .int (80)],
 .list [.int (16), .int (40), .int (16), .int (128), .int (320), .int (128), .int (1024), .int (2560), .int (1024), .int (0), .int (0), .int (0)],
 .list [.int (0), .int (0), .int (0), .int (2), .int (5), .int (2), .int (16), .int (40), .int (16), .int (128), .int (320), .int (128)],
 .list [.ref 18, .ref 19],
 .list [.none, .none, .none, .none],
 .list [],
 .range (0) (4) (1),
 .range (0) (3) (1),
 .list [.int (0)],
 .list [.int (26), .int (61), .int (50), .int (211), .int (495), .int (406), .int (1688), .int (3960), .int (3248), .int (1216), .int (3008), .int (1408)],
 .range (0) (8) (1),
 .list [.int (0)],
 .list [.int (584), .int (1168), .int (2336), .int (576), .int (1152), .int (2304), .int (512), .int (1024), .int (2048), .int (0), .int (0), .int (0)],
 .range (0) (12) (1),
 .range (11) (-1) (-1),
 .list [.int (0)],
 .list [.int (6), .int (4), .int (0), .int (48), .int (32), .int (0), .int (384), .int (256), .int (0), .int (3072), .int (2048), .int (0)],
 .range (0) (12) (1),
 .range (11) (-1) (-1),
 .list [.int (0)],
 .list [.int (0), .int (0), .int (0), .int (1), .int (2), .int (4), .int (9), .int (18), .int (36), .int (73), .int (146), .int (292)],
 .range (0) (12) (1),
 .list [.int (0)],
 .list [.int (0), .int (1), .int (3), .int (0), .int (8), .int (24), .int (0), .int (64), .int (192), .int (0), .int (512), .int (1536)],
 .range (0) (12) (1),
 .list [.int (0)],
 .list [.int (272), .int (32), .int (0), .int (2176), .int (256), .int (0), .int (1024), .int (2048), .int (0), .int (0), .int (0), .int (0)],
 .range (0) (12) (1),
 .range (11) (-1) (-1),
 .list [.int (0)],
 .list [.int (0), .int (0), .int (0), .int (2), .int (4), .int (0), .int (20), .int (32), .int (0), .int (160), .int (256), .int (0)],
 .range (0) (12) (1),
 .list [.int (0)],
 .list [.int (0), .int (0), .int (0), .int (0), .int (1), .int (2), .int (0), .int (8), .int (17), .int (0), .int (64), .int (136)],
 .range (0) (12) (1),
 .list [.int (0)],
 .list [.int (0), .int (8), .int (80), .int (0), .int (64), .int (640), .int (0), .int (512), .int (1024), .int (0), .int (0), .int (0)],
 .range (0) (12) (1),
 .range (11) (-1) (-1),
 .range (0) (12) (1),
 .range (0) (12) (1),
 .list [.int (0)],
 .list [.int (0), .int (0), .int (0), .int (0), .int (0), .int (0), .int (0), .int (0), .int (0), .int (0), .int (0), .int (0)],
 .range (0) (4) (1)]
noncomputable def geoT25 : Hp := [.ns [.int (2), .int (5), .int (10), .int (1023), .bool false, .bool false, .ref 13, .ref 14, .ref 15, .ref 26, .ref 17, .ref 20, .ref 21, .ref 59],
 .inst 11,
 .list [.int (341), .int (682)],
 .list [.int (3), .int (12), .int (48), .int (192), .int (768)],
 .list [.ref 29, .ref 33, .ref 37, .ref 40, .ref 43, .ref 47, .ref 50, .ref 53],
 .list [],
 .list [.int (32), .int (16), .int (128), .int (64), .int (514), .int (257), .int (8), .int (4), .int (32), .int (16)],
 .list [.int (8), .int (4), .int (32), .int (16), .int (128), .int (64), .int (512), .int (256), .int (0), .int (0)],
 .list [.int (0), .int (0), .int (2), .int (1), .int (8), .int (4), .int (32), .int (16), .int (128), .int (64)],
 .list [.ref 18, .ref 19],
 .list [.none, .none, .none, .none],
 .list [],
 .range (0) (5) (1),
 .range (0) (2) (1),
 .list [.int (0)],
 .list [.int (14), .int (13), .int (59), .int (55), .int (236), .int (220), .int (944), .int (880), .int (704), .int (448)],
 .range (0) (8) (1),
 .list [.int (0)],
 .list [.int (340), .int (680), .int (336), .int (672), .int (320), .int (640), .int (256), .int (512), .int (0), .int (0)],
 .range (0) (10) (1),
 .range (9) (-1) (-1),
 .list [.int (0)],
 .list [.int (2), .int (0), .int (8), .int (0), .int (32), .int (0), .int (128), .int (0), .int (512), .int (0)],
 .range (0) (10) (1),
 .range (9) (-1) (-1),
 .list [.int (0)],
 .list [.int (0), .int (0), .int (1), .int (2), .int (5), .int (10), .int (21), .int (42), .int (85), .int (170)],
 .range (0) (10) (1),
 .list [.int (0)],
 .list [.int (0), .int (1), .int (0), .int (4), .int (0), .int (16), .int (0), .int (64), .int (0), .int (256)],
 .range (0) (10) (1),
 .list [.int (0)],
 .list [.int (8), .int (0), .int (32), .int (0), .int (128), .int (0), .int (512), .int (0), .int (0), .int (0)],
 .range (0) (10) (1),
 .range (9) (-1) (-1),
 .list [.int (0)],
 .list [.int (0), .int (0), .int (2), .int (0), .int (8), .int (0), .int (32), .int (0), .int (128), .int (0)],
 .range (0) (10) (1),
 .list [.int (0)],
 .list [.int (0), .int (0), .int (0), .int (1), .int (0), .int (4), .int (0), .int (16), .int (0), .int (64)],
 .range (0) (10) (1),
 .list [.int (0)],
 .list [.int (0), .int (4), .int (0), .int (16), .int (0), .int (64), .int (0), .int (256), .int (0), .int (0)],
 .range (0) (10) (1),
 .range (9) (-1) (-1),
 .range (0) (10) (1),
 .range (0) (10) (1),
 .list [.int (0)],
 .list [.int (0), .int (0), .int (0), .int (0), .int (0), .int (0), .int (0), .int (0), .int (0), .int (0)],
 .range (0) (4) (1)]
theorem pG {σ σ' : Hp} (h : σ <+: σ') {a : Nat} {o : O} (e : σ[a]? = some o) : σ'[a]? = some o := by
 obtain ⟨t, rfl⟩ := h
 rw [List.getElem?_append_left (gsm e).1]; exact e
theorem pre_getO {g : List O} {σ σ' : Hp} (h : σ <+: σ') {v : V} {o : O} (e : getO g σ v = some o) : getO g σ' v = some o := by
 cases v with
 | ref a => exact pG h e
 | gref k => exact e
 | _ => exact nn e
theorem pre_listOf {g : List O} {σ σ' : Hp} (h : σ <+: σ') {v : V} {xs : List V} (e : listOf g σ v = some xs) : listOf g σ' v = some xs := by
 unfold listOf at e ⊢
 split at e
 · rename_i q; refine so1 e ?_; rw [pre_getO h q]
 · exact nn e
theorem pre_attr {σ σ' : Hp} (h : σ <+: σ') {v u : V} {k : Nat} (e : attr σ v k = some u) : attr σ' v k = some u := by
 cases v with
 | ref a =>
   simp only [attr] at e ⊢
   split at e
   · rename_i d q
     rw [pG h q]
     simp only
     split at e
     · rename_i fs q2
       rw [pG h q2]; exact e
     · exact nn e
   · exact nn e
 | _ => exact nn e
theorem pre_push {σ σ' : Hp} (h : σ <+: σ') (τ : Hp) : σ <+: σ' ++ τ := h.trans (pfa ..)
theorem pre_len {σ σ' : Hp} (h : σ <+: σ') : σ.length <= σ'.length := h.length_le
theorem pre_set {σ σ' : Hp} (h : σ <+: σ') {a : Nat} (ha : σ.length <= a) (o : O) : σ <+: σ'.set a o := by
 obtain ⟨t, rfl⟩ := h
 rw [List.set_append_right _ _ ha]
 exact pfa ..
theorem gP (σ : Hp) (o : O) : (σ ++ [o])[σ.length]? = some o := by simp
theorem get_set {σ : Hp} {a : Nat} {o o' : O} (h : σ[a]? = some o) : (σ.set a o')[a]? = some o' := by
 rw [List.getElem?_set_self (gsm h).1]
theorem get_set_ne {σ : Hp} {a b : Nat} {o' : O} (h : a ≠ b) : (σ.set a o')[b]? = σ[b]? := by
 rw [List.getElem?_set_ne h]
theorem lt_of_get {σ : Hp} {a : Nat} {o : O} (h : σ[a]? = some o) : a < σ.length := (gsm h).1
theorem for_range {g : List O} {set : V -> Frm -> Hp -> Option Frm} {body : Frm -> Hp -> Option (Fl × Frm × Hp)} (P : Nat -> Frm -> Hp -> Prop) {a st : Int} {n fuel : Nat} (hn : n < fuel) {m : Frm} {σ : Hp} (h0 : P 0 m σ)
 (step : ∀ i m σ, i < n -> P i m σ -> ∃ m1 fl m2 σ2, set (.int (a + i * st)) m σ = some m1 /\ body m1 σ = some (fl, m2, σ2) /\ (fl = .next \/ fl = .cont) /\ P (i + 1) m2 σ2) :
 ∃ m' σ', forLoop g set body fuel (.range a st n) m σ = some (.next, m', σ') /\ P n m' σ' := by
 have key : ∀ k fuel i m σ, k < fuel -> i + k = n -> P i m σ -> ∃ m' σ', forLoop g set body fuel (.range (a + i * st) st k) m σ = some (.next, m', σ') /\ P n m' σ' := by
  intro k
  induction k with
  | zero =>
    intro fuel i m σ hf hk hp
    obtain ⟨f, rfl⟩ : ∃ f, fuel = f + 1 := ⟨fuel - 1, by lia⟩
    have : i = n := by omega
    subst this
    exact i2_2 m σ (by simp [forLoop, next, b1]) hp
  | succ k ih =>
    intro fuel i m σ hf hk hp
    obtain ⟨f, rfl⟩ : ∃ f, fuel = f + 1 := ⟨fuel - 1, by lia⟩
    refine cps fun _ zk => ?_
    refine x4_4 (step i m σ (by lia) hp) fun m1 fl m2 σ2 e1 e2 e3 hp2 => ?_
    refine x2_2 (ih f (i + 1) m2 σ2 (by lia) (by lia) hp2) fun m' σ' e4 hq => ?_
    refine zk ?_; clear zk
    refine i2_2 m' σ' ?_ hq
    have ex : a + (i : Int) * st + st = a + ((i + 1 : Nat) : Int) * st := by
     rw [Int.natCast_add, Int.add_mul]; simp; lia
    rcases e3 with rfl | rfl <;> simp only [forLoop, next, b1, b3, e1, e2, ex, e4]
 have := key n fuel 0 m σ hn (by lia) h0
 simpa using this
theorem for_list {g : List O} {set : V -> Frm -> Hp -> Option Frm} {body : Frm -> Hp -> Option (Fl × Frm × Hp)} (P : Nat -> Frm -> Hp -> Prop) {l : V} {xs : List V} {fuel : Nat} (hn : xs.length < fuel) {m : Frm} {σ : Hp} (h0 : P 0 m σ) (hl : ∀ i m σ, P i m σ -> listOf g σ l = some xs)
 (step : ∀ i x m σ, xs[i]? = some x -> P i m σ -> ∃ m1 fl m2 σ2, set x m σ = some m1 /\ body m1 σ = some (fl, m2, σ2) /\ (fl = .next \/ fl = .cont) /\ P (i + 1) m2 σ2) :
 ∃ m' σ', forLoop g set body fuel (.lst l 0) m σ = some (.next, m', σ') /\ P xs.length m' σ' := by
 have key : ∀ k fuel i m σ, k < fuel -> i + k = xs.length -> P i m σ -> ∃ m' σ', forLoop g set body fuel (.lst l i) m σ = some (.next, m', σ') /\ P xs.length m' σ' := by
  intro k
  induction k with
  | zero =>
    intro fuel i m σ hf hk hp
    obtain ⟨f, rfl⟩ : ∃ f, fuel = f + 1 := ⟨fuel - 1, by lia⟩
    have : i = xs.length := by omega
    subst this
    exact i2_2 m σ (by simp [forLoop, next, b1, hl _ _ _ hp]) hp
  | succ k ih =>
    intro fuel i m σ hf hk hp
    obtain ⟨f, rfl⟩ : ∃ f, fuel = f + 1 := ⟨fuel - 1, by lia⟩
    have hi : i < xs.length := by lia
    have hx : xs[i]? = some xs[i] := List.getElem?_eq_getElem hi
    refine cps fun _ zk => ?_
    refine x4_4 (step i _ m σ hx hp) fun m1 fl m2 σ2 e1 e2 e3 hp2 => ?_
    refine x2_2 (ih f (i + 1) m2 σ2 (by lia) (by lia) hp2) fun m' σ' e4 hq => ?_
    refine zk ?_; clear zk
    refine i2_2 m' σ' ?_ hq
    rcases e3 with rfl | rfl <;> simp [forLoop, next, b1, b3, hl _ _ _ hp, hi, e1, e2, e4]
 exact key xs.length fuel 0 m σ hn (by lia) h0
theorem fuel_lt {n : Nat} (h : n < 1000000) : n < loopFuel := h
structure Geo where
 F : Nat
 R : Nat
 full : Int
 king : List Int
 knight : List Int
 rays : List (List Int)
noncomputable def Geo.z (G : Geo) : Nat := G.F * G.R
structure GeoAt (σ : Hp) (v : V) (G : Geo) : Prop where
 size : attr σ v 2 = some (.int G.z)
 full : attr σ v 3 = some (.int G.full)
 king : ∃ a, attr σ v 9 = some (.ref a) /\ σ[a]? = some (.list (G.king.map .int))
 knight : ∃ a, attr σ v 10 = some (.ref a) /\ σ[a]? = some (.list (G.knight.map .int))
 rays : ∃ a bs, attr σ v 8 = some (.ref a) /\ σ[a]? = some (.list bs) /\ ∀ (d : Nat) (row : List Int), G.rays[d]? = some row -> ∃ b, bs[d]? = some (.ref b) /\ σ[b]? = some (.list (row.map .int))
theorem GeoAt.pre {σ σ' : Hp} {v : V} {G : Geo} (h : GeoAt σ v G) (p : σ <+: σ') : GeoAt σ' v G where
 size := pre_attr p h.size
 full := pre_attr p h.full
 king := let ⟨a, x, y⟩ := h.king; (i1_2 a (pre_attr p x) (pG p y))
 knight := let ⟨a, x, y⟩ := h.knight; (i1_2 a (pre_attr p x) (pG p y))
 rays := let ⟨a, bs, x, y, z⟩ := h.rays; (i2_3 a bs (pre_attr p x) (pG p y) (fun d row q => let ⟨b, r, s⟩ := z d row q; (i1_2 b r (pG p s))))
noncomputable def grow (d : Nat) : Bool := decide (stepR.getD d 0 > 0) || decide (d = 1)
noncomputable def shr (a : Int) (k : Nat) : Int := a.fdiv (2 ^ k)
theorem ar_add {a b : Int} : arith .add a b = some (a + b) := rfl
theorem ar_sub {a b : Int} : arith .sub a b = some (a - b) := rfl
theorem ar_and {a b : Int} : arith .and a b = some (PySem.Builtin.bitAnd a b) := rfl
theorem ar_or {a b : Int} : arith .or a b = some (PySem.Builtin.bitOr a b) := rfl
theorem ar_xor {a b : Int} : arith .xor a b = some (PySem.Builtin.bitXor a b) := rfl
theorem ar_mul {a b : Int} (h1 : a.natAbs < 2 ^ 64) (h2 : b.natAbs < 2 ^ 64) : arith .mul a b = some (a * b) := if_pos ⟨h1, h2⟩
theorem ar_shr {a b : Int} (k : Nat) (hb : b = k) (hk : k <= 1000) : arith .shr a b = some (shr a k) := by
 subst hb
 show (if _ then _ else _) = _
 rw [if_pos ⟨by and_intros, by lia⟩, Int.toNat_natCast]; rfl
theorem ar_shr1 {a : Int} : arith .shr a 1 = some (shr a 1) := ar_shr 1 rfl (by decide)
theorem ar_shr2 {a : Int} : arith .shr a 2 = some (shr a 2) := ar_shr 2 rfl (by decide)
theorem ar_shr4 {a : Int} : arith .shr a 4 = some (shr a 4) := ar_shr 4 rfl (by decide)
theorem ar_shr8 {a : Int} : arith .shr a 8 = some (shr a 8) := ar_shr 8 rfl (by decide)
theorem ar_shr16 {a : Int} : arith .shr a 16 = some (shr a 16) := ar_shr 16 rfl (by decide)
theorem ar_shr32 {a : Int} : arith .shr a 32 = some (shr a 32) := ar_shr 32 rfl (by decide)
noncomputable def shl1 (k : Nat) : Int := 1 * 2 ^ k
theorem ar_shl1 {b : Int} (k : Nat) (hb : b = k) (hk : k <= 1000) : arith .shl 1 b = some (shl1 k) := by
 subst hb
 show (if _ then _ else _) = _
 rw [if_pos ⟨by and_intros, by lia, by decide⟩, Int.toNat_natCast]; rfl
noncomputable def rayA (G : Geo) (d sq : Nat) (occ : Int) : Int :=
 let ray := (G.rays.getD d []).getD sq 0
 let stop := PySem.Builtin.bitAnd ray occ
 if stop = 0 then ray
 else if grow d then PySem.Builtin.bitAnd ray (PySem.Builtin.bitXor stop (stop - 1))
 else
  let b0 := shr stop 1
  let b1 := PySem.Builtin.bitOr b0 (shr b0 1)
  let b2 := PySem.Builtin.bitOr b1 (shr b1 2)
  let b3 := PySem.Builtin.bitOr b2 (shr b2 4)
  let b4 := PySem.Builtin.bitOr b3 (shr b3 8)
  let b5 := PySem.Builtin.bitOr b4 (shr b4 16)
  let b6 := PySem.Builtin.bitOr b5 (shr b5 32)
  PySem.Builtin.bitAnd ray (PySem.Builtin.bitNot b6)
theorem phi_eq {g : List O} {n f : Nat} {fn : Fn} (h : fnOfId f = some fn) (args : List V) (σ : Hp) : Phi g (n + 1) f args σ = runFn g (Phi g n) fn args σ := by
 conv => lhs; unfold Phi
 split
 · exact nn h
 · exact nn h
 · exact nn h
 · rw [h]
section
variable {ns : List Int} {n : Nat} {σ : Hp} {geo : V} {G : Geo}
theorem sp_growing {d : Nat} (hd : d < 8) : Phi (gobj ns) (n + 1) 0 [.int d] σ = some (.bool (grow d), σ) := by
 have : d = 0 \/ d = 1 \/ d = 2 \/ d = 3 \/ d = 4 \/ d = 5 \/ d = 6 \/ d = 7 := by lia
 rcases this with rfl | rfl | rfl | rfl | rfl | rfl | rfl | rfl <;> rfl
theorem idx_list {g : List O} {v : V} {xs : List V} {i : Nat} {x : V} (h : getO g σ v = some (.list xs)) (hx : xs[i]? = some x) (hi : i < 2 ^ 62) : idx g σ v (.int i) = some x := by
 unfold idx
 rw [h]
 simp only [Int.toNat_natCast]
 rw [if_pos ⟨by and_intros, by omega⟩, hx]
theorem getD_get {α : Type} {l : List α} {i : Nat} {d : α} (h : i < l.length) : l[i]? = some (l.getD i d) := by
 simp [List.getD_eq_getElem?_getD, h]
structure Geo.Whole (G : Geo) : Prop where
 z : G.z <= 12
 king : G.king.length = G.z
 knight : G.knight.length = G.z
 rays : G.rays.length = 8
 row : ∀ (d : Nat) (row : List Int), G.rays[d]? = some row -> row.length = G.z
theorem idx_ray (GA : GeoAt σ geo G) (W : G.Whole) {d sq : Nat} (hd : d < 8) (hs : sq < G.z) : ∃ a b, attr σ geo 8 = some (.ref a) /\ idx (gobj ns) σ (.ref a) (.int d) = some (.ref b) /\ idx (gobj ns) σ (.ref b) (.int sq) = some (.int ((G.rays.getD d []).getD sq 0)) := by
 refine cps fun _ zk => ?_
 refine x2_3 (GA.rays) fun a bs h1 h2 h3 => ?_
 have hr : G.rays[d]? = some (G.rays.getD d []) := getD_get (by rw [W.rays]; exact hd)
 refine x1_2 (h3 d _ hr) fun b h4 h5 => ?_
 have hl := W.row d _ hr
 have := W.z
 refine zk ?_; clear zk
 refine i2_3 a b h1 (idx_list (xs := bs) h2 h4 (by lia)) (idx_list (xs := (G.rays.getD d []).map .int) h5 ?_ (by lia))
 rw [List.getElem?_map, getD_get (d := 0) (by lia)]; rfl
theorem run_ray {Φ : CallF} {d sq : Nat} {occ : Int} {a b : Nat} (h1 : attr σ geo 8 = some (.ref a)) (h2 : idx (gobj ns) σ (.ref a) (.int d) = some (.ref b)) (h3 : idx (gobj ns) σ (.ref b) (.int sq) = some (.int ((G.rays.getD d []).getD sq 0)))
 (hgr : Φ 0 [.int d] σ = some (.bool (grow d), σ)) : runFn (gobj ns) Φ f_ray_attacks [geo, .int d, .int sq, .int occ] σ = some (.int (rayA G d sq occ), σ) := by
 unfold rayA
 generalize (G.rays.getD d []).getD sq 0 = ray at h3 ⊢
 show _ = some (V.int (ite (PySem.Builtin.bitAnd ray occ = 0) ray (ite (grow d = true) _ _)), σ)
 generalize hs : PySem.Builtin.bitAnd ray occ = stop
 have c : ∀ {m : Frm}, m[5]? = some (some (.int stop)) -> vE (gobj ns) Φ (.cmp .eq (.loc 5) (.lit (.int 0))) m σ = some (.bool (decide (stop = 0)), σ) := fun h => e_cmp (eL h) eI rfl
 have A := sA (x := 4) (m := [some geo, some (.int d), some (.int sq), some (.int occ), none, none, none]) (eX (eX (e_attr (Φ := Φ) (eL (i := 0) rfl) h1) (eL (i := 1) rfl) h2) (eL (i := 2) rfl) h3) (lb rfl)
 have B := sA (g := gobj ns) (Φ := Φ) (σ := σ) (x := 5) (e_bin (eL (m := [some geo, some (.int d), some (.int sq), some (.int occ), some (.int ray), none, none]) (i := 4) rfl) (eL (i := 3) rfl) (ar_and.trans (congrArg some hs))) (lb rfl)
 by_cases h0 : stop = 0
 · exact (run_ret rfl rfl (sC A (sC B (ss_stop (s_if_t (c rfl) (congrArg some (decide_eq_true h0)) (ss_ret (eL rfl))) (fun h => by cases h))))).trans (by rw [if_pos h0])
 · cases hg : grow d
   · rw [hg] at hgr
     exact (run_ret rfl rfl (sC A (sC B (sC (s_if_f (c rfl) (congrArg some (decide_eq_false h0)) sN) (sC (s_if_f (e_call (eC (eL rfl) eN) hgr) rfl sN) (sC (sA (e_bin (eL rfl) eI ar_shr1) (lb rfl)) (sC (s_aug rfl (e_bin (eL rfl) eI ar_shr1) ar_or) (sC (s_aug rfl (e_bin (eL rfl) eI ar_shr2) ar_or) (sC (s_aug rfl (e_bin (eL rfl) eI ar_shr4) ar_or)
      (sC (s_aug rfl (e_bin (eL rfl) eI ar_shr8) ar_or) (sC (s_aug rfl (e_bin (eL rfl) eI ar_shr16) ar_or) (sC (s_aug rfl (e_bin (eL rfl) eI ar_shr32) ar_or) (ss_ret (e_bin (eL rfl) (e_inv (eL rfl)) ar_and)))))))))))))).trans (by rw [if_neg h0]; rfl)
   · rw [hg] at hgr
     exact (run_ret rfl rfl (sC A (sC B (sC (s_if_f (c rfl) (congrArg some (decide_eq_false h0)) sN) (ss_stop (s_if_t (e_call (eC (eL rfl) eN) hgr) rfl (ss_ret (e_bin (eL rfl) (e_bin (eL rfl) (e_bin (eL rfl) eI ar_sub) ar_xor) ar_and))) (fun h => by cases h)))))).trans (by rw [if_neg h0]; rfl)
theorem sp_ray (GA : GeoAt σ geo G) (W : G.Whole) {d sq : Nat} {occ : Int} (hd : d < 8) (hs : sq < G.z) : Phi (gobj ns) (n + 2) 8 [geo, .int d, .int sq, .int occ] σ = some (.int (rayA G d sq occ), σ) := by
 refine x2_3 (idx_ray (ns := ns) GA W hd hs) fun a b h1 h2 h3 => ?_
 exact (phi_eq (fn := f_ray_attacks) rfl _ _).trans (run_ray h1 h2 h3 (sp_growing hd))
noncomputable def raysA (G : Geo) (sq : Nat) (occ : Int) (d0 : Nat) : Nat -> Int
 | 0 => 0
 | k + 1 => PySem.Builtin.bitOr (raysA G sq occ d0 k) (rayA G (d0 + k) sq occ)
theorem rays_loop {Φ : CallF} {sq : Nat} {occ : Int} {σ' : Hp} {d0 : Nat} {u0 : Option V} (h : ∀ d, d < 8 -> Φ 8 [geo, .int (d : Nat), .int sq, .int occ] σ' = some (.int (rayA G d sq occ), σ')) (hd : d0 + 4 <= 8) :
 ∃ u, forLoop (gobj ns) (fun v m _ => setLoc 4 v m) (fun m σ => execSs (gobj ns) Φ (.cons (.augLoc 3 .or (.call 8 (.cons (.loc 0) (.cons (.loc 4) (.cons (.loc 1) (.cons (.loc 2) .nil)))))) .nil) m σ) loopFuel (.range d0 1 4) [some geo, some (.int sq), some (.int occ), some (.int 0), u0] σ' =
   some (.next, [some geo, some (.int sq), some (.int occ), some (.int (raysA G sq occ d0 4)), u], σ') := by
 obtain ⟨m', σ1, e, rfl, u, rfl⟩ := for_range (g := gobj ns) (set := fun v m _ => setLoc 4 v m) (body := fun m σ => execSs (gobj ns) Φ (.cons (.augLoc 3 .or (.call 8 (.cons (.loc 0) (.cons (.loc 4) (.cons (.loc 1) (.cons (.loc 2) .nil)))))) .nil) m σ)
  (fun i m σ1 => σ1 = σ' /\ ∃ u, m = [some geo, some (.int sq), some (.int occ), some (.int (raysA G sq occ d0 i)), u]) (a := d0) (st := 1) (n := 4) (fuel := loopFuel) (by decide) (m := [some geo, some (.int sq), some (.int occ), some (.int 0), u0]) (σ := σ') ⟨rfl, u0, rfl⟩ (by
   rintro i m σ1 hi ⟨hσ, u, rfl⟩
   subst hσ
   have hc : Φ 8 [geo, .int ((d0 : Int) + i * 1), .int sq, .int occ] σ1 = some (.int (rayA G (d0 + i) sq occ), σ1) := by
    rw [Int.mul_one]; exact h (d0 + i) (by lia)
   exact i4_1 _ (.next) _ _ ⟨rfl, (sC (s_aug rfl (e_call (eC (eL rfl) (eC (eL rfl) (eC (eL rfl) (eC (eL rfl) eN)))) hc) ar_or) sN), (.inl rfl), rfl, ⟨some (.int ((d0 : Int) + i * 1)), rfl⟩⟩)
 exact ⟨u, e⟩
theorem run_rook {Φ : CallF} {sq : Nat} {occ : Int} (h : ∀ σ', σ <+: σ' -> ∀ d, d < 8 -> Φ 8 [geo, .int (d : Nat), .int sq, .int occ] σ' = some (.int (rayA G d sq occ), σ')) :
 runFn (gobj ns) Φ f_rook_attacks [geo, .int sq, .int occ] σ = some (.int (raysA G sq occ 0 4), σ ++ [.range 0 4 1]) := by
 obtain ⟨u, e⟩ := rays_loop (ns := ns) (u0 := none) (h (σ ++ [.range 0 4 1]) (pfa ..)) (d0 := 0) (by decide)
 exact run_ret (m := [some geo, some (.int sq), some (.int occ), none, none]) rfl rfl (sC (sA eI (by simp)) (sC (s_for (e_range1 (b := 4) eI (by decide)) (iter_range rfl) e) (ss_ret (eL rfl))))
theorem run_bishop {Φ : CallF} {sq : Nat} {occ : Int} (h : ∀ σ', σ <+: σ' -> ∀ d, d < 8 -> Φ 8 [geo, .int (d : Nat), .int sq, .int occ] σ' = some (.int (rayA G d sq occ), σ')) :
 runFn (gobj ns) Φ f_bishop_attacks [geo, .int sq, .int occ] σ = some (.int (raysA G sq occ 4 4), σ ++ [.range 4 8 1]) := by
 obtain ⟨u, e⟩ := rays_loop (ns := ns) (u0 := none) (h (σ ++ [.range 4 8 1]) (pfa ..)) (d0 := 4) (by decide)
 have r2 : vE (gobj ns) Φ (.blt .range (.cons (.lit (.int 4)) (.cons (.lit (.int 8)) .nil))) [some geo, some (.int sq), some (.int occ), some (.int 0), none] σ = some (.ref σ.length, σ ++ [.range 4 8 1]) :=
  e_blt (eC eI (eC eI eN)) rfl
 exact run_ret (m := [some geo, some (.int sq), some (.int occ), none, none]) rfl rfl (sC (sA eI (by simp)) (sC (s_for r2 (iter_range rfl) e) (ss_ret (eL rfl))))
theorem sp_rook (GA : GeoAt σ geo G) (W : G.Whole) {sq : Nat} {occ : Int} (hs : sq < G.z) : Phi (gobj ns) (n + 3) 9 [geo, .int sq, .int occ] σ = some (.int (raysA G sq occ 0 4), σ ++ [.range 0 4 1]) :=
 (phi_eq (fn := f_rook_attacks) rfl _ _).trans (run_rook fun σ' p d hd => sp_ray (GA.pre p) W hd hs)
theorem sp_bishop (GA : GeoAt σ geo G) (W : G.Whole) {sq : Nat} {occ : Int} (hs : sq < G.z) : Phi (gobj ns) (n + 3) 10 [geo, .int sq, .int occ] σ = some (.int (raysA G sq occ 4 4), σ ++ [.range 4 8 1]) :=
 (phi_eq (fn := f_bishop_attacks) rfl _ _).trans (run_bishop fun σ' p d hd => sp_ray (GA.pre p) W hd hs)
theorem run_queen {Φ : CallF} {sq : Nat} {occ a b : Int} {σ1 σ2 : Hp} (h1 : Φ 9 [geo, .int sq, .int occ] σ = some (.int a, σ1)) (h2 : Φ 10 [geo, .int sq, .int occ] σ1 = some (.int b, σ2)) :
 runFn (gobj ns) Φ f_queen_attacks [geo, .int sq, .int occ] σ = some (.int (PySem.Builtin.bitOr a b), σ2) :=
 run_ret (m := [some geo, some (.int sq), some (.int occ)]) rfl rfl (ss_ret (e_bin (e_call (eC (eL rfl) (eC (eL rfl) (eC (eL rfl) eN))) h1) (e_call (eC (eL rfl) (eC (eL rfl) (eC (eL rfl) eN))) h2) ar_or))
theorem sp_queen (GA : GeoAt σ geo G) (W : G.Whole) {sq : Nat} {occ : Int} (hs : sq < G.z) : Phi (gobj ns) (n + 4) 11 [geo, .int sq, .int occ] σ = some (.int (PySem.Builtin.bitOr (raysA G sq occ 0 4) (raysA G sq occ 4 4)), σ ++ [.range 0 4 1] ++ [.range 4 8 1]) :=
 (phi_eq (fn := f_queen_attacks) rfl _ _).trans (run_queen (sp_rook GA W hs) (sp_bishop (GA.pre (pfa ..)) W hs))
noncomputable def attA (G : Geo) (kind : Nat) (sq : Nat) (occ : Int) : Int := match kind with
 | 2 => G.knight.getD sq 0
 | 3 => raysA G sq occ 4 4
 | 4 => raysA G sq occ 0 4
 | 5 => PySem.Builtin.bitOr (raysA G sq occ 0 4) (raysA G sq occ 4 4)
 | _ => 0
theorem sp_slider (GA : GeoAt σ geo G) (W : G.Whole) {k sq : Nat} {occ : Int} (hk : k = 3 \/ k = 4 \/ k = 5) (hs : sq < G.z) : ∃ σ', σ <+: σ' /\ Phi (gobj ns) (n + 5) 12 [geo, .int k, .int sq, .int occ] σ = some (.int (attA G k sq occ), σ') := by
 have c : ∀ (a : Int) {m : Frm} {σ : Hp}, m[1]? = some (some (.int k)) -> vE (gobj ns) (Phi (gobj ns) (n + 4)) (.cmp .eq (.loc 1) (.lit (.int a))) m σ = some (.bool (decide ((k : Int) = a)), σ) := fun a _ _ h => e_cmp (eL h) eI rfl
 have as : ∀ {m : Frm} {σ : Hp}, m[0]? = some (some geo) -> m[2]? = some (some (.int sq)) -> m[3]? = some (some (.int occ)) -> evalEs (gobj ns) (Phi (gobj ns) (n + 4)) (.cons (.loc 0) (.cons (.loc 2) (.cons (.loc 3) .nil))) m σ = some ([geo, .int sq, .int occ], σ) := fun h1 h2 h3 => eC (eL h1) (eC (eL h2) (eC (eL h3) eN))
 rcases hk with rfl | rfl | rfl
 · refine i1_2 _ ?_ ((phi_eq (fn := f_slider_attacks) rfl _ _).trans (run_ret (m := [some geo, some (.int (3 : Nat)), some (.int sq), some (.int occ)]) rfl rfl (ss_stop (s_if_t (c 3 rfl) rfl (ss_ret (e_call (as rfl rfl rfl) (sp_bishop (n := n + 1) GA W hs)))) (fun h => by cases h))))
   exact pfa ..
 · refine i1_2 _ ?_ ((phi_eq (fn := f_slider_attacks) rfl _ _).trans (run_ret (m := [some geo, some (.int (4 : Nat)), some (.int sq), some (.int occ)]) rfl rfl (sC (s_if_f (c 3 rfl) rfl sN) (ss_stop (s_if_t (c 4 rfl) rfl (ss_ret (e_call (as rfl rfl rfl) (sp_rook (n := n + 1) GA W hs)))) (fun h => by cases h)))))
   exact pfa ..
 · refine i1_2 _ ?_ ((phi_eq (fn := f_slider_attacks) rfl _ _).trans (run_ret (m := [some geo, some (.int (5 : Nat)), some (.int sq), some (.int occ)]) rfl rfl (sC (s_if_f (c 3 rfl) rfl sN) (sC (s_if_f (c 4 rfl) rfl sN) (ss_stop (s_if_t (c 5 rfl) rfl (ss_ret (e_call (as rfl rfl rfl) (sp_queen (n := n) GA W hs)))) (fun h => by cases h))))))
   rw [List.append_assoc]
   exact pfa ..
theorem sp_attacks (GA : GeoAt σ geo G) (W : G.Whole) {k sq : Nat} {side : V} {occ : Int} (hk : 2 <= k /\ k <= 5) (hs : sq < G.z) : ∃ σ', σ <+: σ' /\ Phi (gobj ns) (n + 6) 13 [geo, side, .int k, .int sq, .int occ] σ = some (.int (attA G k sq occ), σ') := by
 have c : ∀ (a : Int) {m : Frm} {σ : Hp}, m[2]? = some (some (.int k)) -> vE (gobj ns) (Phi (gobj ns) (n + 5)) (.cmp .eq (.loc 2) (.lit (.int a))) m σ = some (.bool (decide ((k : Int) = a)), σ) := fun a _ _ h => e_cmp (eL h) eI rfl
 by_cases h2 : k = 2
 · subst h2
   refine x1_2 (GA.knight) fun a q1 q2 => ?_
   have hz := W.z
   have hn := W.knight
   have ix : idx (gobj ns) σ (.ref a) (.int sq) = some (.int (G.knight.getD sq 0)) := idx_list (xs := G.knight.map .int) q2 (by rw [List.getElem?_map, getD_get (d := 0) (by lia)]; rfl) (by lia)
   exact i1_2 σ (List.prefix_refl _) ((phi_eq (fn := f_piece_attacks) rfl _ _).trans (run_ret (m := [some geo, some side, some (.int (2 : Nat)), some (.int sq), some (.int occ)]) rfl rfl (sC (s_if_f (c 1 rfl) rfl sN) (ss_stop (s_if_t (c 2 rfl) rfl (ss_ret (eX (e_attr (eL rfl) q1) (eL rfl) ix))) (fun h => by cases h)))))
 · refine x1_2 (sp_slider (ns := ns) (n := n) GA W (k := k) (occ := occ) (by lia) hs) fun σ' p e => ?_
   refine i1_2 σ' p ((phi_eq (fn := f_piece_attacks) rfl _ _).trans (run_ret (m := [some geo, some side, some (.int k), some (.int sq), some (.int occ)]) rfl rfl (sC (s_if_f (c 1 rfl) ?_ sN) (sC (s_if_f (c 2 rfl) ?_ sN) (sC (s_if_f (c 6 rfl) ?_ sN) (ss_ret (e_call (eC (eL rfl) (eC (eL rfl) (eC (eL rfl) (eC (eL rfl) eN)))) e)))))))
   all_goals (simp [truth]; lia)
end
noncomputable def geo23 : Geo := ⟨2, 3, 63, [14, 13, 59, 55, 44, 28], [32, 16, 0, 0, 2, 1], [[20, 40, 16, 32, 0, 0], [2, 0, 8, 0, 32, 0], [0, 0, 1, 2, 5, 10], [0, 1, 0, 4, 0, 16], [8, 0, 32, 0, 0, 0], [0, 0, 2, 0, 8, 0], [0, 0, 0, 1, 0, 4], [0, 4, 0, 16, 0, 0]]⟩
noncomputable def geo24 : Geo := ⟨2, 4, 255, [14, 13, 59, 55, 236, 220, 176, 112], [32, 16, 128, 64, 2, 1, 8, 4], [[84, 168, 80, 160, 64, 128, 0, 0], [2, 0, 8, 0, 32, 0, 128, 0], [0, 0, 1, 2, 5, 10, 21, 42], [0, 1, 0, 4, 0, 16, 0, 64], [8, 0, 32, 0, 128, 0, 0, 0], [0, 0, 2, 0, 8, 0, 32, 0], [0, 0, 0, 1, 0, 4, 0, 16], [0, 4, 0, 16, 0, 64, 0, 0]]⟩
noncomputable def geo33 : Geo := ⟨3, 3, 511, [26, 61, 50, 211, 495, 406, 152, 376, 176], [160, 320, 136, 260, 0, 65, 34, 5, 10], [[72, 144, 288, 64, 128, 256, 0, 0, 0], [6, 4, 0, 48, 32, 0, 384, 256, 0], [0, 0, 0, 1, 2, 4, 9, 18, 36], [0, 1, 3, 0, 8, 24, 0, 64, 192], [272, 32, 0, 128, 256, 0, 0, 0, 0], [0, 0, 0, 2, 4, 0, 20, 32, 0], [0, 0, 0, 0, 1, 2, 0, 8, 17], [0, 8, 80, 0, 64, 128, 0, 0, 0]]⟩
noncomputable def geo43 : Geo := ⟨4, 3, 4095, [50, 117, 234, 196, 803, 1879, 3758, 3148, 560, 1392, 2784, 1216], [576, 1408, 2576, 1056, 1028, 2056, 257, 514, 66, 133, 26, 36], [[272, 544, 1088, 2176, 256, 512, 1024, 2048, 0, 0, 0, 0], [14, 12, 8, 0, 224, 192, 128, 0, 3584, 3072, 2048, 0], [0, 0, 0, 0, 1, 2, 4, 8, 17, 34, 68, 136], [0, 1, 3, 7, 0, 16, 48, 112, 0, 256, 768, 1792], [1056, 2112, 128, 0, 512, 1024, 2048, 0, 0, 0, 0, 0], [0, 0, 0, 0, 2, 4, 8, 0, 36, 72, 128, 0], [0, 0, 0, 0, 0, 1, 2, 4, 0, 16, 33, 66], [0, 16, 288, 576, 0, 256, 512, 1024, 0, 0, 0, 0]]⟩
noncomputable def geo34 : Geo := ⟨3, 4, 4095, [26, 61, 50, 211, 495, 406, 1688, 3960, 3248, 1216, 3008, 1408], [160, 320, 136, 1284, 2560, 1089, 2082, 5, 522, 272, 40, 80], [[584, 1168, 2336, 576, 1152, 2304, 512, 1024, 2048, 0, 0, 0], [6, 4, 0, 48, 32, 0, 384, 256, 0, 3072, 2048, 0], [0, 0, 0, 1, 2, 4, 9, 18, 36, 73, 146, 292], [0, 1, 3, 0, 8, 24, 0, 64, 192, 0, 512, 1536], [272, 32, 0, 2176, 256, 0, 1024, 2048, 0, 0, 0, 0], [0, 0, 0, 2, 4, 0, 20, 32, 0, 160, 256, 0], [0, 0, 0, 0, 1, 2, 0, 8, 17, 0, 64, 136], [0, 8, 80, 0, 64, 640, 0, 512, 1024, 0, 0, 0]]⟩
noncomputable def geo25 : Geo := ⟨2, 5, 1023, [14, 13, 59, 55, 236, 220, 944, 880, 704, 448], [32, 16, 128, 64, 514, 257, 8, 4, 32, 16], [[340, 680, 336, 672, 320, 640, 256, 512, 0, 0], [2, 0, 8, 0, 32, 0, 128, 0, 512, 0], [0, 0, 1, 2, 5, 10, 21, 42, 85, 170], [0, 1, 0, 4, 0, 16, 0, 64, 0, 256], [8, 0, 32, 0, 128, 0, 512, 0, 0, 0], [0, 0, 2, 0, 8, 0, 32, 0, 128, 0], [0, 0, 0, 1, 0, 4, 0, 16, 0, 64], [0, 4, 0, 16, 0, 64, 0, 256, 0, 0]]⟩
noncomputable def bit (x : Int) (k : Nat) : Bool := decide (PySem.Builtin.bitAnd (shr x k) 1 ≠ 0)
noncomputable def metDir (F R dx dy : Int) (men : List Int) : Nat -> Int -> Int -> List Int
 | 0, _, _ => []
 | n + 1, x, y => if 0 <= x /\ x < F /\ 0 <= y /\ y < R then (y * F + x) :: (if y * F + x ∈ men then [] else metDir F R dx dy men n (x + dx) (y + dy)) else []
noncomputable def metA (F R : Int) (sq : Int) (ways : List (Int × Int)) (reach : Nat) (men : List Int) : List Int :=
 ways.flatMap fun p => metDir F R p.1 p.2 men reach (sq.fmod F + p.1) (sq.fdiv F + p.2)
noncomputable def hitsA (F R : Int) (kind : Int) (sq : Int) (men : List Int) : List Int :=
 if kind = 2 then metA F R sq leapL 1 men else if kind = 3 then metA F R sq (wayL.drop 4) 9 men else if kind = 4 then metA F R sq (wayL.take 4) 9 men else metA F R sq wayL 9 men
noncomputable def closeA (F : Int) (a b : Int) : Bool := decide ((a.fmod F - b.fmod F).natAbs <= 1) && decide ((a.fdiv F - b.fdiv F).natAbs <= 1)
noncomputable def allN (n : Nat) (f : Nat -> Bool) : Bool := match n with
 | 0 => true
 | n + 1 => f n && allN n f
theorem allN_at {n : Nat} {f : Nat -> Bool} (h : allN n f = true) : ∀ i, i < n -> f i = true := by
 induction n with
 | zero => intro i hi; exact absurd hi (Nat.not_lt_zero _)
 | succ n ih =>
   intro i hi
   simp only [allN, Bool.and_eq_true] at h
   by_cases q : i = n
   · subst q; exact h.1
   · exact ih h.2 i (by lia)
noncomputable def withN (x : Int) (f : Int -> Bool) : Bool := match x with
 | .ofNat n => Nat.rec (motive := fun _ => Bool) (f 0) (fun n _ => f (Int.ofNat (n + 1))) n
 | .negSucc n => f (.negSucc n)
theorem withN_eq {x : Int} {f : Int -> Bool} : withN x f = f x := by
 cases x with
 | ofNat n => cases n <;> rfl
 | negSucc n => rfl
noncomputable def maskN : List Int -> Nat
 | [] => 0
 | g :: r => Nat.lor (2 ^ g.toNat) (maskN r)
section
variable {ns : List Int} {n : Nat} {σ σ1 σ2 : Hp} {Φ : CallF} {m m1 m2 : Frm} {g : List O}
theorem idx_tup {v : V} {xs : List V} {i : Nat} {x : V} (h : getO g σ v = some (.tup xs)) (hx : xs[i]? = some x) (hi : i < 2 ^ 62) : idx g σ v (.int i) = some x := by
 unfold idx
 rw [h]
 simp only [Int.toNat_natCast]
 rw [if_pos ⟨by and_intros, by omega⟩, hx]
theorem ar_mod {a b : Int} (h : b ≠ 0) : arith .mod a b = some (a.fmod b) := if_pos h
theorem ar_fdiv {a b : Int} (h : b ≠ 0) (h2 : b.natAbs < 2 ^ 30) : arith .fdiv a b = some (a.fdiv b) := if_pos ⟨h, h2⟩
structure ShapeAt (g : List O) (σ : Hp) (v : V) (F R : Int) : Prop where
 at_ : getO g σ v = some (.tup [.int F, .int R])
 F1 : 2 <= F
 F2 : F <= 12
 R1 : 0 <= R
 R2 : R <= 12
theorem ShapeAt.pre {v : V} {F R : Int} (h : ShapeAt g σ v F R) (p : σ <+: σ1) : ShapeAt g σ1 v F R := ⟨pre_getO p h.at_, h.F1, h.F2, h.R1, h.R2⟩
theorem ShapeAt.e0 {v : V} {F R : Int} (h : ShapeAt g σ v F R) {i : Nat} (hm : m[i]? = some (some v)) : vE g Φ (.idx (.loc i) (.lit (.int 0))) m σ = some (.int F, σ) := eX (eL hm) eI (idx_tup (i := 0) h.at_ rfl (by decide))
theorem ShapeAt.e1 {v : V} {F R : Int} (h : ShapeAt g σ v F R) {i : Nat} (hm : m[i]? = some (some v)) : vE g Φ (.idx (.loc i) (.lit (.int 1))) m σ = some (.int R, σ) := eX (eL hm) eI (idx_tup (i := 1) h.at_ rfl (by decide))
theorem e_abs {e : E} {a : Int} (h : vE g Φ e m σ = some (.int a, σ1)) : vE g Φ (.blt .abs (.cons e .nil)) m σ = some (.int (if a < 0 then -a else a), σ1) := e_blt (eC h eN) rfl
theorem abs_le1 (d : Int) : decide ((if d < 0 then -d else d) <= 1) = decide (d.natAbs <= 1) := by
 split <;> exact decide_eq_decide.mpr (by omega)
theorem run_close {sh : V} {F R a b : Int} (S : ShapeAt g σ sh F R) : runFn g Φ f_law_close [sh, .int a, .int b] σ = some (.bool (closeA F a b), σ) := by
 have hF : F ≠ 0 := by have := S.F1; omega
 have hF2 : F.natAbs < 2 ^ 30 := by have := S.F1; have := S.F2; omega
 have c1 : vE g Φ (.cmp .le (.blt .abs (.cons (.bin .sub (.bin .mod (.loc 1) (.idx (.loc 0) (.lit (.int 0)))) (.bin .mod (.loc 2) (.idx (.loc 0) (.lit (.int 0))))) .nil)) (.lit (.int 1))) [some sh, some (.int a), some (.int b)] σ = some (.bool (decide ((a.fmod F - b.fmod F).natAbs <= 1)), σ) := by
  rw [<- abs_le1]
  exact e_cmp (e_abs (e_bin (e_bin (eL rfl) (S.e0 rfl) (ar_mod hF)) (e_bin (eL rfl) (S.e0 rfl) (ar_mod hF)) ar_sub)) eI rfl
 have c2 : vE g Φ (.cmp .le (.blt .abs (.cons (.bin .sub (.bin .fdiv (.loc 1) (.idx (.loc 0) (.lit (.int 0)))) (.bin .fdiv (.loc 2) (.idx (.loc 0) (.lit (.int 0))))) .nil)) (.lit (.int 1))) [some sh, some (.int a), some (.int b)] σ = some (.bool (decide ((a.fdiv F - b.fdiv F).natAbs <= 1)), σ) := by
  rw [<- abs_le1]
  exact e_cmp (e_abs (e_bin (e_bin (eL rfl) (S.e0 rfl) (ar_fdiv hF hF2)) (e_bin (eL rfl) (S.e0 rfl) (ar_fdiv hF hF2)) ar_sub)) eI rfl
 refine run_ret (m := [some sh, some (.int a), some (.int b)]) rfl rfl (ss_ret ?_)
 unfold closeA
 cases hc : decide ((a.fmod F - b.fmod F).natAbs <= 1) with
 | true => rw [hc] at c1; rw [Bool.true_and]; exact e_and_t c1 rfl c2
 | false => rw [hc] at c1; rw [Bool.false_and]; exact e_and_f c1 rfl
structure WaysAt (g : List O) (σ : Hp) (v : V) (ws : List (Int × Int)) : Prop where
 is : ∃ refs, listOf g σ v = some refs /\ refs.length = ws.length /\ ∀ (i : Nat) (r : V), refs[i]? = some r -> ∃ p, ws[i]? = some p /\ getO g σ r = some (.tup [.int p.1, .int p.2])
theorem WaysAt.pre {v : V} {ws : List (Int × Int)} (h : WaysAt g σ v ws) (p : σ <+: σ1) : WaysAt g σ1 v ws :=
 ⟨let ⟨refs, a, b, c⟩ := h.is; (i1_3 refs (pre_listOf p a) b (fun i r q => let ⟨w, d, e⟩ := c i r q; (i1_2 w d (pre_getO p e))))⟩
noncomputable def IntsAt (g : List O) (σ : Hp) (v : V) (l : List Int) : Prop := listOf g σ v = some (l.map .int)
theorem IntsAt.pre {v : V} {l : List Int} (h : IntsAt g σ v l) (p : σ <+: σ1) : IntsAt g σ1 v l := pre_listOf p h
theorem intsOf_map : ∀ (l : List Int), intsOf (l.map .int) = some l
 | [] => rfl
 | x :: r => by simp [intsOf, intsOf_map r]
theorem IntsAt.in_ {v : V} {l : List Int} {a : Int} (h : IntsAt g σ v l) : cmpV g .in_ (.int a) v σ = some (decide (a ∈ l)) := by
 have q : (b1 (asInt (.int a)) fun a => b1 (intsAt g σ v) fun l => some (decide (a ∈ l))) = some (decide (a ∈ l)) := b1_of rfl (b1_of (b1_of h (intsOf_map l)) rfl)
 cases v with
 | int i => exact nn h
 | _ => exact q
theorem IntsAt.notin {v : V} {l : List Int} {a : Int} (h : IntsAt g σ v l) : cmpV g .notin (.int a) v σ = some (decide (a ∉ l)) := by
 have q : (b1 (asInt (.int a)) fun a => b1 (intsAt g σ v) fun l => some (decide (a ∉ l))) = some (decide (a ∉ l)) := b1_of rfl (b1_of (b1_of h (intsOf_map l)) rfl)
 cases v with
 | int i => exact nn h
 | _ => exact q
theorem e_chain_int {a b c : E} {x y z : Int} (h1 : vE g Φ a m σ = some (.int x, σ)) (h2 : vE g Φ b m σ = some (.int y, σ)) (h3 : vE g Φ c m σ = some (.int z, σ)) : vE g Φ (.chain a .le b .lt c) m σ = some (.bool (decide (x <= y) && decide (y < z)), σ) := by
 refine b2_of h1 (b2_of h2 (b1_of rfl ?_))
 cases decide (x <= y) with
 | true => exact b2_of h3 rfl
 | false => rfl
theorem e_chain_le {a b c : E} {x y z : Int} (h1 : vE g Φ a m σ = some (.int x, σ)) (h2 : vE g Φ b m σ = some (.int y, σ)) (h3 : vE g Φ c m σ = some (.int z, σ)) : vE g Φ (.chain a .le b .le c) m σ = some (.bool (decide (x <= y) && decide (y <= z)), σ) := by
 refine b2_of h1 (b2_of h2 (b1_of rfl ?_))
 cases decide (x <= y) with
 | true => exact b2_of h3 rfl
 | false => rfl
theorem e_and_b {a b : E} {p q : Bool} (h1 : vE g Φ a m σ = some (.bool p, σ)) (h2 : vE g Φ b m σ = some (.bool q, σ)) : vE g Φ (.and a b) m σ = some (.bool (p && q), σ) := by
 cases p with
 | true => exact e_and_t h1 rfl h2
 | false => exact e_and_f h1 rfl
noncomputable def metCond : E := (.and (.cmp .gt (.loc 10) (.lit (.int 0))) (.and (.chain (.lit (.int 0)) .le (.loc 8) .lt (.idx (.loc 0) (.lit (.int 0)))) (.chain (.lit (.int 0)) .le (.loc 9) .lt (.idx (.loc 0) (.lit (.int 1))))))
noncomputable def metBody : Ss := (.cons (.expr (.append (.loc 5) (.bin .add (.bin .mul (.loc 9) (.idx (.loc 0) (.lit (.int 0)))) (.loc 8))))
 (.cons (.augLoc 10 .sub (.lit (.int 1)))
 (.cons (.ife (.cmp .in_ (.bin .add (.bin .mul (.loc 9) (.idx (.loc 0) (.lit (.int 0)))) (.loc 8)) (.loc 4)) (.cons (.asg 10 (.lit (.int 0))) .nil) .nil)
 (.cons (.augLoc 8 .add (.loc 6)) (.cons (.augLoc 9 .add (.loc 7)) .nil)))))
theorem set_same {r : Nat} {o : O} (hx : σ1[r]? = some o) : σ1.set r o = σ1 := by
 obtain ⟨h1, h2⟩ := gsm hx
 rw [<- h2]; exact List.set_getElem_self h1
section
variable {sh men rch sqv wv : V} {F R dx dy : Int} {ml : List Int} {r : Nat}
noncomputable def metFrm (sh sqv wv rch men : V) (r : Nat) (dx dy x y left : Int) : Frm := [some sh, some sqv, some wv, some rch, some men, some (.ref r), some (.int dx), some (.int dy), some (.int x), some (.int y), some (.int left)]
theorem met_cond (S : ShapeAt g σ1 sh F R) {x y left : Int} : vE g Φ metCond (metFrm sh sqv wv rch men r dx dy x y left) σ1 = some (.bool (decide (0 < left) && ((decide (0 <= x) && decide (x < F)) && (decide (0 <= y) && decide (y < R)))), σ1) :=
 e_and_b (e_cmp (eL rfl) eI rfl) (e_and_b (e_chain_int eI (eL rfl) (S.e0 rfl)) (e_chain_int eI (eL rfl) (S.e1 rfl)))
theorem met_stop (S : ShapeAt g σ1 sh F R) {x y left : Int} (h : ¬ (0 < left /\ 0 <= x /\ x < F /\ 0 <= y /\ y < R)) {fuel : Nat} (hf : 0 < fuel) : whileLoop (fun m σ => vE g Φ metCond m σ) (fun m σ => execSs g Φ metBody m σ) fuel (metFrm sh sqv wv rch men r dx dy x y left) σ1 =
 some (.next, metFrm sh sqv wv rch men r dx dy x y left, σ1) := by
 obtain ⟨f, rfl⟩ : ∃ f, fuel = f + 1 := ⟨fuel - 1, by omega⟩
 have c := met_cond (Φ := Φ) (sqv := sqv) (wv := wv) (rch := rch) (men := men) (r := r) (dx := dx) (dy := dy) S (x := x) (y := y) (left := left)
 have e : (decide (0 < left) && ((decide (0 <= x) && decide (x < F)) && (decide (0 <= y) && decide (y < R)))) = false := by
  simp only [<- Bool.decide_and, decide_eq_false_iff_not]
  omega
 rw [e] at c
 simp only [whileLoop, c, b2, b1, truth, Bool.false_eq_true, if_false]
theorem met_while (S : ShapeAt g σ sh F R) (M : IntsAt g σ men ml) (hr : σ.length <= r) : ∀ (n fuel : Nat) (x y : Int) (xs : List V) (σ1 : Hp), n < fuel -> σ <+: σ1 -> σ1[r]? = some (.list xs) -> xs.length + n < 1000 ->
 ∃ x' y' l', whileLoop (fun m σ => vE g Φ metCond m σ) (fun m σ => execSs g Φ metBody m σ) fuel (metFrm sh sqv wv rch men r dx dy x y (n : Nat)) σ1 =
   some (.next, metFrm sh sqv wv rch men r dx dy x' y' l', σ1.set r (.list (xs ++ (metDir F R dx dy ml n x y).map .int))) := by
 intro n
 induction n with
 | zero =>
   intro fuel x y xs σ1 hf hp hx hl
   refine i3_1 x y (0 : Nat) ?_
   rw [met_stop (S.pre hp) (by simp) (by omega)]
   simp only [metDir, List.map_nil, List.append_nil]
   rw [set_same hx]
 | succ n ih =>
   intro fuel x y xs σ1 hf hp hx hl
   by_cases hin : 0 <= x /\ x < F /\ 0 <= y /\ y < R
   · obtain ⟨f, rfl⟩ : ∃ f, fuel = f + 1 := ⟨fuel - 1, by lia⟩
     have S1 := S.pre hp
     have c := met_cond (Φ := Φ) (sqv := sqv) (wv := wv) (rch := rch) (men := men) (r := r) (dx := dx) (dy := dy) S1 (x := x) (y := y) (left := ((n + 1 : Nat) : Int))
     have e : (decide (0 < ((n + 1 : Nat) : Int)) && ((decide (0 <= x) && decide (x < F)) && (decide (0 <= y) && decide (y < R)))) = true := by
      simp only [<- Bool.decide_and, decide_eq_true_eq]
      omega
     rw [e] at c
     have b1' := S.F1
     have b2' := S.F2
     have b3' := S.R2
     have hm : arith .mul y F = some (y * F) := ar_mul (by lia) (by lia)
     have sq : ∀ {m : Frm} {σ' : Hp}, σ <+: σ' -> m[0]? = some (some sh) -> m[8]? = some (some (.int x)) -> m[9]? = some (some (.int y)) -> vE g Φ (.bin .add (.bin .mul (.loc 9) (.idx (.loc 0) (.lit (.int 0)))) (.loc 8)) m σ' = some (.int (y * F + x), σ') :=
      fun p h0 h8 h9 => e_bin (e_bin (eL h9) ((S.pre p).e0 h0) hm) (eL h8) ar_add
     have p2 := pre_set hp hr (.list (xs ++ [.int (y * F + x)]))
     have body : ∃ l', l' = (if y * F + x ∈ ml then 0 else (n : Int)) /\ execSs g Φ metBody (metFrm sh sqv wv rch men r dx dy x y ((n + 1 : Nat) : Int)) σ1 = some (.next, metFrm sh sqv wv rch men r dx dy (x + dx) (y + dy) l', σ1.set r (.list (xs ++ [.int (y * F + x)]))) := by
      have ci := fun (m : Frm) (h0 : m[0]? = some (some sh)) (h8 : m[8]? = some (some (.int x))) (h9 : m[9]? = some (some (.int y))) (h4 : m[4]? = some (some men)) => e_cmp (Φ := Φ) (o := .in_) (sq p2 h0 h8 h9) (eL h4) ((M.pre p2).in_ (a := y * F + x))
      have st1 := s_expr (e_append (g := g) (Φ := Φ) (m := metFrm sh sqv wv rch men r dx dy x y ((n + 1 : Nat) : Int)) (eL (i := 5) rfl) ⟨xs, hx⟩ (sq hp rfl rfl rfl) hx (by lia))
      by_cases hm2 : y * F + x ∈ ml
      · refine i1_2 0 (by rw [if_pos hm2]) (sC st1 (sC (s_aug rfl eI ar_sub) (sC (s_if_t (ci _ rfl rfl rfl rfl) (by simp [truth, hm2]) (sC (sA eI (lb rfl)) sN)) (sC (s_aug rfl (eL rfl) ar_add) (sC (s_aug rfl (eL rfl) ar_add) sN)))))
      · refine i1_2 n (by rw [if_neg hm2]) ?_
        have : ((n + 1 : Nat) : Int) - 1 = n := by lia
        rw [<- this]
        exact sC st1 (sC (s_aug rfl eI ar_sub) (sC (s_if_f (ci _ rfl rfl rfl rfl) (by simp [truth, hm2]) sN) (sC (s_aug rfl (eL rfl) ar_add) (sC (s_aug rfl (eL rfl) ar_add) sN))))
     refine x1_2 body fun l' hl' be => ?_
     clear body
     have hx2 : (σ1.set r (.list (xs ++ [.int (y * F + x)])))[r]? = some (.list (xs ++ [.int (y * F + x)])) := get_set hx
     have md : metDir F R dx dy ml (n + 1) x y = (y * F + x) :: (if y * F + x ∈ ml then [] else metDir F R dx dy ml n (x + dx) (y + dy)) := by
      simp only [metDir]; rw [if_pos hin]
     by_cases hm2 : y * F + x ∈ ml
     · rw [if_pos hm2] at hl' md
       subst hl'
       refine i3_1 (x + dx) (y + dy) 0 ?_
       rw [md]
       simp only [whileLoop, c, b2, b1, truth, if_true, be, b3, met_stop (Φ := Φ) (S.pre p2) (x := x + dx) (y := y + dy) (left := 0) (by simp) (show 0 < f by lia)]
       simp
     · rw [if_neg hm2] at hl' md
       subst hl'
       refine x3_1 (ih f (x + dx) (y + dy) (xs ++ [.int (y * F + x)]) _ (by lia) p2 hx2 (by simp; lia)) fun x' y' l' e3 => ?_
       refine i3_1 x' y' l' ?_
       rw [md]
       simp only [whileLoop, c, b2, b1, truth, if_true, be, b3, e3]
       simp [List.set_set]
   · refine i3_1 x y ((n + 1 : Nat) : Int) ?_
     rw [met_stop (S.pre hp) (by omega) (by and_intros)]
     simp only [metDir, if_neg hin, List.map_nil, List.append_nil]
     rw [set_same hx]
end
end
section
variable {ns : List Int} {n : Nat} {σ σ1 σ2 : Hp} {Φ : CallF} {m m1 m2 : Frm} {g : List O}
theorem s_forT {xs : List Nat} {it : E} {b : Ss} {v : V} {l : List V} {fl : Fl} (h : vE g Φ it m σ = some (v, σ1)) (hi : listOf g σ1 v = some l) (hl : forLoop g (unpackTo g xs) (fun m σ => execSs g Φ b m σ) loopFuel (.lst v 0) m σ1 = some (fl, m2, σ2)) : execS g Φ (.forT xs it b) m σ = some (fl, m2, σ2) := by
 have hg : iterL g σ1 v = some (.lst v 0) := by
  unfold listOf at hi
  unfold iterL
  split at hi
  · rename_i q; first | rfl | rw [q]
  · exact nn hi
 exact b2_of h (b1_of hg hl)
theorem iter_list {v : V} {l : List V} (hi : listOf g σ v = some l) : iter g σ v = some (.lst v 0) := by
 unfold listOf at hi
 unfold iter
 split at hi
 · rename_i q; first | rfl | rw [q]
 · exact nn hi
theorem s_while {c : E} {b : Ss} {fl : Fl} (h : whileLoop (fun m σ => vE g Φ c m σ) (fun m σ => execSs g Φ b m σ) loopFuel m σ = some (fl, m2, σ2)) : execS g Φ (.while c b) m σ = some (fl, m2, σ2) := by
 exact h
theorem metDir_len {F R dx dy : Int} {ml : List Int} : ∀ (n : Nat) (x y : Int), (metDir F R dx dy ml n x y).length <= n
 | 0, _, _ => by simp [metDir]
 | n + 1, x, y => by
   simp only [metDir]
   split
   · split
     · simp
     · have := metDir_len (F := F) (R := R) (dx := dx) (dy := dy) (ml := ml) n (x + dx) (y + dy)
       simp only [List.length_cons]; and_intros
   · simp
theorem metA_take {F R sq : Int} {ws : List (Int × Int)} {reach : Nat} {ml : List Int} {i : Nat} {p : Int × Int} (h : ws[i]? = some p) : metA F R sq (ws.take (i + 1)) reach ml = metA F R sq (ws.take i) reach ml ++ metDir F R p.1 p.2 ml reach (sq.fmod F + p.1) (sq.fdiv F + p.2) := by
 unfold metA
 rw [List.take_succ, h]
 simp [List.flatMap_append]
theorem metA_len {F R sq : Int} {reach : Nat} {ml : List Int} : ∀ (ws : List (Int × Int)), (metA F R sq ws reach ml).length <= ws.length * reach
 | [] => by simp [metA]
 | p :: r => by
   have h1 := metA_len (F := F) (R := R) (sq := sq) (reach := reach) (ml := ml) r
   have h2 := metDir_len (F := F) (R := R) (dx := p.1) (dy := p.2) (ml := ml) reach (sq.fmod F + p.1) (sq.fdiv F + p.2)
   unfold metA at h1 ⊢
   simp only [List.flatMap_cons, List.length_append, List.length_cons]
   rw [Nat.succ_mul]
   omega
noncomputable def metLoop : Ss := .cons (.asg 8 (.bin .add (.bin .mod (.loc 1) (.idx (.loc 0) (.lit (.int 0)))) (.loc 6)))
 (.cons (.asg 9 (.bin .add (.bin .fdiv (.loc 1) (.idx (.loc 0) (.lit (.int 0)))) (.loc 7)))
 (.cons (.asg 10 (.loc 3)) (.cons (.while metCond metBody) .nil)))
theorem run_met {sh ways men : V} {F R sq : Int} {ws : List (Int × Int)} {ml : List Int} {reach : Nat} (S : ShapeAt g σ sh F R) (W : WaysAt g σ ways ws) (M : IntsAt g σ men ml) (hw : ws.length <= 8) (hre : reach <= 9) :
 ∃ σ', σ <+: σ' /\ runFn g Φ f_law_met [sh, .int sq, ways, .int reach, men] σ = some (.ref σ.length, σ') /\ σ'[σ.length]? = some (.list ((metA F R sq ws reach ml).map .int)) := by
 have hF : F ≠ 0 := by have := S.F1; lia
 have hF2 : F.natAbs < 2 ^ 30 := by have := S.F1; have := S.F2; omega
 have p0 : σ <+: σ ++ [O.list []] := pfa ..
 refine cps fun _ zk => ?_
 refine x1_3 (W.is) fun refs w1 w2 w3 => ?_
 have hls : ∀ σ1, σ <+: σ1 -> listOf g σ1 ways = some refs := fun _ p => pre_listOf p w1
 refine x2_4 (for_list (g := g) (set := unpackTo g [6, 7]) (body := fun m σ => execSs g Φ metLoop m σ) (l := ways) (xs := refs) (fuel := loopFuel)
  (fun i m σ1 => σ <+: σ1 /\ σ1[σ.length]? = some (.list ((metA F R sq (ws.take i) reach ml).map .int)) /\ ∃ u6 u7 u8 u9 u10, m = [some sh, some (.int sq), some ways, some (.int reach), some men, some (.ref σ.length), u6, u7, u8, u9, u10])
  (fuel_lt (by lia)) (m := [some sh, some (.int sq), some ways, some (.int reach), some men, some (.ref σ.length), none, none, none, none, none]) (σ := σ ++ [O.list []])
  ⟨p0, by simp [metA], _, _, _, _, _, rfl⟩ (fun i m σ1 h => hls _ h.1) (by
   rintro i x m σ1 hix ⟨hp, hx, u6, u7, u8, u9, u10, rfl⟩
   refine cps fun _ zk => ?_
   refine x1_2 (w3 i x hix) fun p hp1 hp2 => ?_
   have S1 := S.pre hp
   have hil : i < 8 := by have := (gsm hp1).1; exact Nat.lt_of_lt_of_le (by assumption) (by assumption)
   have hln := metA_len (F := F) (R := R) (sq := sq) (reach := reach) (ml := ml) (ws.take i)
   have hl2 : (ws.take i).length <= 8 := by rw [List.length_take]; lia
   have hl3 : (ws.take i).length * reach <= 8 * 9 := Nat.mul_le_mul hl2 hre
   refine x3_1 (met_while (Φ := Φ) (sqv := .int sq) (wv := ways) (rch := .int reach) (dx := p.1) (dy := p.2) S M (Nat.le_refl _) reach loopFuel (sq.fmod F + p.1) (sq.fdiv F + p.2) _ σ1 (fuel_lt (by lia)) hp hx (by simp; lia)) fun x' y' l' we => ?_
   refine zk ?_; clear zk
   refine i4_6 ([some sh, some (.int sq), some ways, some (.int reach), some men, some (.ref σ.length), some (.int p.1), some (.int p.2), u8, u9, u10]) (.next) _ _ ?_ (sC (sA (e_bin (e_bin (eL rfl) (S1.e0 rfl) (ar_mod hF)) (eL rfl) ar_add) (lb rfl)) (sC (sA (e_bin (e_bin (eL rfl) (S1.e0 rfl) (ar_fdiv hF hF2)) (eL rfl) ar_add) (lb rfl)) (sC (sA (eL (i := 3) rfl) (lb rfl)) (sC (s_while we) sN)))) (.inl rfl) (pre_set hp (Nat.le_refl _) _) ?_ (i5_1 _ _ _ _ _ rfl)
   · simp [unpackTo, pre_getO hp hp2, setAll]
   · rw [get_set hx, metA_take hp1]; simp)) fun m' σ' e hp hx y1 => ?_
 refine x5_1 y1 fun u6 u7 u8 u9 u10 y2 => ?_
 refine zk ?_; clear zk
 subst y2
 rw [w2, List.take_length] at hx
 exact i1_3 σ' hp (run_ret (m := [some sh, some (.int sq), some ways, some (.int reach), some men, none, none, none, none, none, none]) rfl rfl (sC (sA (e_list eN (lb rfl)) (lb rfl)) (sC (s_forT (eL rfl) (hls _ p0) e) (ss_ret (eL rfl))))) hx
end
section
variable {ns : List Int} {n : Nat} {σ σ1 σ2 : Hp}
theorem sp_close {sh : V} {F R a b : Int} (S : ShapeAt (gobj ns) σ sh F R) : Phi (gobj ns) (n + 1) 28 [sh, .int a, .int b] σ = some (.bool (closeA F a b), σ) := (phi_eq (fn := f_law_close) rfl _ _).trans (run_close S)
theorem sp_met {sh ways men : V} {F R sq : Int} {ws : List (Int × Int)} {ml : List Int} {reach : Nat} (S : ShapeAt (gobj ns) σ sh F R) (W : WaysAt (gobj ns) σ ways ws) (M : IntsAt (gobj ns) σ men ml) (hw : ws.length <= 8) (hre : reach <= 9) :
 ∃ σ', σ <+: σ' /\ Phi (gobj ns) (n + 1) 26 [sh, .int sq, ways, .int reach, men] σ = some (.ref σ.length, σ') /\ σ'[σ.length]? = some (.list ((metA F R sq ws reach ml).map .int)) := by
 refine x1_3 (run_met (Φ := Phi (gobj ns) n) S W M hw hre (sq := sq)) fun σ' a b c => ?_
 exact i1_3 σ' a ((phi_eq (fn := f_law_met) rfl _ _).trans b) c
theorem ways_g : WaysAt (gobj ns) σ (.gref 2) wayL := ⟨(List.range 8).map fun i => .gref (4 + i), rfl, rfl, fun i r q => by
 have hi : i < 8 := by have := (gsm q).1; simpa using this
 have : i = 0 \/ i = 1 \/ i = 2 \/ i = 3 \/ i = 4 \/ i = 5 \/ i = 6 \/ i = 7 := by lia
 rcases this with rfl | rfl | rfl | rfl | rfl | rfl | rfl | rfl <;> (refine so1 q ?_; exact i1_2 _ rfl rfl)⟩
theorem leaps_g : WaysAt (gobj ns) σ (.gref 3) leapL := ⟨(List.range 8).map fun i => .gref (12 + i), rfl, rfl, fun i r q => by
 have hi : i < 8 := by have := (gsm q).1; simpa using this
 have : i = 0 \/ i = 1 \/ i = 2 \/ i = 3 \/ i = 4 \/ i = 5 \/ i = 6 \/ i = 7 := by lia
 rcases this with rfl | rfl | rfl | rfl | rfl | rfl | rfl | rfl <;> (refine so1 q ?_; exact i1_2 _ rfl rfl)⟩
theorem ways_from : WaysAt (gobj ns) (σ ++ [.list (((List.range 8).map fun i => V.gref (4 + i)).drop 4)]) (.ref σ.length) (wayL.drop 4) := ⟨((List.range 8).map fun i => V.gref (4 + i)).drop 4, by simp [listOf, getO], rfl, fun i r q => by
 have hi : i < 4 := by have := (gsm q).1; simpa using this
 have : i = 0 \/ i = 1 \/ i = 2 \/ i = 3 := by lia
 rcases this with rfl | rfl | rfl | rfl <;> (refine so1 q ?_; exact i1_2 _ rfl rfl)⟩
theorem ways_to : WaysAt (gobj ns) (σ ++ [.list (((List.range 8).map fun i => V.gref (4 + i)).take 4)]) (.ref σ.length) (wayL.take 4) := ⟨((List.range 8).map fun i => V.gref (4 + i)).take 4, by simp [listOf, getO], rfl, fun i r q => by
 have hi : i < 4 := by have := (gsm q).1; simpa using this
 have : i = 0 \/ i = 1 \/ i = 2 \/ i = 3 := by lia
 rcases this with rfl | rfl | rfl | rfl <;> (refine so1 q ?_; exact i1_2 _ rfl rfl)⟩
theorem sp_hits {sh men : V} {F R sq k : Int} {ml : List Int} (S : ShapeAt (gobj ns) σ sh F R) (M : IntsAt (gobj ns) σ men ml) :
 ∃ a σ', σ.length <= a /\ σ <+: σ' /\ Phi (gobj ns) (n + 2) 27 [sh, .int k, .int sq, men] σ = some (.ref a, σ') /\ σ'[a]? = some (.list ((hitsA F R k sq ml).map .int)) := by
 have c : ∀ (a : Int) {m : Frm} {σ : Hp}, m[1]? = some (some (.int k)) -> vE (gobj ns) (Phi (gobj ns) (n + 1)) (.cmp .eq (.loc 1) (.lit (.int a))) m σ = some (.bool (decide (k = a)), σ) := fun a _ _ h => e_cmp (eL h) eI rfl
 unfold hitsA
 by_cases h2 : k = 2
 · subst h2
   refine x1_3 (sp_met (ns := ns) (n := n) S (leaps_g (σ := σ)) M (by decide) (show 1 <= 9 by decide) (sq := sq)) fun σ' p e h => ?_
   exact i2_4 _ σ' (Nat.le_refl _) p ((phi_eq (fn := f_law_hits) rfl _ _).trans (run_ret (m := [some sh, some (.int 2), some (.int sq), some men]) rfl rfl (ss_stop (s_if_t (c 2 rfl) rfl (ss_ret (e_call (eC (eL rfl) (eC (eL rfl) (eC eI (eC eI (eC (eL rfl) eN))))) e))) (fun h => by cases h)))) h
 · rw [if_neg h2]
   by_cases h3 : k = 3
   · subst h3
     have p1 : σ <+: σ ++ [.list (((List.range 8).map fun i => V.gref (4 + i)).drop 4)] := pfa ..
     refine x1_3 (sp_met (ns := ns) (n := n) (S.pre p1) (ways_from (σ := σ)) (M.pre p1) (by decide) (show 9 <= 9 by decide) (sq := sq)) fun σ' p e h => ?_
     have sf : ∀ {m : Frm}, vE (gobj ns) (Phi (gobj ns) (n + 1)) (.sfrom (.lit (.gref 2)) (.lit (.int 4))) m σ = some (.ref σ.length, σ ++ [.list (((List.range 8).map fun i => V.gref (4 + i)).drop 4)]) := by
      intro m
      rfl
     exact i2_4 _ σ' (by simp) (p1.trans p) ((phi_eq (fn := f_law_hits) rfl _ _).trans (run_ret (m := [some sh, some (.int 3), some (.int sq), some men]) rfl rfl (sC (s_if_f (c 2 rfl) rfl sN) (ss_stop (s_if_t (c 3 rfl) rfl (ss_ret (e_call (eC (eL rfl) (eC (eL rfl) (eC sf (eC eI (eC (eL rfl) eN))))) e))) (fun h => by cases h))))) h
   · rw [if_neg h3]
     by_cases h4 : k = 4
     · subst h4
       have p1 : σ <+: σ ++ [.list (((List.range 8).map fun i => V.gref (4 + i)).take 4)] := pfa ..
       refine x1_3 (sp_met (ns := ns) (n := n) (S.pre p1) (ways_to (σ := σ)) (M.pre p1) (by decide) (show 9 <= 9 by decide) (sq := sq)) fun σ' p e h => ?_
       have sf : ∀ {m : Frm}, vE (gobj ns) (Phi (gobj ns) (n + 1)) (.sto (.lit (.gref 2)) (.lit (.int 4))) m σ = some (.ref σ.length, σ ++ [.list (((List.range 8).map fun i => V.gref (4 + i)).take 4)]) := by
        intro m
        rfl
       exact i2_4 _ σ' (by simp) (p1.trans p) ((phi_eq (fn := f_law_hits) rfl _ _).trans (run_ret (m := [some sh, some (.int 4), some (.int sq), some men]) rfl rfl (sC (s_if_f (c 2 rfl) rfl sN) (sC (s_if_f (c 3 rfl) rfl sN) (ss_stop (s_if_t (c 4 rfl) rfl (ss_ret (e_call (eC (eL rfl) (eC (eL rfl) (eC sf (eC eI (eC (eL rfl) eN))))) e))) (fun h => by cases h)))))) h
     · rw [if_neg h4]
       refine x1_3 (sp_met (ns := ns) (n := n) S (ways_g (σ := σ)) M (by decide) (show 9 <= 9 by decide) (sq := sq)) fun σ' p e h => ?_
       exact i2_4 _ σ' (Nat.le_refl _) p ((phi_eq (fn := f_law_hits) rfl _ _).trans (run_ret (m := [some sh, some (.int k), some (.int sq), some men]) rfl rfl (sC (s_if_f (c 2 rfl) (by simp [truth, h2]) sN) (sC (s_if_f (c 3 rfl) (by simp [truth, h3]) sN) (sC (s_if_f (c 4 rfl) (by simp [truth, h4]) sN) (ss_ret (e_call (eC (eL rfl) (eC (eL rfl) (eC eI (eC eI (eC (eL rfl) eN))))) e))))))) h
end
noncomputable abbrev Place := Int × Int × Int × Int
noncomputable def standsA (F R k : Int) (zl : List Int) (pl : Place) : Bool :=
 if pl.2.1 ∉ zl \/ pl.2.1 = pl.2.2.1 \/ pl.2.2.1 = pl.2.2.2 \/ closeA F pl.2.1 pl.2.2.2 = true then false
 else decide (pl.1 = 1) || decide (pl.2.2.2 ∉ hitsA F R k pl.2.2.1 [pl.2.1, pl.2.2.2])
noncomputable def movesA (F R k : Int) (zl : List Int) (pl : Place) : List (Option Place) :=
 if pl.1 = 1 then (metA F R pl.2.2.2 wayL 1 []).filterMap fun gl =>
  if gl = pl.2.2.1 /\ closeA F pl.2.1 pl.2.2.1 = false then some none else if standsA F R k zl (0, pl.2.1, pl.2.2.1, gl) then some (some (0, pl.2.1, pl.2.2.1, gl)) else none
 else ((metA F R pl.2.1 wayL 1 []).filterMap fun gl => if standsA F R k zl (1, gl, pl.2.2.1, pl.2.2.2) then some (some (1, gl, pl.2.2.1, pl.2.2.2)) else none) ++
  ((hitsA F R k pl.2.2.1 [pl.2.1, pl.2.2.2]).filterMap fun gl => if standsA F R k zl (1, pl.2.1, gl, pl.2.2.2) then some (some (1, pl.2.1, gl, pl.2.2.2)) else none)
noncomputable def PlaceAt (g : List O) (σ : Hp) (v : V) (pl : Place) : Prop := getO g σ v = some (.tup [.int pl.1, .int pl.2.1, .int pl.2.2.1, .int pl.2.2.2])
theorem PlaceAt.pre {g : List O} {σ σ1 : Hp} {v : V} {pl : Place} (h : PlaceAt g σ v pl) (p : σ <+: σ1) : PlaceAt g σ1 v pl := pre_getO p h
section
variable {ns : List Int} {n : Nat} {σ σ1 σ2 : Hp} {Φ : CallF} {m m1 m2 : Frm} {g : List O}
theorem e_or_b {a b : E} {p q : Bool} (h1 : vE g Φ a m σ = some (.bool p, σ)) (h2 : vE g Φ b m σ = some (.bool q, σ)) : vE g Φ (.or a b) m σ = some (.bool (p || q), σ) := by
 cases p with
 | true => exact e_or_t h1 rfl
 | false => exact e_or_f h1 rfl h2
theorem cmp_eqI {a b : Int} : cmpV g .eq (.int a) (.int b) σ = some (decide (a = b)) := rfl
theorem cmp_neI {a b : Int} : cmpV g .ne (.int a) (.int b) σ = some (decide (a ≠ b)) := rfl
theorem cmp_geI {a b : Int} : cmpV g .ge (.int a) (.int b) σ = some (decide (b <= a)) := rfl
theorem cmp_ltI {a b : Int} : cmpV g .lt (.int a) (.int b) σ = some (decide (a < b)) := rfl
theorem sp_stands {sh zone place : V} {F R k : Int} {zl : List Int} {pl : Place} (S : ShapeAt (gobj ns) σ sh F R) (Z : IntsAt (gobj ns) σ zone zl) (P : PlaceAt (gobj ns) σ place pl) :
 ∃ σ', σ <+: σ' /\ Phi (gobj ns) (n + 3) 29 [sh, .int k, zone, place] σ = some (.bool (standsA F R k zl pl), σ') := by
 obtain ⟨side, s, p, w⟩ := pl
 have un : execS (gobj ns) (Phi (gobj ns) (n + 2)) (.unpack [4, 5, 6, 7] (.loc 3)) [some sh, some (.int k), some zone, some place, none, none, none, none] σ = some (.next, [some sh, some (.int k), some zone, some place, some (.int side), some (.int s), some (.int p), some (.int w)], σ) :=
  s_unpack (eL rfl) P rfl
 have cond : vE (gobj ns) (Phi (gobj ns) (n + 2)) (.or (.cmp .notin (.loc 5) (.loc 2)) (.or (.cmp .eq (.loc 5) (.loc 6)) (.or (.cmp .eq (.loc 6) (.loc 7)) (.call 28 (.cons (.loc 0) (.cons (.loc 5) (.cons (.loc 7) .nil)))))))
  [some sh, some (.int k), some zone, some place, some (.int side), some (.int s), some (.int p), some (.int w)] σ = some (.bool (decide (s ∉ zl) || (decide (s = p) || (decide (p = w) || closeA F s w))), σ) :=
  e_or_b (e_cmp (eL rfl) (eL rfl) Z.notin) (e_or_b (e_cmp (eL rfl) (eL rfl) cmp_eqI) (e_or_b (e_cmp (eL rfl) (eL rfl) cmp_eqI) (e_call (eC (eL rfl) (eC (eL rfl) (eC (eL rfl) eN))) (sp_close (n := n + 1) S))))
 unfold standsA
 by_cases hb : s ∉ zl \/ s = p \/ p = w \/ closeA F s w = true
 · rw [if_pos hb]
   have hb2 : (decide (s ∉ zl) || (decide (s = p) || (decide (p = w) || closeA F s w))) = true := by simpa using hb
   rw [hb2] at cond
   exact i1_2 σ (List.prefix_refl _) ((phi_eq (fn := f_law_stands) rfl _ _).trans (run_ret (m := [some sh, some (.int k), some zone, some place, none, none, none, none]) rfl rfl (sC un (ss_stop (s_if_t cond rfl (ss_ret eI)) (fun h => by cases h)))))
 · rw [if_neg hb]
   have hb2 : (decide (s ∉ zl) || (decide (s = p) || (decide (p = w) || closeA F s w))) = false := by
    cases hq : (decide (s ∉ zl) || (decide (s = p) || (decide (p = w) || closeA F s w))) with
    | false => rfl
    | true => exact absurd (by simpa using hq) hb
   rw [hb2] at cond
   have ceq : vE (gobj ns) (Phi (gobj ns) (n + 2)) (.cmp .eq (.loc 4) (.lit (.int 1))) [some sh, some (.int k), some zone, some place, some (.int side), some (.int s), some (.int p), some (.int w)] σ = some (.bool (decide (side = 1)), σ) := e_cmp (eL rfl) eI cmp_eqI
   by_cases h1 : side = 1
   · rw [show decide (side = 1) = true by simpa using h1] at ceq ⊢
     rw [Bool.true_or]
     exact i1_2 σ (List.prefix_refl _) ((phi_eq (fn := f_law_stands) rfl _ _).trans (run_ret (m := [some sh, some (.int k), some zone, some place, none, none, none, none]) rfl rfl (sC un (sC (s_if_f cond rfl sN) (ss_ret (e_or_t ceq rfl))))))
   · rw [show decide (side = 1) = false by simpa using h1] at ceq ⊢
     rw [Bool.false_or]
     have p1 : σ <+: σ ++ [O.list [.int s, .int w]] := pfa ..
     refine x2_4 (sp_hits (n := n) (k := k) (sq := p) (ml := [s, w]) (S.pre p1) (men := .ref σ.length) (by simp [IntsAt, listOf, getO])) fun a σ' _ p2 e ha => ?_
     have hl : IntsAt (gobj ns) σ' (.ref a) (hitsA F R k p [s, w]) := by simp [IntsAt, listOf, getO, ha]
     exact i1_2 σ' (p1.trans p2) ((phi_eq (fn := f_law_stands) rfl _ _).trans (run_ret (m := [some sh, some (.int k), some zone, some place, none, none, none, none]) rfl rfl (sC un (sC (s_if_f cond rfl sN) (ss_ret (e_or_f ceq rfl (e_cmp (eL rfl) (e_call (eC (eL rfl) (eC (eL rfl) (eC (eL rfl) (eC (e_list (eC (eL rfl) (eC (eL rfl) eN)) (lb rfl)) eN)))) e) hl.notin)))))))
noncomputable def MoveAt (g : List O) (σ : Hp) (v : V) (mv : Option Place) : Prop := ∃ a b r, getO g σ v = some (.tup [a, b, r]) /\ match mv with
 | none => r = .none
 | some pl => PlaceAt g σ r pl
theorem MoveAt.pre {v : V} {mv : Option Place} (h : MoveAt g σ v mv) (p : σ <+: σ1) : MoveAt g σ1 v mv := by
 refine x3_2 h fun a b r h1 h2 => ?_
 clear h
 refine i3_2 a b r (pre_getO p h1) ?_
 cases mv with
 | none => exact h2
 | some pl => exact PlaceAt.pre h2 p
theorem getO_set_tup {v : V} {xs ys : List V} {r : Nat} {o : O} (h : getO g σ v = some (.tup xs)) (hr : σ[r]? = some (.list ys)) : getO g (σ.set r o) v = some (.tup xs) := by
 cases v with
 | ref a =>
   have : r ≠ a := fun q => by subst q; rw [show getO g σ (.ref r) = σ[r]? from rfl, hr] at h; cases h
   show (σ.set r o)[a]? = _
   rw [get_set_ne this]; exact h
 | gref k => exact h
 | _ => exact nn h
theorem MoveAt.set {v : V} {mv : Option Place} {ys : List V} {r : Nat} {o : O} (h : MoveAt g σ v mv) (hr : σ[r]? = some (.list ys)) : MoveAt g (σ.set r o) v mv := by
 refine x3_2 h fun a b x h1 h2 => ?_
 clear h
 refine i3_2 a b x (getO_set_tup h1 hr) ?_
 cases mv with
 | none => exact h2
 | some pl => exact getO_set_tup h2 hr
inductive MovesAt (g : List O) (σ : Hp) : List V -> List (Option Place) -> Prop where
 | nil : MovesAt g σ [] []
 | cons {v r mv l} : MoveAt g σ v mv -> MovesAt g σ r l -> MovesAt g σ (v :: r) (mv :: l)
theorem MovesAt.pre {vs : List V} {l : List (Option Place)} (h : MovesAt g σ vs l) (p : σ <+: σ1) : MovesAt g σ1 vs l := by
 induction h with
 | nil => exact .nil
 | cons h _ ih => exact .cons (h.pre p) ih
theorem MovesAt.set {vs : List V} {l : List (Option Place)} {ys : List V} {r : Nat} {o : O} (h : MovesAt g σ vs l) (hr : σ[r]? = some (.list ys)) : MovesAt g (σ.set r o) vs l := by
 induction h with
 | nil => exact .nil
 | cons h _ ih => exact .cons (h.set hr) ih
theorem MovesAt.snoc {vs : List V} {l : List (Option Place)} {v : V} {mv : Option Place} (h : MovesAt g σ vs l) (h2 : MoveAt g σ v mv) : MovesAt g σ (vs ++ [v]) (l ++ [mv]) := by
 induction h with
 | nil => exact .cons h2 .nil
 | cons h _ ih => exact .cons h ih
theorem MovesAt.len {vs : List V} {l : List (Option Place)} (h : MovesAt g σ vs l) : vs.length = l.length := by
 induction h with
 | nil => rfl
 | cons _ _ ih => simp [ih]
end
noncomputable def Ex (r : Nat) (σ1 σ2 : Hp) : Prop := ∀ i o, i ≠ r -> σ1[i]? = some o -> σ2[i]? = some o
theorem Ex.refl {r : Nat} {σ : Hp} : Ex r σ σ := fun _ _ _ h => h
theorem Ex.trans {r : Nat} {σ1 σ2 σ3 : Hp} (a : Ex r σ1 σ2) (b : Ex r σ2 σ3) : Ex r σ1 σ3 := fun i o h e => b i o h (a i o h e)
theorem Ex.of_pre {r : Nat} {σ1 σ2 : Hp} (p : σ1 <+: σ2) : Ex r σ1 σ2 := fun _ _ _ e => pG p e
theorem Ex.of_set {r : Nat} {σ : Hp} {o : O} : Ex r σ (σ.set r o) := fun i o' h e => by rw [get_set_ne (Ne.symm h)]; exact e
section
variable {ns : List Int} {n : Nat} {σ σ0 σ1 σ2 : Hp} {m m1 m2 : Frm}
theorem st_app {sh zone : V} {F R k a b c d : Int} {zl : List Int} {r : Nat} {vs : List V} {l0 : List (Option Place)} {es : Es} {oe : E} {ov gv : V} (S : ShapeAt (gobj ns) σ0 sh F R) (Z : IntsAt (gobj ns) σ0 zone zl) (hr : σ0.length <= r) (hp : σ0 <+: σ1) (hx : σ1[r]? = some (.list vs)) (hl : vs.length < 1000) (M : MovesAt (gobj ns) σ1 vs l0)
 (m0 : m[0]? = some (some sh)) (m1' : m[1]? = some (some (.int k))) (m2' : m[2]? = some (some zone)) (m8 : m[8]? = some (some (.ref r))) (m9 : m[9]? = some (some gv))
 (he : ∀ σ, evalEs (gobj ns) (Phi (gobj ns) (n + 3)) es m σ = some ([.int a, .int b, .int c, .int d], σ)) (ho : ∀ σ, vE (gobj ns) (Phi (gobj ns) (n + 3)) oe m σ = some (ov, σ)) :
 ∃ σ2 vs', execS (gobj ns) (Phi (gobj ns) (n + 3)) (.ife (.call 29 (.cons (.loc 0) (.cons (.loc 1) (.cons (.loc 2) (.cons (.tup es) .nil))))) (.cons (.expr (.append (.loc 8) (.tup (.cons oe (.cons (.loc 9) (.cons (.tup es) .nil)))))) .nil) .nil) m σ1 = some (.next, m, σ2) /\
   σ0 <+: σ2 /\ σ2[r]? = some (.list vs') /\ MovesAt (gobj ns) σ2 vs' (l0 ++ (if standsA F R k zl (a, b, c, d) then [some (a, b, c, d)] else [])) /\ Ex r σ1 σ2 /\ vs'.length <= vs.length + 1 := by
 have p1 : σ1 <+: σ1 ++ [O.tup [.int a, .int b, .int c, .int d]] := pfa ..
 have pl1 : PlaceAt (gobj ns) (σ1 ++ [O.tup [.int a, .int b, .int c, .int d]]) (.ref σ1.length) (a, b, c, d) := by simp [PlaceAt, getO]
 refine x1_2 (sp_stands (ns := ns) (n := n) (k := k) (S.pre (hp.trans p1)) (Z.pre (hp.trans p1)) pl1) fun σ' p2 e => ?_
 have cond : vE (gobj ns) (Phi (gobj ns) (n + 3)) (.call 29 (.cons (.loc 0) (.cons (.loc 1) (.cons (.loc 2) (.cons (.tup es) .nil))))) m σ1 = some (.bool (standsA F R k zl (a, b, c, d)), σ') :=
  e_call (eC (eL m0) (eC (eL m1') (eC (eL m2') (eC (e_tup (he _) (lb rfl)) eN)))) e
 have p12 := p1.trans p2
 cases hst : standsA F R k zl (a, b, c, d) with
 | false =>
   rw [hst] at cond
   refine i2_6 σ' vs (s_if_f cond rfl sN) (hp.trans p12) (pG p12 hx) ?_ (.of_pre p12) (Nat.le_succ _)
   simpa using M.pre p12
 | true =>
   rw [hst] at cond
   have q1 : σ' <+: σ' ++ [O.tup [.int a, .int b, .int c, .int d]] := pfa ..
   have q2 : σ' ++ [O.tup [.int a, .int b, .int c, .int d]] <+: σ' ++ [O.tup [.int a, .int b, .int c, .int d]] ++ [O.tup [ov, gv, .ref σ'.length]] := pfa ..
   have hx' := pG p12 hx
   have hx2 := pG (q1.trans q2) hx'
   have tp : vE (gobj ns) (Phi (gobj ns) (n + 3)) (.tup (.cons oe (.cons (.loc 9) (.cons (.tup es) .nil)))) m σ' = some (.ref (σ' ++ [O.tup [.int a, .int b, .int c, .int d]]).length, σ' ++ [O.tup [.int a, .int b, .int c, .int d]] ++ [O.tup [ov, gv, .ref σ'.length]]) :=
    e_tup (eC (ho _) (eC (eL m9) (eC (e_tup (he _) (lb rfl)) eN))) (lb rfl)
   have mv : MoveAt (gobj ns) (σ' ++ [O.tup [.int a, .int b, .int c, .int d]] ++ [O.tup [ov, gv, .ref σ'.length]]) (.ref (σ' ++ [O.tup [.int a, .int b, .int c, .int d]]).length) (some (a, b, c, d)) :=
    i3_2 ov gv (.ref σ'.length) (by simp only [getO]; exact gP _ _) (pre_getO (g := gobj ns) (v := .ref σ'.length) q2 (by simp only [getO]; exact gP _ _))
   refine i2_6 _ (vs ++ [.ref (σ' ++ [O.tup [.int a, .int b, .int c, .int d]]).length]) (s_if_t cond rfl (sC (s_expr (e_append (eL m8) ⟨vs, hx'⟩ tp hx2 (by lia))) sN)) (pre_set ((hp.trans p12).trans (q1.trans q2)) hr _) (get_set hx2) ?_ ((Ex.of_pre (p12.trans (q1.trans q2))).trans .of_set) (by simp)
   simp only [if_true]
   exact ((M.pre (p12.trans (q1.trans q2))).snoc mv).set hx2
theorem goals_loop {σa : Hp} {a r : Nat} {l : List Int} {l0 : List (Option Place)} {vs0 : List V} {body : Ss} {m8 : Frm} (f : Int -> Option (Option Place)) (hp : σ0 <+: σa) (ha : σa[a]? = some (.list (l.map .int))) (hra : a ≠ r) (hx : σa[r]? = some (.list vs0)) (M0 : MovesAt (gobj ns) σa vs0 l0) (hl : l.length + vs0.length < 1000) (h8 : m8.length = 9) (u : Option V)
 (step : ∀ (x : Int) (σ1 : Hp) (vs : List V) (lx : List (Option Place)), σ0 <+: σ1 -> σ1[r]? = some (.list vs) -> vs.length < 1000 -> MovesAt (gobj ns) σ1 vs lx -> ∃ σ2 vs', execSs (gobj ns) (Phi (gobj ns) (n + 3)) body (m8 ++ [some (.int x)]) σ1 = some (.next, m8 ++ [some (.int x)], σ2) /\ σ0 <+: σ2 /\ σ2[r]? = some (.list vs') /\
  MovesAt (gobj ns) σ2 vs' (lx ++ (f x).toList) /\ Ex r σ1 σ2 /\ vs'.length <= vs.length + 1) :
 ∃ σ2 vs u', forLoop (gobj ns) (fun v m _ => setLoc 9 v m) (fun m σ => execSs (gobj ns) (Phi (gobj ns) (n + 3)) body m σ) loopFuel (.lst (.ref a) 0) (m8 ++ [u]) σa = some (.next, m8 ++ [u'], σ2) /\ σ0 <+: σ2 /\ σ2[r]? = some (.list vs) /\ MovesAt (gobj ns) σ2 vs (l0 ++ l.filterMap f) /\ Ex r σa σ2 /\ vs.length <= vs0.length + l.length := by
 refine x2_4 (for_list (g := gobj ns) (set := fun v m _ => setLoc 9 v m) (body := fun m σ => execSs (gobj ns) (Phi (gobj ns) (n + 3)) body m σ) (l := .ref a) (xs := l.map .int) (fuel := loopFuel)
  (fun i m σ1 => σ0 <+: σ1 /\ (∃ u, m = m8 ++ [u]) /\ ∃ vs, σ1[r]? = some (.list vs) /\ MovesAt (gobj ns) σ1 vs (l0 ++ (l.take i).filterMap f) /\ Ex r σa σ1 /\ vs.length <= vs0.length + i)
  (fuel_lt (by simp; lia)) (m := m8 ++ [u]) (σ := σa) ⟨hp, ⟨u, rfl⟩, vs0, hx, by simpa using M0, .refl, Nat.le_refl _⟩ (fun i m σ1 h => by
   refine cps fun _ zk => ?_
   refine x0_3 h fun _ _ zz1 => ?_
   refine x1_4 zz1 fun _ _ _ h5 _ => ?_
   refine zk ?_; clear zk
   show listOf _ _ _ = _
   simp [listOf, getO, h5 a _ hra ha]) (by
   rintro i x m σ1 hix ⟨q1, ⟨u, rfl⟩, vs, q2, q3, q4, q5⟩
   rw [List.getElem?_map, Option.map_eq_some_iff] at hix
   refine x1_2 hix fun x _ zz2 => ?_
   clear hix; rename_i hix
   subst zz2
   have hil := (gsm hix).1
   refine x2_6 (step x σ1 vs _ q1 q2 (by lia) q3) fun σ2 vs' e1 e2 e3 e4 e5 e6 => ?_
   refine i4_6 (m8 ++ [some (.int x)]) (.next) _ σ2 ?_ e1 (.inl rfl) e2 ⟨_, rfl⟩ (i1_4 vs' e3 ?_ (q4.trans e5) (by lia))
   · simp [setLoc, h8, List.set_append]
   · rw [List.take_succ, hix, List.filterMap_append, <- List.append_assoc]
     have : (some x).toList.filterMap f = (f x).toList := by cases hf : f x <;> simp [hf]
     rw [this]
     exact e4)) fun m' σ' e q1 y1 y2 => ?_
 obtain ⟨u', rfl⟩ := y1
 refine x1_4 y2 fun vs q2 q3 q4 q5 => ?_
 rw [List.length_map] at q3 q5
 rw [List.take_length] at q3
 exact i3_1 σ' vs u' ⟨e, q1, q2, q3, q4, (by omega)⟩
end
section
variable {ns : List Int} {n : Nat} {σ σ0 σ1 σ2 : Hp} {m m1 m2 : Frm}
theorem hitsA_len {F R k sq : Int} {ml : List Int} : (hitsA F R k sq ml).length <= 72 := by
 unfold hitsA
 split
 · exact Nat.le_trans (metA_len _) (by decide)
 · split
   · exact Nat.le_trans (metA_len _) (by decide)
   · split
     · exact Nat.le_trans (metA_len _) (by decide)
     · exact Nat.le_trans (metA_len _) (by decide)
theorem sp_moves {sh zone place : V} {F R k : Int} {zl : List Int} {pl : Place} (S : ShapeAt (gobj ns) σ sh F R) (Z : IntsAt (gobj ns) σ zone zl) (P : PlaceAt (gobj ns) σ place pl) :
 ∃ a σ' vs, σ <+: σ' /\ Phi (gobj ns) (n + 4) 30 [sh, .int k, zone, place] σ = some (.ref a, σ') /\ σ'[a]? = some (.list vs) /\ MovesAt (gobj ns) σ' vs (movesA F R k zl pl) := by
 obtain ⟨side, s, p, w⟩ := pl
 have un : execS (gobj ns) (Phi (gobj ns) (n + 3)) (.unpack [4, 5, 6, 7] (.loc 3)) [some sh, some (.int k), some zone, some place, none, none, none, none, none, none] σ = some (.next, [some sh, some (.int k), some zone, some place, some (.int side), some (.int s), some (.int p), some (.int w), none, none], σ) :=
  s_unpack (eL rfl) P rfl
 have p1 : σ <+: σ ++ [O.list []] := pfa ..
 have st8 : execS (gobj ns) (Phi (gobj ns) (n + 3)) (.asg 8 (.list .nil)) [some sh, some (.int k), some zone, some place, some (.int side), some (.int s), some (.int p), some (.int w), none, none] σ = some (.next, [some sh, some (.int k), some zone, some place, some (.int side), some (.int s), some (.int p), some (.int w), some (.ref σ.length), none], σ ++ [O.list []]) :=
  sA (e_list eN (lb rfl)) (lb rfl)
 have c4 : ∀ {σ : Hp}, vE (gobj ns) (Phi (gobj ns) (n + 3)) (.cmp .eq (.loc 4) (.lit (.int 1))) [some sh, some (.int k), some zone, some place, some (.int side), some (.int s), some (.int p), some (.int w), some (.ref σ.length), none] σ = some (.bool (decide (side = 1)), σ) := e_cmp (eL rfl) eI cmp_eqI
 have c4' : vE (gobj ns) (Phi (gobj ns) (n + 3)) (.cmp .eq (.loc 4) (.lit (.int 1))) [some sh, some (.int k), some zone, some place, some (.int side), some (.int s), some (.int p), some (.int w), some (.ref σ.length), none] (σ ++ [O.list []]) = some (.bool (decide (side = 1)), σ ++ [O.list []]) := e_cmp (eL rfl) eI cmp_eqI
 have p2 : σ ++ [O.list []] <+: σ ++ [O.list []] ++ [O.list []] := pfa ..
 have IM : IntsAt (gobj ns) (σ ++ [O.list []] ++ [O.list []]) (.ref (σ ++ [O.list []]).length) [] := by
  show listOf _ _ _ = _
  simp only [listOf, getO]
  rw [gP]; rfl
 -- the squares around one
 have around : ∀ (sq : Int) (i : Nat), [some sh, some (.int k), some zone, some place, some (.int side), some (.int s), some (.int p), some (.int w), some (.ref σ.length), none][i]? = some (some (.int sq)) ->
  ∃ σa, σ ++ [O.list []] <+: σa /\ vE (gobj ns) (Phi (gobj ns) (n + 3)) (.call 26 (.cons (.loc 0) (.cons (.loc i) (.cons (.lit (.gref 2)) (.cons (.lit (.int 1)) (.cons (.list .nil) .nil)))))) [some sh, some (.int k), some zone, some place, some (.int side), some (.int s), some (.int p), some (.int w), some (.ref σ.length), none] (σ ++ [O.list []]) = some (.ref (σ.length + 2), σa) /\ σa[σ.length + 2]? = some (.list ((metA F R sq wayL 1 []).map .int)) := by
  intro sq i hi
  refine x1_3 (sp_met (ns := ns) (n := n + 2) (S.pre (p1.trans p2)) ways_g IM (by decide) (show 1 <= 9 by decide) (sq := sq)) fun σa q1 q2 q3 => ?_
  have hlen : (σ ++ [O.list []] ++ [O.list []]).length = σ.length + 2 := by simp
  rw [hlen] at q2 q3
  exact i1_3 σa (p2.trans q1) (e_call (eC (eL rfl) (eC (eL hi) (eC eI (eC eI (eC (e_list eN (lb rfl)) eN))))) q2) q3
 unfold movesA
 by_cases h1 : side = 1
 · rw [if_pos h1]
   rw [show decide (side = 1) = true by simpa using h1] at c4'
   refine cps fun _ zk => ?_
   refine x1_3 (around w 7 rfl) fun σa qa ea ha => ?_
   have hx : σa[σ.length]? = some (.list []) := pG qa (gP _ _)
   have hml := metA_len (F := F) (R := R) (sq := w) (reach := 1) (ml := []) wayL
   refine x3_6 (goals_loop (ns := ns) (n := n) (σ0 := σ) (σa := σa) (a := σ.length + 2) (r := σ.length) (l := metA F R w wayL 1 []) (l0 := []) (vs0 := [])
    (body := .cons (.ife (.and (.cmp .eq (.loc 9) (.loc 6)) (.not (.call 28 (.cons (.loc 0) (.cons (.loc 5) (.cons (.loc 6) .nil)))))) (.cons (.expr (.append (.loc 8) (.tup (.cons (.loc 7) (.cons (.loc 9) (.cons (.lit .none) .nil)))))) .nil) (.cons (.ife (.call 29 (.cons (.loc 0) (.cons (.loc 1) (.cons (.loc 2) (.cons (.tup (.cons (.lit (.int 0)) (.cons (.loc 5) (.cons (.loc 6) (.cons (.loc 9) .nil))))) .nil))))) (.cons (.expr (.append (.loc 8) (.tup (.cons (.loc 7) (.cons (.loc 9) (.cons (.tup (.cons (.lit (.int 0)) (.cons (.loc 5) (.cons (.loc 6) (.cons (.loc 9) .nil))))) .nil)))))) .nil) .nil) .nil)) .nil)
    (m8 := [some sh, some (.int k), some zone, some place, some (.int side), some (.int s), some (.int p), some (.int w), some (.ref σ.length)])
    (fun gl => if gl = p /\ closeA F s p = false then some none else if standsA F R k zl (0, s, p, gl) then some (some (0, s, p, gl)) else none)
    (p1.trans qa) ha (by and_intros) hx .nil (by simp [wayL] at hml ⊢; lia) rfl none (by
     intro x σ1 vs lx t1 t2 t3 t4
     have hcl : vE (gobj ns) (Phi (gobj ns) (n + 3)) (.not (.call 28 (.cons (.loc 0) (.cons (.loc 5) (.cons (.loc 6) .nil))))) [some sh, some (.int k), some zone, some place, some (.int side), some (.int s), some (.int p), some (.int w), some (.ref σ.length), some (.int x)] σ1 = some (.bool (!closeA F s p), σ1) :=
      e_not (e_call (eC (eL rfl) (eC (eL rfl) (eC (eL rfl) eN))) (sp_close (n := n + 2) (S.pre t1))) rfl
     have hc : vE (gobj ns) (Phi (gobj ns) (n + 3)) (.and (.cmp .eq (.loc 9) (.loc 6)) (.not (.call 28 (.cons (.loc 0) (.cons (.loc 5) (.cons (.loc 6) .nil)))))) [some sh, some (.int k), some zone, some place, some (.int side), some (.int s), some (.int p), some (.int w), some (.ref σ.length), some (.int x)] σ1 = some (.bool (decide (x = p) && !closeA F s p), σ1) :=
      e_and_b (e_cmp (eL rfl) (eL rfl) cmp_eqI) hcl
     by_cases hg : x = p /\ closeA F s p = false
     · rw [show (decide (x = p) && !closeA F s p) = true by simp [hg.1, hg.2]] at hc
       simp only [if_pos hg]
       have q2 : σ1 <+: σ1 ++ [O.tup [.int w, .int x, .none]] := pfa ..
       have tp : vE (gobj ns) (Phi (gobj ns) (n + 3)) (.tup (.cons (.loc 7) (.cons (.loc 9) (.cons (.lit .none) .nil)))) [some sh, some (.int k), some zone, some place, some (.int side), some (.int s), some (.int p), some (.int w), some (.ref σ.length), some (.int x)] σ1 = some (.ref σ1.length, σ1 ++ [O.tup [.int w, .int x, .none]]) :=
        e_tup (eC (eL rfl) (eC (eL rfl) (eC eI eN))) (lb rfl)
       have mv : MoveAt (gobj ns) (σ1 ++ [O.tup [.int w, .int x, .none]]) (.ref σ1.length) none := i3_2 _ _ _ (by simp only [getO]; exact gP _ _) rfl
       exact i2_6 _ (vs ++ [.ref σ1.length]) (sC (s_if_t hc rfl (sC (s_expr (e_append (eL rfl) ⟨vs, t2⟩ tp (pG q2 t2) (by lia))) sN)) sN) (pre_set (t1.trans q2) (Nat.le_refl _) _) (get_set (pG q2 t2)) (((t4.pre q2).snoc mv).set (pG q2 t2)) ((Ex.of_pre q2).trans .of_set) (by simp)
     · rw [show (decide (x = p) && !closeA F s p) = false by
        cases hcc : closeA F s p <;> simp [hcc] at hg ⊢
        exact hg] at hc
       simp only [if_neg hg]
       refine x2_6 (st_app (ns := ns) (n := n) (k := k) (a := 0) (b := s) (c := p) (d := x) (r := σ.length) (vs := vs) (oe := .loc 7) (m := [some sh, some (.int k), some zone, some place, some (.int side), some (.int s), some (.int p), some (.int w), some (.ref σ.length), some (.int x)]) S Z (Nat.le_refl _) t1 t2 t3 t4 rfl rfl rfl rfl rfl (es := .cons (.lit (.int 0)) (.cons (.loc 5) (.cons (.loc 6) (.cons (.loc 9) .nil)))) (fun _ => eC eI (eC (eL rfl) (eC (eL rfl) (eC (eL rfl) eN)))) (fun _ => eL rfl)) fun σ2 vs' z1 z2 z3 z4 z5 z6 => ?_
       refine i2_6 σ2 vs' (sC (s_if_f hc rfl (sC z1 sN)) sN) z2 z3 ?_ z5 z6
       cases hst : standsA F R k zl (0, s, p, x) <;> simpa [hst] using z4)) fun σ' vs u' e r1 r2 r3 r4 r5 => ?_
   refine zk ?_; clear zk
   exact i3_4 σ.length σ' vs r1 ((phi_eq (fn := f_law_moves) rfl _ _).trans (run_ret (m := [some sh, some (.int k), some zone, some place, none, none, none, none, none, none]) rfl rfl (sC un (sC st8 (ss_stop (s_if_t c4' rfl (sC (s_for ea (iter_list (by simp only [listOf, getO, ha]; rfl)) e) (ss_ret (eL rfl)))) (fun h => by cases h)))))) r2 (by simpa using r3)
 · rw [if_neg h1]
   rw [show decide (side = 1) = false by simpa using h1] at c4'
   refine cps fun _ zk => ?_
   refine x1_3 (around s 5 rfl) fun σa qa ea ha => ?_
   have hx : σa[σ.length]? = some (.list []) := pG qa (gP _ _)
   have hml := metA_len (F := F) (R := R) (sq := s) (reach := 1) (ml := []) wayL
   have hml2 : (metA F R s wayL 1 []).length <= 8 := by simpa [wayL] using hml
   refine x3_6 (goals_loop (ns := ns) (n := n) (σ0 := σ) (σa := σa) (a := σ.length + 2) (r := σ.length) (l := metA F R s wayL 1 []) (l0 := []) (vs0 := [])
    (body := .cons (.ife (.call 29 (.cons (.loc 0) (.cons (.loc 1) (.cons (.loc 2) (.cons (.tup (.cons (.lit (.int 1)) (.cons (.loc 9) (.cons (.loc 6) (.cons (.loc 7) .nil))))) .nil))))) (.cons (.expr (.append (.loc 8) (.tup (.cons (.loc 5) (.cons (.loc 9) (.cons (.tup (.cons (.lit (.int 1)) (.cons (.loc 9) (.cons (.loc 6) (.cons (.loc 7) .nil))))) .nil)))))) .nil) .nil) .nil)
    (m8 := [some sh, some (.int k), some zone, some place, some (.int side), some (.int s), some (.int p), some (.int w), some (.ref σ.length)])
    (fun gl => if standsA F R k zl (1, gl, p, w) then some (some (1, gl, p, w)) else none)
    (p1.trans qa) ha (by and_intros) hx .nil (by simp; lia) rfl none (by
     intro x σ1 vs lx t1 t2 t3 t4
     refine x2_6 (st_app (ns := ns) (n := n) (k := k) (a := 1) (b := x) (c := p) (d := w) (r := σ.length) (vs := vs) (oe := .loc 5) (m := [some sh, some (.int k), some zone, some place, some (.int side), some (.int s), some (.int p), some (.int w), some (.ref σ.length), some (.int x)]) S Z (Nat.le_refl _) t1 t2 t3 t4 rfl rfl rfl rfl rfl (es := .cons (.lit (.int 1)) (.cons (.loc 9) (.cons (.loc 6) (.cons (.loc 7) .nil)))) (fun _ => eC eI (eC (eL rfl) (eC (eL rfl) (eC (eL rfl) eN)))) (fun _ => eL rfl)) fun σ2 vs' z1 z2 z3 z4 z5 z6 => ?_
     refine i2_6 σ2 vs' (sC z1 sN) z2 z3 ?_ z5 z6
     cases hst : standsA F R k zl (1, x, p, w) <;> simpa [hst] using z4)) fun σb vs u' e r1 r2 r3 r4 r5 => ?_
   have p3 : σb <+: σb ++ [O.list [.int s, .int w]] := pfa ..
   have IM2 : IntsAt (gobj ns) (σb ++ [O.list [.int s, .int w]]) (.ref σb.length) [s, w] := by
    show listOf _ _ _ = _
    simp only [listOf, getO]
    rw [gP]; rfl
   refine x2_4 (sp_hits (ns := ns) (n := n + 1) (k := k) (sq := p) (S.pre (r1.trans p3)) IM2) fun ah σh hal qh eh hh => ?_
   have hxh : σh[σ.length]? = some (.list vs) := pG (p3.trans qh) r2
   have hne : ah ≠ σ.length := by
    have : σ.length <= σb.length := pre_len r1
    simp at hal
    lia
   have hl2 := hitsA_len (F := F) (R := R) (k := k) (sq := p) (ml := [s, w])
   refine x3_6 (goals_loop (ns := ns) (n := n) (σ0 := σ) (σa := σh) (a := ah) (r := σ.length) (l := hitsA F R k p [s, w]) (vs0 := vs)
    (body := .cons (.ife (.call 29 (.cons (.loc 0) (.cons (.loc 1) (.cons (.loc 2) (.cons (.tup (.cons (.lit (.int 1)) (.cons (.loc 5) (.cons (.loc 9) (.cons (.loc 7) .nil))))) .nil))))) (.cons (.expr (.append (.loc 8) (.tup (.cons (.loc 6) (.cons (.loc 9) (.cons (.tup (.cons (.lit (.int 1)) (.cons (.loc 5) (.cons (.loc 9) (.cons (.loc 7) .nil))))) .nil)))))) .nil) .nil) .nil)
    (m8 := [some sh, some (.int k), some zone, some place, some (.int side), some (.int s), some (.int p), some (.int w), some (.ref σ.length)])
    (fun gl => if standsA F R k zl (1, s, gl, w) then some (some (1, s, gl, w)) else none)
    (r1.trans (p3.trans qh)) hh hne hxh (r3.pre (p3.trans qh)) (by simp at r5; lia) rfl u' (by
     intro x σ1 vs lx t1 t2 t3 t4
     refine x2_6 (st_app (ns := ns) (n := n) (k := k) (a := 1) (b := s) (c := x) (d := w) (r := σ.length) (vs := vs) (oe := .loc 6) (m := [some sh, some (.int k), some zone, some place, some (.int side), some (.int s), some (.int p), some (.int w), some (.ref σ.length), some (.int x)]) S Z (Nat.le_refl _) t1 t2 t3 t4 rfl rfl rfl rfl rfl (es := .cons (.lit (.int 1)) (.cons (.loc 5) (.cons (.loc 9) (.cons (.loc 7) .nil)))) (fun _ => eC eI (eC (eL rfl) (eC (eL rfl) (eC (eL rfl) eN)))) (fun _ => eL rfl)) fun σ2 vs' z1 z2 z3 z4 z5 z6 => ?_
     refine i2_6 σ2 vs' (sC z1 sN) z2 z3 ?_ z5 z6
     cases hst : standsA F R k zl (1, s, x, w) <;> simpa [hst] using z4)) fun σ' vs2 u2 e2 s1 s2 s3 s4 s5 => ?_
   have hcall : ∀ u, vE (gobj ns) (Phi (gobj ns) (n + 3)) (.call 27 (.cons (.loc 0) (.cons (.loc 1) (.cons (.loc 6) (.cons (.list (.cons (.loc 5) (.cons (.loc 7) .nil))) .nil))))) ([some sh, some (.int k), some zone, some place, some (.int side), some (.int s), some (.int p), some (.int w), some (.ref σ.length)] ++ [u]) σb = some (.ref ah, σh) := fun u =>
    e_call (eC (eL rfl) (eC (eL rfl) (eC (eL rfl) (eC (e_list (eC (eL rfl) (eC (eL rfl) eN)) (lb rfl)) eN)))) eh
   refine zk ?_; clear zk
   exact i3_4 σ.length σ' vs2 s1 ((phi_eq (fn := f_law_moves) rfl _ _).trans (run_ret (m := [some sh, some (.int k), some zone, some place, none, none, none, none, none, none]) rfl rfl (sC un (sC st8 (sC (s_if_f c4' rfl sN) (sC (s_for ea (iter_list (by simp only [listOf, getO, ha]; rfl)) e) (sC (s_for (hcall u') (iter_list (by simp only [listOf, getO, hh]; rfl)) e2) (ss_ret (eL rfl))))))))) s2 (by simpa using s3)
end
noncomputable def idxA (z : Int) (pl : Place) : Int := ((pl.1 * z + pl.2.1) * z + pl.2.2.1) * z + pl.2.2.2
noncomputable def wordA (T : List Int) (z : Int) : Option Place -> Int
 | none => -1
 | some pl => T.getD (idxA z pl).toNat 0
noncomputable def InR (z : Int) (pl : Place) : Prop := (pl.1 = 0 \/ pl.1 = 1) /\ (0 <= pl.2.1 /\ pl.2.1 < z) /\ (0 <= pl.2.2.1 /\ pl.2.2.1 < z) /\ (0 <= pl.2.2.2 /\ pl.2.2.2 < z)
theorem mul_le {a b A B : Int} (ha : 0 <= a) (hA : a <= A) (hb : 0 <= b) (hB : b <= B) : 0 <= a * b /\ a * b <= A * B :=
 ⟨Int.mul_nonneg ha hb, Int.mul_le_mul hA hB hb (Int.le_trans ha hA)⟩
theorem idxA_lt {z : Int} {pl : Place} (hz : z <= 12) (h : InR z pl) : 0 <= idxA z pl /\ idxA z pl < 2 * z * z * z := by
 refine cps fun _ zk => ?_
 obtain ⟨side, s, p, w⟩ := pl
 refine x0_4 h fun h1 h2 h3 h4 => ?_
 clear h
 dsimp only at h1 h2 h3 h4
 refine zk ?_; clear zk
 unfold idxA
 dsimp only
 have z0 : 0 <= z := by lia
 have e1 : side * z + s <= 2 * z - 1 := by
  rcases h1 with rfl | rfl <;> simp <;> lia
 have e0 : 0 <= side * z + s := by
  rcases h1 with rfl | rfl <;> simp <;> lia
 have e2 := mul_le e0 e1 z0 (Int.le_refl z)
 have e3 : (side * z + s) * z + p <= 2 * z * z - 1 := by
  have : (2 * z - 1) * z = 2 * z * z - z := by rw [Int.sub_mul]; simp
  lia
 have e4 : 0 <= (side * z + s) * z + p := by lia
 have e5 := mul_le e4 e3 z0 (Int.le_refl z)
 have e6 : (2 * z * z - 1) * z = 2 * z * z * z - z := by rw [Int.sub_mul]; simp
 lia
section
variable {ns : List Int} {n : Nat} {σ σ0 σ1 σ2 : Hp} {Φ : CallF} {m m1 m2 : Frm} {g : List O}
theorem run_index {z side s p w : Int} (h0 : 0 <= z /\ z <= 12) (h : InR z (side, s, p, w)) : runFn g Φ f_index_of [.int z, .int side, .int s, .int p, .int w] σ = some (.int (idxA z (side, s, p, w)), σ) := by
 refine x0_4 h fun h1 h2 h3 h4 => ?_
 clear h
 dsimp only at h1 h2 h3 h4
 have a1 : 0 <= side * z + s /\ side * z + s <= 100 := by rcases h1 with rfl | rfl <;> simp <;> lia
 have a2 := mul_le a1.1 a1.2 h0.1 h0.2
 have a3 := mul_le (a := (side * z + s) * z + p) (A := 10000) (by lia) (by lia) h0.1 h0.2
 refine run_ret (m := [some (.int z), some (.int side), some (.int s), some (.int p), some (.int w)]) rfl rfl (ss_ret (e_bin (e_bin (e_bin (e_bin (e_bin (e_bin (eL rfl) (eL rfl) (ar_mul ?_ ?_)) (eL rfl) ar_add) (eL rfl) (ar_mul ?_ ?_)) (eL rfl) ar_add) (eL rfl) (ar_mul ?_ ?_)) (eL rfl) ar_add))
 all_goals lia
theorem sp_index {z side s p w : Int} (h0 : 0 <= z /\ z <= 12) (h : InR z (side, s, p, w)) : Phi (gobj ns) (n + 1) 15 [.int z, .int side, .int s, .int p, .int w] σ = some (.int (idxA z (side, s, p, w)), σ) := (phi_eq (fn := f_index_of) rfl _ _).trans (run_index h0 h)
theorem for_tup {set : V -> Frm -> Hp -> Option Frm} {body : Frm -> Hp -> Option (Fl × Frm × Hp)} (P : Nat -> Frm -> Hp -> Prop) {l : V} {xs : List V} {fuel : Nat} (hn : xs.length < fuel) {m : Frm} {σ : Hp} (h0 : P 0 m σ) (hl : ∀ i m σ, P i m σ -> tupOf g σ l = some xs)
 (step : ∀ i x m σ, xs[i]? = some x -> P i m σ -> ∃ m1 fl m2 σ2, set x m σ = some m1 /\ body m1 σ = some (fl, m2, σ2) /\ (fl = .next \/ fl = .cont) /\ P (i + 1) m2 σ2) :
 ∃ m' σ', forLoop g set body fuel (.tup l 0) m σ = some (.next, m', σ') /\ P xs.length m' σ' := by
 have key : ∀ k fuel i m σ, k < fuel -> i + k = xs.length -> P i m σ -> ∃ m' σ', forLoop g set body fuel (.tup l i) m σ = some (.next, m', σ') /\ P xs.length m' σ' := by
  intro k
  induction k with
  | zero =>
    intro fuel i m σ hf hk hp
    obtain ⟨f, rfl⟩ : ∃ f, fuel = f + 1 := ⟨fuel - 1, by lia⟩
    have : i = xs.length := by omega
    subst this
    exact i2_2 m σ (by simp [forLoop, next, b1, hl _ _ _ hp]) hp
  | succ k ih =>
    intro fuel i m σ hf hk hp
    obtain ⟨f, rfl⟩ : ∃ f, fuel = f + 1 := ⟨fuel - 1, by lia⟩
    have hi : i < xs.length := by lia
    have hx : xs[i]? = some xs[i] := List.getElem?_eq_getElem hi
    refine cps fun _ zk => ?_
    refine x4_4 (step i _ m σ hx hp) fun m1 fl m2 σ2 e1 e2 e3 hp2 => ?_
    refine x2_2 (ih f (i + 1) m2 σ2 (by lia) (by lia) hp2) fun m' σ' e4 hq => ?_
    refine zk ?_; clear zk
    refine i2_2 m' σ' ?_ hq
    rcases e3 with rfl | rfl <;> simp [forLoop, next, b1, b3, hl _ _ _ hp, hi, e1, e2, e4]
 exact key xs.length fuel 0 m σ hn (by lia) h0
theorem comp_list {elt cond : Frm -> Hp -> Option (V × Hp)} {base : List V} {acc : Nat} (P : Nat -> Hp -> Prop) {l : V} {xs : List V} {fuel : Nat} (hn : xs.length < fuel) {σ : Hp} (h0 : P 0 σ) (hl : ∀ i σ, P i σ -> listOf g σ l = some xs)
 (step : ∀ i x σ, xs[i]? = some x -> P i σ -> ∃ c σ1 t, cond ((base ++ [x]).map some) σ = some (c, σ1) /\ truth c = some t /\ (t = true -> ∃ y σ2 σ3, elt ((base ++ [x]).map some) σ1 = some (y, σ2) /\ push? σ2 acc y = some σ3 /\ P (i + 1) σ3) /\ (t = false -> P (i + 1) σ1)) :
 ∃ σ', compLoop g elt cond base acc fuel (.lst l 0) σ = some σ' /\ P xs.length σ' := by
 have key : ∀ k fuel i σ, k < fuel -> i + k = xs.length -> P i σ -> ∃ σ', compLoop g elt cond base acc fuel (.lst l i) σ = some σ' /\ P xs.length σ' := by
  intro k
  induction k with
  | zero =>
    intro fuel i σ hf hk hp
    obtain ⟨f, rfl⟩ : ∃ f, fuel = f + 1 := ⟨fuel - 1, by lia⟩
    have : i = xs.length := by omega
    subst this
    exact i1_2 σ (by simp [compLoop, next, b1, hl _ _ hp]) hp
  | succ k ih =>
    intro fuel i σ hf hk hp
    obtain ⟨f, rfl⟩ : ∃ f, fuel = f + 1 := ⟨fuel - 1, by lia⟩
    have hi : i < xs.length := by lia
    have hx : xs[i]? = some xs[i] := List.getElem?_eq_getElem hi
    refine x3_4 (step i _ σ hx hp) fun c σ1 t e1 e2 e3 e4 => ?_
    cases t with
    | true =>
      refine cps fun _ zk => ?_
      refine x3_3 (e3 rfl) fun y σ2 σ3 e5 e6 hp2 => ?_
      refine x1_2 (ih f (i + 1) σ3 (by lia) (by lia) hp2) fun σ' e7 hq => ?_
      refine zk ?_; clear zk
      exact i1_2 σ' (by simp only [compLoop, next, b1, hl _ _ hp, hx, e1, e2, b2, e5, e6, if_true, e7]) hq
    | false =>
      refine x1_2 (ih f (i + 1) σ1 (by lia) (by lia) (e4 rfl)) fun σ' e7 hq => ?_
      exact i1_2 σ' (by simp only [compLoop, next, b1, hl _ _ hp, hx, e1, e2, b2, Bool.false_eq_true, if_false, e7]) hq
 exact key xs.length fuel 0 σ hn (by lia) h0
theorem comp_range {elt cond : Frm -> Hp -> Option (V × Hp)} {base : List V} {acc : Nat} (P : Nat -> Hp -> Prop) {n fuel : Nat} (hn : n < fuel) {σ : Hp} (h0 : P 0 σ)
 (step : ∀ i σ, i < n -> P i σ -> ∃ c σ1 t, cond ((base ++ [V.int (i : Nat)]).map some) σ = some (c, σ1) /\ truth c = some t /\ (t = true -> ∃ y σ2 σ3, elt ((base ++ [V.int (i : Nat)]).map some) σ1 = some (y, σ2) /\ push? σ2 acc y = some σ3 /\ P (i + 1) σ3) /\ (t = false -> P (i + 1) σ1)) :
 ∃ σ', compLoop g elt cond base acc fuel (.range 0 1 n) σ = some σ' /\ P n σ' := by
 have key : ∀ k fuel i σ, k < fuel -> i + k = n -> P i σ -> ∃ σ', compLoop g elt cond base acc fuel (.range (i : Nat) 1 k) σ = some σ' /\ P n σ' := by
  intro k
  induction k with
  | zero =>
    intro fuel i σ hf hk hp
    obtain ⟨f, rfl⟩ : ∃ f, fuel = f + 1 := ⟨fuel - 1, by lia⟩
    have : i = n := by omega
    subst this
    exact i1_2 σ (by simp [compLoop, next, b1]) hp
  | succ k ih =>
    intro fuel i σ hf hk hp
    obtain ⟨f, rfl⟩ : ∃ f, fuel = f + 1 := ⟨fuel - 1, by lia⟩
    refine x3_4 (step i σ (by lia) hp) fun c σ1 t e1 e2 e3 e4 => ?_
    have ex : ((i : Nat) : Int) + 1 = ((i + 1 : Nat) : Int) := by rfl
    cases t with
    | true =>
      refine cps fun _ zk => ?_
      refine x3_3 (e3 rfl) fun y σ2 σ3 e5 e6 hp2 => ?_
      refine x1_2 (ih f (i + 1) σ3 (by lia) (by lia) hp2) fun σ' e7 hq => ?_
      refine zk ?_; clear zk
      exact i1_2 σ' (by simp only [compLoop, next, b1, e1, e2, b2, e5, e6, if_true, ex, e7]) hq
    | false =>
      refine x1_2 (ih f (i + 1) σ1 (by lia) (by lia) (e4 rfl)) fun σ' e7 hq => ?_
      exact i1_2 σ' (by simp only [compLoop, next, b1, e1, e2, b2, Bool.false_eq_true, if_false, ex, e7]) hq
 exact key n fuel 0 σ hn (by lia) h0
theorem push_at {l : Nat} {y : V} {xs : List V} (h : σ[l]? = some (.list xs)) (hl : xs.length < 100000) : push? σ l y = some (σ.set l (.list (xs ++ [y]))) := by
 simp only [push?, listAt?, h, b1, if_pos hl]
end
section
variable {ns : List Int} {n : Nat} {σ σ0 σ1 σ2 : Hp} {Φ : CallF} {m m1 m2 : Frm} {g : List O}
theorem e_len {e : E} {v : V} {xs : List V} (h : vE g Φ e m σ = some (v, σ1)) (hl : listOf g σ1 v = some xs) (hz : xs.length < 1000000) : vE g Φ (.blt .len (.cons e .nil)) m σ = some (.int xs.length, σ1) := by
 refine e_blt (eC h eN) ?_
 simp only [blt, oneV, b1, hl, if_pos hz]
structure TableAt (g : List O) (σ : Hp) (v : V) (T : List Int) (z : Nat) : Prop where
 at_ : IntsAt g σ v T
 len : T.length = 2 * z * z * z
theorem TableAt.pre {v : V} {T : List Int} {z : Nat} (h : TableAt g σ v T z) (p : σ <+: σ1) : TableAt g σ1 v T z := ⟨h.at_.pre p, h.len⟩
theorem getO_of_list {v : V} {xs : List V} (h : listOf g σ v = some xs) : getO g σ v = some (.list xs) := by
 unfold listOf at h
 split at h
 · rename_i q; refine so1 h ?_; exact q
 · exact nn h
theorem cube_le {z : Nat} (h : z <= 12) : 2 * z * z * z <= 3456 := by
 have h1 : 2 * z <= 2 * 12 := by lia
 have h2 : 2 * z * z <= 2 * 12 * 12 := Nat.mul_le_mul h1 h
 exact Nat.mul_le_mul h2 h
theorem sp_probe {geo table : V} {G : Geo} {T : List Int} {k : Int} {pl : Place} (GA : GeoAt σ geo G) (TA : TableAt (gobj ns) σ table T G.z) (hz : G.z <= 12) (hk : 2 <= k /\ k <= 5) (h : InR G.z pl) :
 ∃ σ', σ <+: σ' /\ Phi (gobj ns) (n + 2) 23 [geo, table, .int k, .int pl.1, .int pl.2.1, .int pl.2.2.1, .int pl.2.2.2] σ = some (.int (wordA T G.z (some pl)), σ') := by
 refine cps fun _ zk => ?_
 obtain ⟨side, s, p, w⟩ := pl
 have hR := h
 refine x0_4 h fun h1 h2 h3 h4 => ?_
 clear h
 refine zk ?_; clear zk
 dsimp only at h1 h2 h3 h4 ⊢
 have hc := cube_le hz
 have hlen : T.length < 1000000 := by rw [TA.len]; omega
 have zi : (0 : Int) <= G.z /\ (G.z : Int) <= 12 := by lia
 have m1 : arith .mul 2 (G.z : Int) = some (2 * G.z) := ar_mul (by exact lb rfl) (by lia)
 have b2 := mul_le (a := 2 * (G.z : Int)) (A := 24) (by and_intros) (by lia) zi.1 zi.2
 have m2 : arith .mul (2 * (G.z : Int)) G.z = some (2 * G.z * G.z) := ar_mul (by lia) (by lia)
 have b3 := mul_le (a := 2 * (G.z : Int) * G.z) (A := 288) (by and_intros) (by and_intros) zi.1 zi.2
 have m3 : arith .mul (2 * (G.z : Int) * G.z) G.z = some (2 * G.z * G.z * G.z) := ar_mul (by lia) (by lia)
 have f0 : ∀ (u v : Option V), execS (gobj ns) (Phi (gobj ns) (n + 1)) (.asg 7 (.attr (.loc 0) 2)) [some geo, some table, some (.int k), some (.int side), some (.int s), some (.int p), some (.int w), u, v] σ = some (.next, [some geo, some table, some (.int k), some (.int side), some (.int s), some (.int p), some (.int w), some (.int G.z), v], σ) :=
  fun u v => sA (e_attr (eL rfl) GA.size) (lb rfl)
 have c1 : vE (gobj ns) (Phi (gobj ns) (n + 1)) (.or (.cmp .lt (.loc 2) (.lit (.int 2))) (.cmp .gt (.loc 2) (.lit (.int 5)))) [some geo, some table, some (.int k), some (.int side), some (.int s), some (.int p), some (.int w), some (.int G.z), none] σ = some (.bool (decide (k < 2) || decide (5 < k)), σ) :=
  e_or_b (e_cmp (eL rfl) eI rfl) (e_cmp (eL rfl) eI rfl)
 rw [show (decide (k < 2) || decide (5 < k)) = false by simp; omega] at c1
 have c2 : vE (gobj ns) (Phi (gobj ns) (n + 1)) (.cmp .ne (.blt .len (.cons (.loc 1) .nil)) (.bin .mul (.bin .mul (.bin .mul (.lit (.int 2)) (.loc 7)) (.loc 7)) (.loc 7))) [some geo, some table, some (.int k), some (.int side), some (.int s), some (.int p), some (.int w), some (.int G.z), none] σ = some (.bool (decide (((T.map V.int).length : Int) ≠ 2 * G.z * G.z * G.z)), σ) :=
  e_cmp (e_len (eL rfl) TA.at_ (by simpa using hlen)) (e_bin (e_bin (e_bin eI (eL rfl) m1) (eL rfl) m2) (eL rfl) m3) cmp_neI
 rw [show decide (((T.map V.int).length : Int) ≠ 2 * G.z * G.z * G.z) = false by
  have : ((T.map V.int).length : Int) = 2 * G.z * G.z * G.z := by rw [List.length_map, TA.len]; simp
  simp only [this]; simp] at c2
 have c3 : vE (gobj ns) (Phi (gobj ns) (n + 1)) (.and (.cmp .ne (.loc 3) (.lit (.int 0))) (.cmp .ne (.loc 3) (.lit (.int 1)))) [some geo, some table, some (.int k), some (.int side), some (.int s), some (.int p), some (.int w), some (.int G.z), none] σ = some (.bool (decide (side ≠ 0) && decide (side ≠ 1)), σ) :=
  e_and_b (e_cmp (eL rfl) eI cmp_neI) (e_cmp (eL rfl) eI cmp_neI)
 rw [show (decide (side ≠ 0) && decide (side ≠ 1)) = false by rcases h1 with rfl | rfl <;> simp] at c3
 have p1 : σ <+: σ ++ [O.tup [.int s, .int p, .int w]] := pfa ..
 obtain ⟨m', σ', e, rfl, u, rfl⟩ := for_tup (g := gobj ns) (set := fun v m _ => setLoc 8 v m) (body := fun m σ => execSs (gobj ns) (Phi (gobj ns) (n + 1)) (.cons (.ife (.or (.cmp .lt (.loc 8) (.lit (.int 0))) (.cmp .ge (.loc 8) (.loc 7))) (.cons .stuck .nil) .nil) .nil) m σ) (l := .ref σ.length) (xs := [.int s, .int p, .int w]) (fuel := loopFuel)
  (fun i m σ1 => σ1 = σ ++ [O.tup [.int s, .int p, .int w]] /\ ∃ u, m = [some geo, some table, some (.int k), some (.int side), some (.int s), some (.int p), some (.int w), some (.int G.z), u]) (fuel_lt (by simp))
  (m := [some geo, some table, some (.int k), some (.int side), some (.int s), some (.int p), some (.int w), some (.int G.z), none]) ⟨rfl, none, rfl⟩ (fun i m σ1 h => by rw [h.1]; simp [tupOf, getO]) (by
   rintro i x m σ1 hix ⟨hσ, u, rfl⟩
   subst hσ
   have : ∃ y : Int, x = .int y /\ 0 <= y /\ y < G.z := by
    match i, hix with
    | 0, q => cases q; exact i1_2 _ rfl h2
    | 1, q => cases q; exact i1_2 _ rfl h3
    | 2, q => cases q; exact i1_2 _ rfl h4
    | n + 3, q => exact nn q
   refine x1_3 this fun y y4 y0 y1 => ?_
   clear this
   subst y4
   have c : vE (gobj ns) (Phi (gobj ns) (n + 1)) (.or (.cmp .lt (.loc 8) (.lit (.int 0))) (.cmp .ge (.loc 8) (.loc 7))) [some geo, some table, some (.int k), some (.int side), some (.int s), some (.int p), some (.int w), some (.int G.z), some (.int y)] (σ ++ [O.tup [.int s, .int p, .int w]]) = some (.bool (decide (y < 0) || decide ((G.z : Int) <= y)), σ ++ [O.tup [.int s, .int p, .int w]]) :=
    e_or_b (e_cmp (eL rfl) eI rfl) (e_cmp (eL rfl) (eL rfl) rfl)
   rw [show (decide (y < 0) || decide ((G.z : Int) <= y)) = false by simp; and_intros] at c
   exact i4_1 _ (.next) _ _ ⟨rfl, (sC (s_if_f c rfl sN) sN), (.inl rfl), rfl, ⟨_, rfl⟩⟩)
 have ht : vE (gobj ns) (Phi (gobj ns) (n + 1)) (.tup (.cons (.loc 4) (.cons (.loc 5) (.cons (.loc 6) .nil)))) [some geo, some table, some (.int k), some (.int side), some (.int s), some (.int p), some (.int w), some (.int G.z), none] σ = some (.ref σ.length, σ ++ [O.tup [.int s, .int p, .int w]]) :=
  e_tup (eC (eL rfl) (eC (eL rfl) (eC (eL rfl) eN))) (lb rfl)
 have hi : iter (gobj ns) (σ ++ [O.tup [.int s, .int p, .int w]]) (.ref σ.length) = some (.tup (.ref σ.length) 0) := by simp [iter, getO]
 obtain ⟨i0, i1⟩ := idxA_lt zi.2 hR
 have ic : (2 * (G.z : Int) * G.z * G.z) = ((2 * G.z * G.z * G.z : Nat) : Int) := by simp
 have hlt : (idxA G.z (side, s, p, w)).toNat < T.length := by rw [TA.len]; lia
 have ix : idx (gobj ns) (σ ++ [O.tup [.int s, .int p, .int w]]) table (.int (idxA G.z (side, s, p, w))) = some (.int (wordA T G.z (some (side, s, p, w)))) := by
  have : idxA G.z (side, s, p, w) = ((idxA G.z (side, s, p, w)).toNat : Int) := by lia
  rw [this]
  refine idx_list (getO_of_list (TA.at_.pre p1)) ?_ (by lia)
  rw [List.getElem?_map, getD_get (d := 0) hlt]; rfl
 exact i1_2 _ p1 ((phi_eq (fn := f_probe) rfl _ _).trans (run_ret (m := [some geo, some table, some (.int k), some (.int side), some (.int s), some (.int p), some (.int w), none, none]) rfl rfl (sC (f0 _ _) (sC (s_if_f c1 rfl sN) (sC (s_if_f c2 rfl sN) (sC (s_if_f c3 rfl sN) (sC (s_for ht hi e)
  (ss_ret (eX (eL rfl) (e_call (eC (eL rfl) (eC (eL rfl) (eC (eL rfl) (eC (eL rfl) (eC (eL rfl) eN))))) (sp_index zi hR)) ix)))))))))
theorem PlaceAt.e {v : V} {pl : Place} (h : PlaceAt g σ v pl) {i j : Nat} {x : V} (hm : m[i]? = some (some v)) (hx : [V.int pl.1, V.int pl.2.1, V.int pl.2.2.1, V.int pl.2.2.2][j]? = some x) (hj : j < 2 ^ 62) : vE g Φ (.idx (.loc i) (.lit (.int j))) m σ = some (x, σ) := eX (eL hm) eI (idx_tup (i := j) h hx hj)
theorem PlaceAt.nn {v : V} {pl : Place} (h : PlaceAt g σ v pl) : cmpV g .is_ v .none σ = some false := by
 cases v with
 | ref a => rfl
 | gref a => rfl
 | _ => cases h
theorem sp_word {geo table r : V} {G : Geo} {T : List Int} {k : Int} {mv : Option Place} (GA : GeoAt σ geo G) (TA : TableAt (gobj ns) σ table T G.z) (hz : G.z <= 12) (hk : 2 <= k /\ k <= 5) (hr : match mv with | none => r = .none | some pl => PlaceAt (gobj ns) σ r pl) (h : ∀ pl, mv = some pl -> InR G.z pl) :
 ∃ σ', σ <+: σ' /\ Phi (gobj ns) (n + 3) 31 [geo, table, .int k, r] σ = some (.int (wordA T G.z mv), σ') := by
 cases mv with
 | none =>
   subst hr
   exact i1_2 σ (List.prefix_refl _) ((phi_eq (fn := f_law_word) rfl _ _).trans (run_ret (m := [some geo, some table, some (.int k), some .none]) rfl rfl (ss_stop (s_if_t (e_cmp (r := true) (eL rfl) eI rfl) rfl (ss_ret (e_neg eI))) (fun h => by cases h))))
 | some pl =>
   refine x1_2 (sp_probe (ns := ns) (n := n) GA TA hz hk (h pl rfl)) fun σ' p e => ?_
   exact i1_2 σ' p ((phi_eq (fn := f_law_word) rfl _ _).trans (run_ret (m := [some geo, some table, some (.int k), some r]) rfl rfl (sC (s_if_f (e_cmp (eL rfl) eI (PlaceAt.nn hr)) rfl sN) (ss_ret (e_call (eC (eL rfl) (eC (eL rfl) (eC (eL rfl) (eC (PlaceAt.e hr (j := 0) rfl rfl (by decide)) (eC (PlaceAt.e hr (j := 1) rfl rfl (by decide)) (eC (PlaceAt.e hr (j := 2) rfl rfl (by decide)) (eC (PlaceAt.e hr (j := 3) rfl rfl (by decide)) eN))))))) e)))))
end
noncomputable def matedA (F R k : Int) (zl : List Int) (pl : Place) (mv : List (Option Place)) : Bool := decide (pl.1 = 1) && (mv.isEmpty && !standsA F R k zl (0, pl.2.1, pl.2.2.1, pl.2.2.2))
noncomputable def minL : List Int -> Int
 | [] => 0
 | x :: r => minI x r
noncomputable def maxL : List Int -> Int
 | [] => 0
 | x :: r => maxI x r
noncomputable def wantA (side : Int) (mated : Bool) (mv : List (Option Place)) (words : List Int) : Int :=
 let won := words.filter fun x => decide (0 <= x)
 if mated = true then 0
 else if side = 0 /\ won ≠ [] then minL won + 1
 else if side = 1 /\ mv ≠ [] /\ won.length = words.length then maxL won + 1
 else -1
noncomputable def rightA (G : Geo) (T : List Int) (k : Int) (zl : List Int) (pl : Place) : Bool :=
 let told := wordA T G.z (some pl)
 if standsA G.F G.R k zl pl = false then decide (told = -2)
 else
  let mv := movesA G.F G.R k zl pl
  let words := mv.map (wordA T G.z)
  decide (told = wantA pl.1 (matedA G.F G.R k zl pl mv) mv words)
section
variable {ns : List Int} {n : Nat} {σ σ0 σ1 σ2 : Hp} {Φ : CallF} {m m1 m2 : Frm} {g : List O}
theorem cmp_eqE {v : V} {xs : List V} {a : Nat} (h : listOf g σ v = some xs) (h2 : σ[a]? = some (.list [])) : cmpV g .eq v (.ref a) σ = some xs.isEmpty := by
 have e2 : listOf g σ (.ref a) = some [] := by simp [listOf, getO, h2]
 have q : (b1 (listOf g σ v) fun xs => b1 (listOf g σ (.ref a)) fun ys => if ys.length = 0 then some xs.isEmpty else none) = some xs.isEmpty := b1_of h (b1_of e2 rfl)
 cases v <;> exact q
theorem cmp_neE {v : V} {xs : List V} {a : Nat} (h : listOf g σ v = some xs) (h2 : σ[a]? = some (.list [])) : cmpV g .ne v (.ref a) σ = some (!xs.isEmpty) := by
 have e2 : listOf g σ (.ref a) = some [] := by simp [listOf, getO, h2]
 have q : (b1 (listOf g σ v) fun xs => b1 (listOf g σ (.ref a)) fun ys => if ys.length = 0 then some (!xs.isEmpty) else none) = some (!xs.isEmpty) := b1_of h (b1_of e2 rfl)
 cases v <;> exact q
theorem e_eqE {e : E} {v : V} {xs : List V} (h : vE g Φ e m σ = some (v, σ)) (hl : listOf g σ v = some xs) : vE g Φ (.cmp .eq e (.list .nil)) m σ = some (.bool xs.isEmpty, σ ++ [O.list []]) :=
 e_cmp h (e_list eN (lb rfl)) (cmp_eqE (pre_listOf (pfa ..) hl) (gP _ _))
theorem e_neE {e : E} {v : V} {xs : List V} (h : vE g Φ e m σ = some (v, σ)) (hl : listOf g σ v = some xs) : vE g Φ (.cmp .ne e (.list .nil)) m σ = some (.bool (!xs.isEmpty), σ ++ [O.list []]) :=
 e_cmp h (e_list eN (lb rfl)) (cmp_neE (pre_listOf (pfa ..) hl) (gP _ _))
theorem sp_mated {sh zone place mvr : V} {F R k : Int} {zl : List Int} {pl : Place} {vs : List V} {mv : List (Option Place)} (S : ShapeAt (gobj ns) σ sh F R) (Z : IntsAt (gobj ns) σ zone zl) (P : PlaceAt (gobj ns) σ place pl) (L : listOf (gobj ns) σ mvr = some vs) (M : vs.length = mv.length) :
 ∃ σ', σ <+: σ' /\ Phi (gobj ns) (n + 4) 32 [sh, .int k, zone, place, mvr] σ = some (.bool (matedA F R k zl pl mv), σ') := by
 have hemp : vs.isEmpty = mv.isEmpty := by cases vs <;> cases mv <;> simp at M ⊢
 have c1 : vE (gobj ns) (Phi (gobj ns) (n + 3)) (.cmp .eq (.idx (.loc 3) (.lit (.int 0))) (.lit (.int 1))) [some sh, some (.int k), some zone, some place, some mvr] σ = some (.bool (decide (pl.1 = 1)), σ) :=
  e_cmp (P.e (i := 3) (j := 0) rfl rfl (by decide)) eI cmp_eqI
 unfold matedA
 cases h1 : decide (pl.1 = 1) with
 | false =>
   rw [h1] at c1
   exact i1_2 σ (List.prefix_refl _) ((phi_eq (fn := f_law_mated) rfl _ _).trans (run_ret (m := [some sh, some (.int k), some zone, some place, some mvr]) rfl rfl (ss_ret (e_and_f c1 rfl))))
 | true =>
   rw [h1] at c1
   have c2 : vE (gobj ns) (Phi (gobj ns) (n + 3)) (.cmp .eq (.loc 4) (.list .nil)) [some sh, some (.int k), some zone, some place, some mvr] σ = some (.bool mv.isEmpty, σ ++ [O.list []]) := by
    rw [<- hemp]; exact e_eqE (eL rfl) L
   cases h2 : mv.isEmpty with
   | false =>
     rw [h2] at c2
     exact i1_2 _ (pfa ..) ((phi_eq (fn := f_law_mated) rfl _ _).trans (run_ret (m := [some sh, some (.int k), some zone, some place, some mvr]) rfl rfl (ss_ret (e_and_t c1 rfl (e_and_f c2 rfl)))))
   | true =>
     rw [h2] at c2
     have p1 : σ <+: σ ++ [O.list []] := pfa ..
     have p2 : σ ++ [O.list []] <+: σ ++ [O.list []] ++ [O.tup [.int 0]] := pfa ..
     have p3 : σ ++ [O.list []] ++ [O.tup [.int 0]] <+: σ ++ [O.list []] ++ [O.tup [.int 0]] ++ [O.tup [.int pl.2.1, .int pl.2.2.1, .int pl.2.2.2]] := pfa ..
     have p4 : σ ++ [O.list []] ++ [O.tup [.int 0]] ++ [O.tup [.int pl.2.1, .int pl.2.2.1, .int pl.2.2.2]] <+: σ ++ [O.list []] ++ [O.tup [.int 0]] ++ [O.tup [.int pl.2.1, .int pl.2.2.1, .int pl.2.2.2]] ++ [O.tup [.int 0, .int pl.2.1, .int pl.2.2.1, .int pl.2.2.2]] := pfa ..
     have hpl := PlaceAt.pre P (p1.trans p2)
     have sf : vE (gobj ns) (Phi (gobj ns) (n + 3)) (.sfrom (.loc 3) (.lit (.int 1))) [some sh, some (.int k), some zone, some place, some mvr] (σ ++ [O.list []] ++ [O.tup [.int 0]]) = some (.ref (σ ++ [O.list []] ++ [O.tup [.int 0]]).length, σ ++ [O.list []] ++ [O.tup [.int 0]] ++ [O.tup [.int pl.2.1, .int pl.2.2.1, .int pl.2.2.2]]) := by
      unfold PlaceAt at hpl
      refine e_sfrom (eL rfl) eI ?_
      simp only [sfrom, hpl]
      simp
     have g1 : getO (gobj ns) (σ ++ [O.list []] ++ [O.tup [.int 0]] ++ [O.tup [.int pl.2.1, .int pl.2.2.1, .int pl.2.2.2]]) (.ref (σ ++ [O.list []]).length) = some (.tup [.int 0]) := pG p3 (gP _ _)
     have g2 : getO (gobj ns) (σ ++ [O.list []] ++ [O.tup [.int 0]] ++ [O.tup [.int pl.2.1, .int pl.2.2.1, .int pl.2.2.2]]) (.ref (σ ++ [O.list []] ++ [O.tup [.int 0]]).length) = some (.tup [.int pl.2.1, .int pl.2.2.1, .int pl.2.2.2]) := gP _ _
     have ad : vE (gobj ns) (Phi (gobj ns) (n + 3)) (.bin .add (.tup (.cons (.lit (.int 0)) .nil)) (.sfrom (.loc 3) (.lit (.int 1)))) [some sh, some (.int k), some zone, some place, some mvr] (σ ++ [O.list []]) =
      some (.ref (σ ++ [O.list []] ++ [O.tup [.int 0]] ++ [O.tup [.int pl.2.1, .int pl.2.2.1, .int pl.2.2.2]]).length, σ ++ [O.list []] ++ [O.tup [.int 0]] ++ [O.tup [.int pl.2.1, .int pl.2.2.1, .int pl.2.2.2]] ++ [O.tup [.int 0, .int pl.2.1, .int pl.2.2.1, .int pl.2.2.2]]) := by
      have e1 : vE (gobj ns) (Phi (gobj ns) (n + 3)) (.tup (.cons (.lit (.int 0)) .nil)) [some sh, some (.int k), some zone, some place, some mvr] (σ ++ [O.list []]) = some (.ref (σ ++ [O.list []]).length, σ ++ [O.list []] ++ [O.tup [.int 0]]) := e_tup (eC eI eN) (lb rfl)
      exact e_binop e1 sf (b1_of (tupOf_of g1) (b1_of (tupOf_of g2) (if_pos ⟨⟨lb rfl, lb rfl⟩, lb rfl⟩)))
     have pl2 : PlaceAt (gobj ns) (σ ++ [O.list []] ++ [O.tup [.int 0]] ++ [O.tup [.int pl.2.1, .int pl.2.2.1, .int pl.2.2.2]] ++ [O.tup [.int 0, .int pl.2.1, .int pl.2.2.1, .int pl.2.2.2]]) (.ref (σ ++ [O.list []] ++ [O.tup [.int 0]] ++ [O.tup [.int pl.2.1, .int pl.2.2.1, .int pl.2.2.2]]).length) (0, pl.2.1, pl.2.2.1, pl.2.2.2) := gP _ _
     have pa := p1.trans (p2.trans (p3.trans p4))
     refine x1_2 (sp_stands (ns := ns) (n := n) (k := k) (S.pre pa) (Z.pre pa) pl2) fun σ' q e => ?_
     exact i1_2 σ' (pa.trans q) ((phi_eq (fn := f_law_mated) rfl _ _).trans (run_ret (m := [some sh, some (.int k), some zone, some place, some mvr]) rfl rfl (ss_ret (e_and_t c1 rfl (e_and_t c2 rfl (e_not (e_call (eC (eL rfl) (eC (eL rfl) (eC (eL rfl) (eC ad eN)))) e) rfl))))))
end
theorem metDir_in {F R dx dy : Int} {ml : List Int} : ∀ (n : Nat) (x y g : Int), g ∈ metDir F R dx dy ml n x y -> 0 <= g /\ g < F * R
 | 0, _, _, g, h => by simp [metDir] at h
 | n + 1, x, y, g, h => by
   simp only [metDir] at h
   split at h
   · rename_i c
     rcases List.mem_cons.mp h with rfl | h
     · have h1 : y * F <= (R - 1) * F := Int.mul_le_mul_of_nonneg_right (by lia) (by lia)
       have h2 : 0 <= y * F := Int.mul_nonneg (by lia) (by lia)
       have h3 : (R - 1) * F = F * R - F := by rw [Int.sub_mul, Int.mul_comm R F]; simp
       omega
     · split at h
       · cases h
       · exact metDir_in n _ _ g h
   · cases h
theorem metA_in {F R sq : Int} {ws : List (Int × Int)} {reach : Nat} {ml : List Int} {g : Int} (h : g ∈ metA F R sq ws reach ml) : 0 <= g /\ g < F * R := by
 unfold metA at h
 refine x1_2 (List.mem_flatMap.mp h) fun p _ h => ?_
 exact metDir_in _ _ _ _ h
theorem hitsA_in {F R k sq : Int} {ml : List Int} {g : Int} (h : g ∈ hitsA F R k sq ml) : 0 <= g /\ g < F * R := by
 unfold hitsA at h
 split at h
 · exact metA_in h
 · split at h
   · exact metA_in h
   · split at h
     · exact metA_in h
     · exact metA_in h
theorem movesA_in {F R k z : Int} (hz : F * R = z) {zl : List Int} {pl q : Place} (h : InR z pl) (hq : some q ∈ movesA F R k zl pl) : InR z q := by
 refine cps fun _ zk => ?_
 obtain ⟨side, s, p, w⟩ := pl
 refine x0_4 h fun h1 h2 h3 h4 => ?_
 clear h
 dsimp only at h1 h2 h3 h4
 unfold movesA at hq
 dsimp only at hq
 refine zk ?_; clear zk
 split at hq
 · refine x1_2 (List.mem_filterMap.mp hq) fun x hx hq => ?_
   have hr := metA_in hx
   split at hq
   · cases hq
   · split at hq
     · cases hq; exact ⟨.inl rfl, h2, h3, by dsimp only; omega⟩
     · exact nn hq
 · rcases List.mem_append.mp hq with hq | hq
   · refine x1_2 (List.mem_filterMap.mp hq) fun x hx hq => ?_
     have hr := metA_in hx
     split at hq
     · cases hq; exact ⟨.inr rfl, by dsimp only; omega, h3, h4⟩
     · exact nn hq
   · refine x1_2 (List.mem_filterMap.mp hq) fun x hx hq => ?_
     have hr := hitsA_in hx
     split at hq
     · cases hq; exact ⟨.inr rfl, h2, by dsimp only; omega, h4⟩
     · exact nn hq
theorem movesA_len {F R k : Int} {zl : List Int} {pl : Place} : (movesA F R k zl pl).length <= 80 := by
 unfold movesA
 split
 · refine Nat.le_trans (List.length_filterMap_le ..) (Nat.le_trans (metA_len _) (by decide))
 · rw [List.length_append]
   refine Nat.le_trans (Nat.add_le_add (List.length_filterMap_le ..) (List.length_filterMap_le ..)) ?_
   have h3 := metA_len (F := F) (R := R) (sq := pl.2.1) (reach := 1) (ml := []) wayL
   have h4 := hitsA_len (F := F) (R := R) (k := k) (sq := pl.2.2.1) (ml := [pl.2.1, pl.2.2.2])
   have h5 : wayL.length * 1 = 8 := rfl
   lia
section
variable {ns : List Int} {n : Nat} {σ σ0 σ1 σ2 : Hp} {Φ : CallF} {m m1 m2 : Frm} {g : List O}
theorem e_compIf {caps : List Nat} {elt it cond : E} {v : V} {base : List V} {ii : It} (h : vE g Φ it m σ = some (v, σ1)) (hi : iter g σ1 v = some ii) (hc : capsOf m caps = some base) (hl : compLoop g (fun m σ => vE g Φ elt m σ) (fun m σ => vE g Φ cond m σ) base σ1.length loopFuel ii (σ1 ++ [O.list []]) = some σ2) :
 vE g Φ (.compIf caps elt it cond) m σ = some (.ref σ1.length, σ2) := by
 exact b2_of h (b1_of hi (b1_of hc (b1_of hl rfl)))
theorem e_comp {caps : List Nat} {elt it : E} {v : V} {base : List V} {ii : It} (h : vE g Φ it m σ = some (v, σ1)) (hi : iter g σ1 v = some ii) (hc : capsOf m caps = some base) (hl : compLoop g (fun m σ => vE g Φ elt m σ) (fun _ σ => some (.bool true, σ)) base σ1.length loopFuel ii (σ1 ++ [O.list []]) = some σ2) :
 vE g Φ (.comp caps elt it) m σ = some (.ref σ1.length, σ2) := by
 exact b2_of h (b1_of hi (b1_of hc (b1_of hl rfl)))
theorem e_min {e : E} {v : V} {x : Int} {r : List Int} (h : vE g Φ e m σ = some (v, σ1)) (hl : IntsAt g σ1 v (x :: r)) : vE g Φ (.blt .min (.cons e .nil)) m σ = some (.int (minI x r), σ1) := by
 refine e_blt (eC h eN) ?_
 unfold IntsAt at hl
 simp only [blt, oneV, intsAt, b1, hl, intsOf_map, minO, maxO]
theorem e_max {e : E} {v : V} {x : Int} {r : List Int} (h : vE g Φ e m σ = some (v, σ1)) (hl : IntsAt g σ1 v (x :: r)) : vE g Φ (.blt .max (.cons e .nil)) m σ = some (.int (maxI x r), σ1) := by
 refine e_blt (eC h eN) ?_
 unfold IntsAt at hl
 simp only [blt, oneV, intsAt, b1, hl, intsOf_map, minO, maxO]
theorem filter_take {α : Type} {l : List α} {p : α -> Bool} {i : Nat} {x : α} (h : l[i]? = some x) : (l.take (i + 1)).filter p = (l.take i).filter p ++ (if p x then [x] else []) := by
 rw [List.take_succ, h, List.filter_append]
 cases hp : p x <;> simp [hp]
theorem sp_want {sh zone place mvr wr : V} {F R k : Int} {zl wl : List Int} {pl : Place} {vs : List V} {mv : List (Option Place)} (S : ShapeAt (gobj ns) σ sh F R) (Z : IntsAt (gobj ns) σ zone zl) (P : PlaceAt (gobj ns) σ place pl) (L : listOf (gobj ns) σ mvr = some vs) (M : vs.length = mv.length) (W : IntsAt (gobj ns) σ wr wl) (hw : wl.length < 1000) (hm : mv.length < 1000) (hwm : wl.length = mv.length) :
 ∃ σ', σ <+: σ' /\ Phi (gobj ns) (n + 5) 33 [sh, .int k, zone, place, mvr, wr] σ = some (.int (wantA pl.1 (matedA F R k zl pl mv) mv wl), σ') := by
 have p0 : σ <+: σ ++ [O.list []] := pfa ..
 refine cps fun _ zk => ?_
 refine x1_3 (comp_list (g := gobj ns) (elt := fun m σ => vE (gobj ns) (Phi (gobj ns) (n + 4)) (.loc 0) m σ) (cond := fun m σ => vE (gobj ns) (Phi (gobj ns) (n + 4)) (.cmp .ge (.loc 0) (.lit (.int 0))) m σ) (base := []) (acc := σ.length) (l := wr) (xs := wl.map .int) (fuel := loopFuel)
  (fun i σ1 => σ <+: σ1 /\ σ1[σ.length]? = some (.list (((wl.take i).filter fun x => decide (0 <= x)).map .int))) (fuel_lt (by simp; lia)) (σ := σ ++ [O.list []]) ⟨p0, by simp⟩ (fun i σ1 h => W.pre h.1) (by
   rintro i x σ1 hix ⟨q1, q2⟩
   rw [List.getElem?_map, Option.map_eq_some_iff] at hix
   refine x1_2 hix fun x _ zz1 => ?_
   clear hix; rename_i hix
   subst zz1
   refine i3_4 (.bool (decide (0 <= x))) σ1 (decide (0 <= x)) (e_cmp (eL rfl) eI rfl) rfl (fun ht => ?_) (fun ht => ?_)
   · have hlen : (((wl.take i).filter fun x => decide (0 <= x)).map V.int).length < 100000 := by
      rw [List.length_map]
      have := List.length_filter_le (fun x => decide (0 <= x)) (wl.take i)
      rw [List.length_take] at this
      omega
     refine i3_4 (.int x) σ1 _ (eL rfl) (push_at q2 hlen) (pre_set q1 (Nat.le_refl _) _) ?_
     rw [get_set q2, filter_take hix, ht]; simp
   · refine ⟨q1, ?_⟩
     rw [q2, filter_take hix, ht]; simp)) fun σa ea pa xa => ?_
 rw [List.length_map, List.take_length] at xa
 have IW : IntsAt (gobj ns) σa (.ref σ.length) (wl.filter fun x => decide (0 <= x)) := by
  show listOf _ _ _ = _
  simp only [listOf, getO, xa]
 refine x1_2 (sp_mated (ns := ns) (n := n) (k := k) (S.pre pa) (Z.pre pa) (PlaceAt.pre P pa) (pre_listOf pa L) M) fun σb pb eb => ?_
 have st0 : execS (gobj ns) (Phi (gobj ns) (n + 4)) (.asg 6 (.compIf [] (.loc 0) (.loc 5) (.cmp .ge (.loc 0) (.lit (.int 0))))) [some sh, some (.int k), some zone, some place, some mvr, some wr, none] σ = some (.next, [some sh, some (.int k), some zone, some place, some mvr, some wr, some (.ref σ.length)], σa) :=
  sA (e_compIf (eL rfl) (iter_list W) rfl ea) (lb rfl)
 have c0 : vE (gobj ns) (Phi (gobj ns) (n + 4)) (.call 32 (.cons (.loc 0) (.cons (.loc 1) (.cons (.loc 2) (.cons (.loc 3) (.cons (.loc 4) .nil)))))) [some sh, some (.int k), some zone, some place, some mvr, some wr, some (.ref σ.length)] σa = some (.bool (matedA F R k zl pl mv), σb) :=
  e_call (eC (eL rfl) (eC (eL rfl) (eC (eL rfl) (eC (eL rfl) (eC (eL rfl) eN))))) eb
 have pab := pa.trans pb
 have Pb := PlaceAt.pre P pab
 have IWb := IW.pre pb
 refine zk ?_; clear zk
 unfold wantA
 dsimp only
 generalize hwon : (wl.filter fun x => decide (0 <= x)) = won at *
 have hwl : won.length <= wl.length := by rw [<- hwon]; exact List.length_filter_le ..
 cases hmt : matedA F R k zl pl mv with
 | true =>
   rw [hmt] at c0
   exact i1_2 σb pab ((phi_eq (fn := f_law_want) rfl _ _).trans (run_ret (m := [some sh, some (.int k), some zone, some place, some mvr, some wr, none]) rfl rfl (sC st0 (ss_stop (s_if_t c0 rfl (ss_ret eI)) (fun h => by cases h)))))
 | false =>
   rw [hmt] at c0
   rw [if_neg (by simp)]
   have z1 : ∀ (a : Int) {σ' : Hp}, σ <+: σ' -> vE (gobj ns) (Phi (gobj ns) (n + 4)) (.cmp .eq (.idx (.loc 3) (.lit (.int 0))) (.lit (.int a))) [some sh, some (.int k), some zone, some place, some mvr, some wr, some (.ref σ.length)] σ' = some (.bool (decide (pl.1 = a)), σ') :=
    fun a _ p => e_cmp ((PlaceAt.pre P p).e (i := 3) (j := 0) rfl rfl (by decide)) eI cmp_eqI
   have q1 : σb <+: σb ++ [O.list []] := pfa ..
   -- the second guard
   have g2 : ∃ σc, σ <+: σc /\ vE (gobj ns) (Phi (gobj ns) (n + 4)) (.and (.cmp .eq (.idx (.loc 3) (.lit (.int 0))) (.lit (.int 0))) (.cmp .ne (.loc 6) (.list .nil))) [some sh, some (.int k), some zone, some place, some mvr, some wr, some (.ref σ.length)] σb = some (.bool (decide (pl.1 = 0 /\ won ≠ [])), σc) /\ IntsAt (gobj ns) σc (.ref σ.length) won := by
    by_cases h0 : pl.1 = 0
    · refine i1_3 _ (pab.trans q1) (e_and_t (z1 0 pab) (by simp [truth, h0]) ?_) (IWb.pre q1)
      have := e_neE (Φ := Phi (gobj ns) (n + 4)) (m := [some sh, some (.int k), some zone, some place, some mvr, some wr, some (.ref σ.length)]) (e := .loc 6) (eL rfl) IWb
      rw [this]
      cases won <;> simp [h0]
    · refine i1_3 σb pab ?_ IWb
      have := e_and_f (b := .cmp .ne (.loc 6) (.list .nil)) (z1 0 pab) (by simp [truth, h0])
      rw [this]; simp [h0]
   refine x1_3 g2 fun σc pc ec IWc => ?_
   clear g2
   by_cases h2 : pl.1 = 0 /\ won ≠ []
   · rw [if_pos h2]
     rw [show decide (pl.1 = 0 /\ won ≠ []) = true by simpa using h2] at ec
     cases won with
     | nil => exact absurd rfl h2.2
     | cons x r =>
       exact i1_2 σc pc ((phi_eq (fn := f_law_want) rfl _ _).trans (run_ret (m := [some sh, some (.int k), some zone, some place, some mvr, some wr, none]) rfl rfl (sC st0 (sC (s_if_f c0 rfl sN) (ss_stop (s_if_t ec rfl (ss_ret (e_bin (e_min (eL rfl) IWc) eI ar_add))) (fun h => by cases h))))))
   · rw [if_neg h2]
     rw [show decide (pl.1 = 0 /\ won ≠ []) = false by simpa using h2] at ec
     have q2 : σc <+: σc ++ [O.list []] := pfa ..
     have g3 : ∃ σd, σ <+: σd /\ vE (gobj ns) (Phi (gobj ns) (n + 4)) (.and (.cmp .eq (.idx (.loc 3) (.lit (.int 0))) (.lit (.int 1))) (.and (.cmp .ne (.loc 4) (.list .nil)) (.cmp .eq (.blt .len (.cons (.loc 6) .nil)) (.blt .len (.cons (.loc 5) .nil))))) [some sh, some (.int k), some zone, some place, some mvr, some wr, some (.ref σ.length)] σc = some (.bool (decide (pl.1 = 1 /\ mv ≠ [] /\ won.length = wl.length)), σd) /\ IntsAt (gobj ns) σd (.ref σ.length) won := by
      by_cases h0 : pl.1 = 1
      · have ne := e_neE (Φ := Phi (gobj ns) (n + 4)) (m := [some sh, some (.int k), some zone, some place, some mvr, some wr, some (.ref σ.length)]) (e := .loc 4) (eL rfl) (pre_listOf pc L)
        by_cases hm0 : mv = []
        · refine i1_3 _ (pc.trans q2) ?_ (IWc.pre q2)
          have hv : vs = [] := by subst hm0; simpa using M
          rw [hv] at ne
          rw [e_and_t (z1 1 pc) (by simp [truth, h0]) (e_and_f ne rfl)]
          simp [hm0]
        · refine i1_3 _ (pc.trans q2) ?_ (IWc.pre q2)
          have hv : vs.isEmpty = false := by cases vs with
           | nil => exact absurd (List.length_eq_zero_iff.mp M.symm) hm0
           | cons _ _ => rfl
          rw [hv] at ne
          have le : vE (gobj ns) (Phi (gobj ns) (n + 4)) (.cmp .eq (.blt .len (.cons (.loc 6) .nil)) (.blt .len (.cons (.loc 5) .nil))) [some sh, some (.int k), some zone, some place, some mvr, some wr, some (.ref σ.length)] (σc ++ [O.list []]) = some (.bool (decide (((won.map V.int).length : Int) = ((wl.map V.int).length : Int))), σc ++ [O.list []]) :=
           e_cmp (e_len (eL rfl) (IWc.pre q2) (by simp; lia)) (e_len (eL rfl) (W.pre (pc.trans q2)) (by simp; lia)) cmp_eqI
          rw [e_and_t (z1 1 pc) (by simp [truth, h0]) (e_and_t ne rfl le)]
          simp only [List.length_map, h0, hm0, true_and, ne_eq, not_false_eq_true]
          congr 3
          exact decide_eq_decide.mpr (by omega)
      · refine i1_3 σc pc ?_ IWc
        rw [e_and_f (z1 1 pc) (by simp [truth, h0])]; simp [h0]
     refine x1_3 g3 fun σd pd ed IWd => ?_
     clear g3
     by_cases h3 : pl.1 = 1 /\ mv ≠ [] /\ won.length = wl.length
     · rw [if_pos h3]
       rw [show decide (pl.1 = 1 /\ mv ≠ [] /\ won.length = wl.length) = true by simpa using h3] at ed
       cases won with
       | nil => exact absurd (List.length_eq_zero_iff.mp (by rw [<- hwm, <- h3.2.2]; rfl)) h3.2.1
       | cons x r =>
         exact i1_2 σd pd ((phi_eq (fn := f_law_want) rfl _ _).trans (run_ret (m := [some sh, some (.int k), some zone, some place, some mvr, some wr, none]) rfl rfl (sC st0 (sC (s_if_f c0 rfl sN) (sC (s_if_f ec rfl sN) (ss_stop (s_if_t ed rfl (ss_ret (e_bin (e_max (eL rfl) IWd) eI ar_add))) (fun h => by cases h)))))))
     · rw [if_neg h3]
       rw [show decide (pl.1 = 1 /\ mv ≠ [] /\ won.length = wl.length) = false by simpa using h3] at ed
       exact i1_2 σd pd ((phi_eq (fn := f_law_want) rfl _ _).trans (run_ret (m := [some sh, some (.int k), some zone, some place, some mvr, some wr, none]) rfl rfl (sC st0 (sC (s_if_f c0 rfl sN) (sC (s_if_f ec rfl sN) (sC (s_if_f ed rfl sN) (ss_ret (e_neg eI))))))))
end
section
variable {ns : List Int} {n : Nat} {σ σ0 σ1 σ2 : Hp} {Φ : CallF} {m m1 m2 : Frm} {g : List O}
theorem MovesAt.at_ {vs : List V} {l : List (Option Place)} (h : MovesAt g σ vs l) : ∀ {i : Nat} {v : V}, vs[i]? = some v -> ∃ mv, l[i]? = some mv /\ MoveAt g σ v mv := by
 induction h with
 | nil => intro i v q; exact nn q
 | cons h _ ih =>
   intro i v q
   cases i with
   | zero => refine so1 q ?_; exact i1_2 _ rfl h
   | succ i => exact ih (i := i) q
theorem sp_right {geo shape table zone place : V} {G : Geo} {T : List Int} {k : Int} {zl : List Int} {pl : Place} (GA : GeoAt σ geo G) (S : ShapeAt (gobj ns) σ shape G.F G.R) (TA : TableAt (gobj ns) σ table T G.z) (Z : IntsAt (gobj ns) σ zone zl) (P : PlaceAt (gobj ns) σ place pl) (hz : G.z <= 12) (hk : 2 <= k /\ k <= 5) (h : InR G.z pl) :
 ∃ σ', σ <+: σ' /\ Phi (gobj ns) (n + 6) 34 [geo, shape, table, .int k, zone, place] σ = some (.bool (rightA G T k zl pl), σ') := by
 refine cps fun _ zk => ?_
 refine x1_2 (sp_word (ns := ns) (n := n + 2) (mv := some pl) (r := place) GA TA hz hk P (fun _ q => by refine so1 q ?_; exact h)) fun σa pa ea => ?_
 refine x1_2 (sp_stands (ns := ns) (n := n + 2) (k := k) (S.pre pa) (Z.pre pa) (PlaceAt.pre P pa)) fun σb pb eb => ?_
 have st0 : execS (gobj ns) (Phi (gobj ns) (n + 5)) (.asg 6 (.call 31 (.cons (.loc 0) (.cons (.loc 2) (.cons (.loc 3) (.cons (.loc 5) .nil)))))) [some geo, some shape, some table, some (.int k), some zone, some place, none, none, none] σ = some (.next, [some geo, some shape, some table, some (.int k), some zone, some place, some (.int (wordA T G.z (some pl))), none, none], σa) :=
  sA (e_call (eC (eL rfl) (eC (eL rfl) (eC (eL rfl) (eC (eL rfl) eN)))) ea) (lb rfl)
 have c0 : vE (gobj ns) (Phi (gobj ns) (n + 5)) (.not (.call 29 (.cons (.loc 1) (.cons (.loc 3) (.cons (.loc 4) (.cons (.loc 5) .nil)))))) [some geo, some shape, some table, some (.int k), some zone, some place, some (.int (wordA T G.z (some pl))), none, none] σa = some (.bool (!standsA G.F G.R k zl pl), σb) :=
  e_not (e_call (eC (eL rfl) (eC (eL rfl) (eC (eL rfl) (eC (eL rfl) eN)))) eb) rfl
 refine zk ?_; clear zk
 unfold rightA
 dsimp only
 have pab := pa.trans pb
 cases hst : standsA G.F G.R k zl pl with
 | false =>
   rw [hst] at c0
   simp only [if_true]
   exact i1_2 σb pab ((phi_eq (fn := f_law_right) rfl _ _).trans (run_ret (m := [some geo, some shape, some table, some (.int k), some zone, some place, none, none, none]) rfl rfl (sC st0 (ss_stop (s_if_t c0 rfl (ss_ret (e_cmp (eL rfl) (e_neg eI) cmp_eqI))) (fun h => by cases h)))))
 | true =>
   rw [hst] at c0
   rw [if_neg (by simp)]
   refine cps fun _ zk => ?_
   refine x3_4 (sp_moves (ns := ns) (n := n + 1) (k := k) (S.pre pab) (Z.pre pab) (PlaceAt.pre P pab)) fun a σc vs pc ec hc Mc => ?_
   have pabc := pab.trans pc
   generalize hmv : movesA G.F G.R k zl pl = mv at *
   have hml : mv.length <= 80 := by rw [<- hmv]; exact movesA_len
   have hzz : (G.F : Int) * G.R = G.z := by simp [Geo.z]
   have hin : ∀ q, some q ∈ mv -> InR G.z q := fun q hq => movesA_in hzz h (by rw [hmv]; exact hq)
   have st7 : execS (gobj ns) (Phi (gobj ns) (n + 5)) (.asg 7 (.call 30 (.cons (.loc 1) (.cons (.loc 3) (.cons (.loc 4) (.cons (.loc 5) .nil)))))) [some geo, some shape, some table, some (.int k), some zone, some place, some (.int (wordA T G.z (some pl))), none, none] σb = some (.next, [some geo, some shape, some table, some (.int k), some zone, some place, some (.int (wordA T G.z (some pl))), some (.ref a), none], σc) :=
    sA (e_call (eC (eL rfl) (eC (eL rfl) (eC (eL rfl) (eC (eL rfl) eN)))) ec) (lb rfl)
   have hlc : listOf (gobj ns) σc (.ref a) = some vs := by simp [listOf, getO, hc]
   have hvl := Mc.len
   refine x1_3 (comp_list (g := gobj ns) (elt := fun m σ => vE (gobj ns) (Phi (gobj ns) (n + 5)) (.call 31 (.cons (.loc 0) (.cons (.loc 1) (.cons (.loc 2) (.cons (.idx (.loc 3) (.lit (.int 2))) .nil))))) m σ) (cond := fun _ σ => some (.bool true, σ)) (base := [geo, table, .int k]) (acc := σc.length) (l := .ref a) (xs := vs) (fuel := loopFuel)
    (fun i σ1 => σc <+: σ1 /\ σ1[σc.length]? = some (.list (((mv.take i).map (wordA T G.z)).map .int))) (fuel_lt (by lia)) (σ := σc ++ [O.list []]) ⟨pfa .., by simp⟩ (fun i σ1 h => pre_listOf h.1 hlc) (by
     rintro i x σ1 hix ⟨q1, q2⟩
     refine cps fun _ zk => ?_
     refine x1_2 (Mc.at_ hix) fun mvx hi zz1 => ?_
     refine x3_2 zz1 fun ma mb r g1 g2 => ?_
     have hmem := List.mem_of_getElem? hi
     have up : ∀ (o : Option Place), (match o with | none => r = .none | some pl => PlaceAt (gobj ns) σc r pl) -> (match o with | none => r = .none | some pl => PlaceAt (gobj ns) σ1 r pl) := fun o => by
      cases o with
      | none => exact id
      | some q => exact fun z => PlaceAt.pre z q1
     refine x1_2 (sp_word (ns := ns) (n := n + 2) (mv := mvx) (r := r) (GA.pre (pabc.trans q1)) (TA.pre (pabc.trans q1)) hz hk (up mvx g2) (fun q hq => hin q (by rw [<- hq]; exact hmem))) fun σe pe ee => ?_
     have hlen : (((mv.take i).map (wordA T G.z)).map V.int).length < 100000 := by
      rw [List.length_map, List.length_map, List.length_take]; omega
     refine zk ?_; clear zk
     refine i3_4 (.bool true) σ1 true rfl rfl (fun _ => i3_4 (.int (wordA T G.z mvx)) σe _ (e_call (eC (eL rfl) (eC (eL rfl) (eC (eL rfl) (eC (eX (eL rfl) eI (idx_tup (i := 2) (pre_getO q1 g1) rfl (by decide))) eN)))) ee) (push_at (pG pe q2) hlen) (pre_set (q1.trans pe) (Nat.le_refl _) _) ?_) (fun h => by exact nt h)
     rw [get_set (pG pe q2), List.take_succ, hi]
     simp)) fun σd ed pd xd => ?_
   rw [hvl, List.take_length] at xd
   have pd' := pabc.trans pd
   have Wd : IntsAt (gobj ns) σd (.ref σc.length) (mv.map (wordA T G.z)) := by
    show listOf _ _ _ = _
    simp only [listOf, getO, xd]
   have st8 : execS (gobj ns) (Phi (gobj ns) (n + 5)) (.asg 8 (.comp [0, 2, 3] (.call 31 (.cons (.loc 0) (.cons (.loc 1) (.cons (.loc 2) (.cons (.idx (.loc 3) (.lit (.int 2))) .nil))))) (.loc 7))) [some geo, some shape, some table, some (.int k), some zone, some place, some (.int (wordA T G.z (some pl))), some (.ref a), none] σc = some (.next, [some geo, some shape, some table, some (.int k), some zone, some place, some (.int (wordA T G.z (some pl))), some (.ref a), some (.ref σc.length)], σd) :=
    sA (e_comp (eL rfl) (iter_list hlc) rfl ed) (lb rfl)
   refine x1_2 (sp_want (ns := ns) (n := n) (k := k) (mv := mv) (wl := mv.map (wordA T G.z)) (S.pre pd') (Z.pre pd') (PlaceAt.pre P pd') (pre_listOf pd hlc) hvl Wd (by simp; lia) (by lia) (by simp)) fun σe pe ee => ?_
   refine zk ?_; clear zk
   refine i1_2 σe (pd'.trans pe) ((phi_eq (fn := f_law_right) rfl _ _).trans (run_ret (m := [some geo, some shape, some table, some (.int k), some zone, some place, none, none, none]) rfl rfl (sC st0 (sC (s_if_f c0 rfl sN) (sC st7 (sC st8 (ss_ret (e_cmp (eL rfl) (e_call (eC (eL rfl) (eC (eL rfl) (eC (eL rfl) (eC (eL rfl) (eC (eL rfl) (eC (eL rfl) eN)))))) ee) cmp_eqI))))))))
end
noncomputable def takeV (xs : List Int) (at_ : Nat) (k : Int) : Int := if at_ < xs.length then (xs.getD at_ 0).fmod k else (((at_ : Int) * (at_ + 3)).fdiv 2 + 2).fmod k
theorem takeV_range {xs : List Int} {at_ : Nat} {k : Int} (hk : 0 < k) : 0 <= takeV xs at_ k /\ takeV xs at_ k < k := by
 unfold takeV
 split
 · exact ⟨Int.fmod_nonneg_of_pos _ hk, Int.fmod_lt_of_pos _ hk⟩
 · exact ⟨Int.fmod_nonneg_of_pos _ hk, Int.fmod_lt_of_pos _ hk⟩
section
variable {ns : List Int} {n : Nat} {σ σ0 σ1 σ2 : Hp} {Φ : CallF} {m m1 m2 : Frm} {g : List O}
structure TapeAt (g : List O) (σ : Hp) (t sl : Nat) (xs : List Int) (at_ : Nat) : Prop where
 tape : σ[t]? = some (.list [.ref sl, .int (at_ : Nat)])
 list : σ[sl]? = some (.list (xs.map .int))
 ne : sl ≠ t
 short : xs.length <= 100
 low : at_ < 1000
theorem sp_take {t sl : Nat} {xs : List Int} {at_ : Nat} {k : Int} (TP : TapeAt (gobj ns) σ t sl xs at_) (hk : 0 < k) :
 Phi (gobj ns) (n + 1) 25 [.ref t, .int k] σ = some (.int (takeV xs at_ k), σ.set t (.list [.ref sl, .int ((at_ + 1 : Nat) : Int)])) := by
 have hkne : k ≠ 0 := by lia
 have hlow := TP.low
 have g0 : getO (gobj ns) σ (.ref t) = some (.list [.ref sl, .int (at_ : Nat)]) := TP.tape
 have t2 : (σ.set t (.list [.ref sl, .int ((at_ + 1 : Nat) : Int)]))[t]? = some (.list [.ref sl, .int ((at_ + 1 : Nat) : Int)]) := get_set TP.tape
 have g1 : getO (gobj ns) (σ.set t (.list [.ref sl, .int ((at_ + 1 : Nat) : Int)])) (.ref t) = some (.list [.ref sl, .int ((at_ + 1 : Nat) : Int)]) := t2
 have g2 : getO (gobj ns) (σ.set t (.list [.ref sl, .int ((at_ + 1 : Nat) : Int)])) (.ref sl) = some (.list (xs.map .int)) := by
  show (σ.set t _)[sl]? = _
  rw [get_set_ne (Ne.symm TP.ne)]; exact TP.list
 have s0 : execS (gobj ns) (Phi (gobj ns) n) (.asg 2 (.idx (.loc 0) (.lit (.int 1)))) [some (.ref t), some (.int k), none] σ = some (.next, [some (.ref t), some (.int k), some (.int (at_ : Nat))], σ) :=
  sA (eX (eL rfl) eI (idx_list (i := 1) g0 rfl (by decide))) (lb rfl)
 have s1 : execS (gobj ns) (Phi (gobj ns) n) (.setIdx (.loc 0) (.lit (.int 1)) (.bin .add (.loc 2) (.lit (.int 1)))) [some (.ref t), some (.int k), some (.int (at_ : Nat))] σ = some (.next, [some (.ref t), some (.int k), some (.int (at_ : Nat))], σ.set t (.list [.ref sl, .int ((at_ + 1 : Nat) : Int)])) :=
  s_setIdx (e_bin (eL rfl) eI ar_add) (eL rfl) eI (setIdx_list (i := 1) TP.tape (by simp) (by decide))
 have el : vE (gobj ns) (Phi (gobj ns) n) (.idx (.loc 0) (.lit (.int 0))) [some (.ref t), some (.int k), some (.int (at_ : Nat))] (σ.set t (.list [.ref sl, .int ((at_ + 1 : Nat) : Int)])) = some (.ref sl, σ.set t (.list [.ref sl, .int ((at_ + 1 : Nat) : Int)])) :=
  eX (eL rfl) eI (idx_list (i := 0) g1 rfl (by decide))
 have c : vE (gobj ns) (Phi (gobj ns) n) (.cmp .lt (.loc 2) (.blt .len (.cons (.idx (.loc 0) (.lit (.int 0))) .nil))) [some (.ref t), some (.int k), some (.int (at_ : Nat))] (σ.set t (.list [.ref sl, .int ((at_ + 1 : Nat) : Int)])) = some (.bool (decide (((at_ : Nat) : Int) < ((xs.map V.int).length : Int))), σ.set t (.list [.ref sl, .int ((at_ + 1 : Nat) : Int)])) :=
  e_cmp (eL rfl) (e_len el (by simp only [listOf, g2]) (by have := TP.short; simp; lia)) cmp_ltI
 unfold takeV
 by_cases h : at_ < xs.length
 · rw [if_pos h]
   rw [show decide (((at_ : Nat) : Int) < ((xs.map V.int).length : Int)) = true by simp; exact h] at c
   have ix : idx (gobj ns) (σ.set t (.list [.ref sl, .int ((at_ + 1 : Nat) : Int)])) (.ref sl) (.int (at_ : Nat)) = some (.int (xs.getD at_ 0)) := idx_list g2 (by rw [List.getElem?_map, getD_get (d := 0) h]; rfl) (by lia)
   exact (phi_eq (fn := f_law_take) rfl _ _).trans (run_ret (m := [some (.ref t), some (.int k), none]) rfl rfl (sC s0 (sC s1 (ss_stop (s_if_t c rfl (ss_ret (e_bin (eX el (eL rfl) ix) (eL rfl) (ar_mod hkne)))) (fun h => by cases h)))))
 · rw [if_neg h]
   rw [show decide (((at_ : Nat) : Int) < ((xs.map V.int).length : Int)) = false by simp; lia] at c
   exact (phi_eq (fn := f_law_take) rfl _ _).trans (run_ret (m := [some (.ref t), some (.int k), none]) rfl rfl (sC s0 (sC s1 (sC (s_if_f c rfl sN) (ss_ret (e_bin (e_bin (e_bin (e_bin (eL rfl) (e_bin (eL rfl) eI ar_add) (ar_mul (by lia) (by omega))) eI (ar_fdiv (by decide) (by decide))) eI ar_add) (eL rfl) (ar_mod hkne)))))))
end
structure Retro where
 N : Nat
 side : Nat -> Int
 A : Nat -> List Int
 lost : Nat -> Bool
noncomputable def Retro.cnt (S : Retro) (m n : Nat) : Nat := (S.A n).count (m : Int)
noncomputable def Retro.sum (S : Retro) (D : List Nat) (n : Nat) : Nat := (D.map fun m => S.cnt m n).sum
theorem count_sum_le (l : List Int) : ∀ (D : List Nat), D.Nodup -> (D.map fun m : Nat => l.count (m : Int)).sum <= l.length
 | [], _ => by simp
 | d :: D, h => by
   rw [List.nodup_cons] at h
   have h1 := count_sum_le (l.filter fun x => decide (x ≠ (d : Int))) D h.2
   have e : (D.map fun m : Nat => (l.filter fun x => decide (x ≠ (d : Int))).count (m : Int)) = D.map fun m : Nat => l.count (m : Int) := by
    refine List.map_congr_left fun m hm => ?_
    rw [List.count_filter]
    have : m ≠ d := fun q => h.1 (q ▸ hm)
    simp; lia
   rw [e] at h1
   have h2 : l.count (d : Int) + (l.filter fun x => decide (x ≠ (d : Int))).length = l.length := by
    rw [<- List.countP_eq_length_filter, List.count]
    have := List.length_eq_countP_add_countP (fun x => x == (d : Int)) (l := l)
    rw [this]
    congr 1
    refine List.countP_congr fun x _ => ?_
    simp
   simp only [List.map_cons, List.sum_cons]
   lia
theorem count_sum_ge : ∀ (l : List Int) (D : List Nat), (∀ x ∈ l, ∃ m ∈ D, x = (m : Int)) -> l.length <= (D.map fun m : Nat => l.count (m : Int)).sum
 | l, [], h => by
   cases l with
   | nil => simp
   | cons x r => refine x1_2 (h x (.head _)) fun m hm _ => ?_; cases hm
 | l, d :: D, h => by
   have h1 := count_sum_ge (l.filter fun x => decide (x ≠ (d : Int))) D fun x hx => by
    rw [List.mem_filter] at hx
    refine x1_2 (h x hx.1) fun m hm e => ?_
    rcases List.mem_cons.mp hm with rfl | hm
    · exact absurd e (by simpa using hx.2)
    · exact ⟨m, hm, e⟩
   have e : (D.map fun m : Nat => (l.filter fun x => decide (x ≠ (d : Int))).count (m : Int)).sum <= (D.map fun m : Nat => l.count (m : Int)).sum := by
    clear h1 h
    induction D with
    | nil => simp
    | cons a D ih =>
      simp only [List.map_cons, List.sum_cons]
      have := (List.filter_sublist (p := fun x => decide (x ≠ (d : Int))) (l := l)).count_le (a : Int)
      lia
   have h2 : l.count (d : Int) + (l.filter fun x => decide (x ≠ (d : Int))).length = l.length := by
    rw [<- List.countP_eq_length_filter, List.count]
    have := List.length_eq_countP_add_countP (fun x => x == (d : Int)) (l := l)
    rw [this]
    congr 1
    refine List.countP_congr fun x _ => ?_
    simp
   simp only [List.map_cons, List.sum_cons]
   lia
theorem count_sum_eq (l : List Int) (D : List Nat) (hD : D.Nodup) (h : (D.map fun m : Nat => l.count (m : Int)).sum = l.length) : ∀ x ∈ l, ∃ m ∈ D, x = (m : Int) := by
 intro x hx
 refine Classical.byContradiction fun hn => ?_
 have hn' : ∀ m ∈ D, x ≠ (m : Int) := fun m hm q => hn ⟨m, hm, q⟩
 have h1 := count_sum_le (l.erase x) D hD
 have e : (D.map fun m : Nat => (l.erase x).count (m : Int)) = D.map fun m : Nat => l.count (m : Int) := by
  refine List.map_congr_left fun m hm => ?_
  rw [List.count_erase_of_ne (Ne.symm (hn' m hm))]
 rw [e, h, List.length_erase_of_mem hx] at h1
 have : 0 < l.length := List.length_pos_of_mem hx
 lia
noncomputable def upd (f : Nat -> Int) (n : Nat) (x : Int) : Nat -> Int := fun i => if i = n then x else f i
theorem upd_self {f : Nat -> Int} {n : Nat} {x : Int} : upd f n x n = x := if_pos rfl
theorem upd_ne {f : Nat -> Int} {n i : Nat} {x : Int} (h : i ≠ n) : upd f n x i = f i := if_neg h
noncomputable def Why (S : Retro) (v : Nat -> Int) (P : List Nat) (n : Nat) : Prop :=
 (S.lost n = true /\ v n = 0) \/
 (S.lost n = false /\ S.side n = 0 /\ ∃ m ∈ P, (m : Int) ∈ S.A n /\ v n = v m + 1 /\ ∀ m' ∈ P, (m' : Int) ∈ S.A n -> v m <= v m') \/
 (S.lost n = false /\ S.side n ≠ 0 /\ (∀ x ∈ S.A n, ∃ m ∈ P, x = (m : Int)) /\ ∃ m ∈ P, (m : Int) ∈ S.A n /\ v n = v m + 1 /\ ∀ m' ∈ P, (m' : Int) ∈ S.A n -> v m' <= v m)
structure Inv (S : Retro) (v l : Nat -> Int) (Q : List Nat) (k : Nat) (pre : List Nat) (P : List Nat) : Prop where
 nd : Q.Nodup
 lt : ∀ q ∈ Q, q < S.N
 val : ∀ n, n < S.N -> n ∉ Q -> v n = -1
 nn : ∀ n ∈ Q, 0 <= v n
 left : ∀ n, n < S.N -> l n = (S.A n).length - ((S.sum (Q.take k) n : Nat) + (pre.count n : Nat))
 srt : Q.Pairwise fun a b => v a <= v b
 near : ∀ q ∈ Q, ∀ q' ∈ Q.drop k, v q <= v q' + 1
 why : ∀ n ∈ Q, Why S v P n
 out : ∀ n, n < S.N -> n ∉ Q -> S.lost n = false /\ (S.side n = 0 -> S.sum (Q.take k) n + pre.count n = 0) /\ (S.side n ≠ 0 -> l n ≠ 0 \/ S.sum (Q.take k) n + pre.count n = 0)
section
variable {S : Retro} {v l : Nat -> Int} {Q pre : List Nat} {k m n : Nat}
theorem take_succ_get (h : Q[k]? = some m) : Q.take (k + 1) = Q.take k ++ [m] := by rw [List.take_succ, h]; rfl
theorem mem_take_not (hn : Q.Nodup) (h : Q[k]? = some m) : m ∉ Q.take k := by
 intro q
 obtain ⟨i, hi, e⟩ := List.getElem_of_mem q
 rw [List.length_take] at hi
 rw [List.getElem_take] at e
 have hk := (gsm h).1
 have e2 := (gsm h).2
 exact (List.pairwise_iff_getElem.mp hn) i k (by lia) hk (by lia) (e.trans e2.symm)
theorem srt_take (hs : Q.Pairwise fun a b => v a <= v b) (h : Q[k]? = some m) : ∀ q ∈ Q.take k, v q <= v m := by
 intro q hq
 obtain ⟨i, hi, e⟩ := List.getElem_of_mem hq
 rw [List.length_take] at hi
 rw [List.getElem_take] at e
 have hk := (gsm h).1
 have e2 := (gsm h).2
 have := List.pairwise_iff_getElem.mp hs i k (by lia) hk (by lia)
 rw [e, e2] at this
 exact this
theorem srt_drop (hs : Q.Pairwise fun a b => v a <= v b) (h : Q[k]? = some m) : ∀ q ∈ Q.drop k, v m <= v q := by
 intro q hq
 obtain ⟨i, hi, e⟩ := List.getElem_of_mem hq
 rw [List.length_drop] at hi
 rw [List.getElem_drop] at e
 have hk := (gsm h).1
 have e2 := (gsm h).2
 by_cases hi0 : i = 0
 · subst hi0
   have : m = q := by rw [<- e2, <- e]; simp
   rw [this]; exact Int.le_refl _
 · have := List.pairwise_iff_getElem.mp hs k (k + i) hk (by lia) (by lia)
   rw [e, e2] at this
   exact this
theorem Inv.start (I : Inv S v l Q k [] (Q.take k)) (h : Q[k]? = some m) : Inv S v l Q k [] (Q.take (k + 1)) := by
 refine ⟨I.nd, I.lt, I.val, I.nn, I.left, I.srt, I.near, fun n hn => ?_, I.out⟩
 rw [take_succ_get h]
 have h1 := srt_take I.srt h
 rcases I.why n hn with w | ⟨w1, w2, a, ha, w3, w4, w5⟩ | ⟨w1, w2, w0, a, ha, w3, w4, w5⟩
 · exact .inl w
 · refine .inr (.inl ⟨w1, w2, a, List.mem_append_left _ ha, w3, w4, fun b hb hb2 => ?_⟩)
   rcases List.mem_append.mp hb with hb | hb
   · exact w5 b hb hb2
   · simp at hb; subst hb; exact h1 a ha
 · refine .inr (.inr ⟨w1, w2, fun x hx => let ⟨b, q, r⟩ := w0 x hx; (i1_2 b (List.mem_append_left _ q) r), a, List.mem_append_left _ ha, w3, w4, fun b hb hb2 => ?_⟩)
   rcases List.mem_append.mp hb with hb | hb
   · exact w5 b hb hb2
   · simp at hb; subst hb
     refine x1_2 (w0 _ hb2) fun c hc e => ?_
     have : b = c := by lia
     subst this
     exact w5 b hc hb2
theorem Inv.finish (I : Inv S v l Q k pre (Q.take (k + 1))) (h : Q[k]? = some m) (hp : ∀ n, n < S.N -> pre.count n = S.cnt m n) : Inv S v l Q (k + 1) [] (Q.take (k + 1)) := by
 have e : ∀ n, n < S.N -> S.sum (Q.take (k + 1)) n + ([] : List Nat).count n = S.sum (Q.take k) n + pre.count n := by
  intro n hn
  rw [take_succ_get h, hp n hn]
  simp [Retro.sum]
 refine ⟨I.nd, I.lt, I.val, I.nn, fun n hn => ?_, I.srt, fun q hq q' hq' => I.near q hq q' ?_, I.why, fun n hn hq => ?_⟩
 · rw [I.left n hn]
   have := e n hn
   lia
 · rw [<- List.drop_drop] at hq'
   exact List.mem_of_mem_drop hq'
 · rw [e n hn]; exact I.out n hn hq
theorem le_sum_of : ∀ {l : List Nat} {x : Nat}, x ∈ l -> x <= l.sum
 | y :: r, x, h => by
   rw [List.sum_cons]
   rcases List.mem_cons.mp h with rfl | h
   · and_intros
   · have := le_sum_of h; lia
theorem Why.congr {v' : Nat -> Int} {P : List Nat} (h : Why S v P n) (hn : v' n = v n) (hp : ∀ p ∈ P, v' p = v p) : Why S v' P n := by
 rcases h with ⟨w1, w2⟩ | ⟨w1, w2, a, ha, w3, w4, w5⟩ | ⟨w1, w2, w0, a, ha, w3, w4, w5⟩
 · exact .inl ⟨w1, hn.trans w2⟩
 · exact .inr (.inl ⟨w1, w2, a, ha, w3, by rw [hn, hp a ha]; exact w4, fun b hb hb2 => by rw [hp a ha, hp b hb]; exact w5 b hb hb2⟩)
 · exact .inr (.inr ⟨w1, w2, w0, a, ha, w3, by rw [hn, hp a ha]; exact w4, fun b hb hb2 => by rw [hp a ha, hp b hb]; exact w5 b hb hb2⟩)
theorem cnt_pos_mem {a : Nat} (h : 0 < S.cnt a n) : (a : Int) ∈ S.A n := List.count_pos_iff.mp h
theorem Inv.skip (I : Inv S v l Q k pre (Q.take (k + 1))) (hn : n < S.N) (hc : ¬ (v n = -1 /\ (S.side n = 0 \/ l n - 1 = 0))) : Inv S v (upd l n (l n - 1)) Q k (pre ++ [n]) (Q.take (k + 1)) := by
 refine ⟨I.nd, I.lt, I.val, I.nn, fun i hi => ?_, I.srt, I.near, I.why, fun i hi hq => ?_⟩
 · have := I.left i hi
   rw [List.count_append, List.count_singleton]
   by_cases h : i = n
   · subst h; rw [upd_self]; simp; lia
   · rw [upd_ne h, this]
     have : (n == i) = false := by simpa using Ne.symm h
     simp [this]
 · refine x0_3 (I.out i hi hq) fun o1 o2 o3 => ?_
   rw [List.count_append, List.count_singleton]
   by_cases h : i = n
   · subst h
     rw [upd_self]
     have hv := I.val i hi hq
     refine ⟨o1, fun h0 => absurd ⟨hv, .inl h0⟩ hc, fun h0 => .inl fun q => hc ⟨hv, .inr q⟩⟩
   · rw [upd_ne h]
     have : (n == i) = false := by simpa using Ne.symm h
     simp only [this, Bool.false_eq_true, if_false, Nat.add_zero]
     exact ⟨o1, o2, o3⟩
theorem Inv.take_ (I : Inv S v l Q k pre (Q.take (k + 1))) (h : Q[k]? = some m) (hn : n < S.N) (hp : pre.count n < S.cnt m n) (hv : v n = -1) (hc : S.side n = 0 \/ l n - 1 = 0) :
 Inv S (upd v n (v m + 1)) (upd l n (l n - 1)) (Q ++ [n]) k (pre ++ [n]) ((Q ++ [n]).take (k + 1)) := by
 have hk := (gsm h).1
 have hmQ : m ∈ Q := List.mem_of_getElem? h
 have hnQ : n ∉ Q := fun q => by have := I.nn n q; lia
 have ne : ∀ q ∈ Q, q ≠ n := fun q hq e => hnQ (e ▸ hq)
 have t1 : (Q ++ [n]).take k = Q.take k := List.take_append_of_le_length (by exact Nat.le_of_lt (by assumption))
 have t2 : (Q ++ [n]).take (k + 1) = Q.take (k + 1) := List.take_append_of_le_length (by assumption)
 have d1 : (Q ++ [n]).drop k = Q.drop k ++ [n] := List.drop_append_of_le_length (by exact Nat.le_of_lt (by assumption))
 have hmd : m ∈ Q.drop k := by
  rw [List.drop_eq_getElem_cons hk, (gsm h).2]; exact .head _
 have hmA : (m : Int) ∈ S.A n := cnt_pos_mem (by and_intros)
 have hmP : m ∈ Q.take (k + 1) := by rw [take_succ_get h]; simp
 have hup : ∀ q ∈ Q, upd v n (v m + 1) q = v q := fun q hq => upd_ne (ne q hq)
 have hle := I.nn m hmQ
 have hout := I.out n hn hnQ
 refine ⟨?_, ?_, ?_, ?_, ?_, ?_, ?_, ?_, ?_⟩
 · rw [List.nodup_append]
   exact ⟨I.nd, by simp, fun a ha b hb => by simp at hb; subst hb; exact ne a ha⟩
 · intro q hq
   rcases List.mem_append.mp hq with hq | hq
   · exact I.lt q hq
   · simp at hq; subst hq; exact hn
 · intro i hi hq
   have h1 : i ∉ Q := fun z => hq (List.mem_append_left _ z)
   have h2 : i ≠ n := fun z => hq (by subst z; simp)
   rw [upd_ne h2]; exact I.val i hi h1
 · intro q hq
   rcases List.mem_append.mp hq with hq | hq
   · rw [hup q hq]; exact I.nn q hq
   · simp at hq; subst hq; rw [upd_self]; lia
 · intro i hi
   have := I.left i hi
   rw [t1, List.count_append, List.count_singleton]
   by_cases h : i = n
   · subst h; rw [upd_self]; simp; lia
   · rw [upd_ne h, this]
     have : (n == i) = false := by simpa using Ne.symm h
     simp [this]
 · rw [List.pairwise_append]
   refine ⟨I.srt.imp_of_mem fun ha hb hab => by rw [hup _ ha, hup _ hb]; exact hab, by simp, fun a ha b hb => ?_⟩
   simp at hb; subst hb
   rw [hup a ha, upd_self]
   exact I.near a ha m hmd
 · intro q hq q' hq'
   rw [d1] at hq'
   rcases List.mem_append.mp hq with hq1 | hq1
   · rw [hup q hq1]
     rcases List.mem_append.mp hq' with hq2 | hq2
     · rw [hup q' (List.mem_of_mem_drop hq2)]; exact I.near q hq1 q' hq2
     · rw [List.mem_singleton.mp hq2, upd_self]
       have := I.near q hq1 m hmd
       lia
   · rw [List.mem_singleton.mp hq1, upd_self]
     rcases List.mem_append.mp hq' with hq2 | hq2
     · rw [hup q' (List.mem_of_mem_drop hq2)]
       have := srt_drop I.srt h q' hq2
       lia
     · rw [List.mem_singleton.mp hq2, upd_self]; lia
 · intro i hi
   rw [t2]
   rcases List.mem_append.mp hi with hi | hi
   · exact (I.why i hi).congr (hup i hi) fun p hp => hup p (List.mem_of_mem_take hp)
   · simp at hi; subst hi
     have hPQ : ∀ p ∈ Q.take (k + 1), upd v i (v m + 1) p = v p := fun p hp => hup p (List.mem_of_mem_take hp)
     by_cases h0 : S.side i = 0
     · refine .inr (.inl ⟨hout.1, h0, m, hmP, hmA, by rw [upd_self, hPQ m hmP], fun b hb hb2 => ?_⟩)
       rw [hPQ m hmP, hPQ b hb]
       rw [take_succ_get h] at hb
       rcases List.mem_append.mp hb with hb | hb
       · have hs := hout.2.1 h0
         have : S.cnt b i <= S.sum (Q.take k) i := by
          unfold Retro.sum
          exact le_sum_of (List.mem_map_of_mem hb)
         have hpos : 0 < S.cnt b i := List.count_pos_iff.mpr hb2
         lia
       · simp at hb; subst hb; exact Int.le_refl _
     · have hl : l i - 1 = 0 := hc.resolve_left h0
       have hle2 := I.left i hn
       have hall : ∀ x ∈ S.A i, ∃ b ∈ Q.take (k + 1), x = (b : Int) := by
        refine count_sum_eq _ _ (I.nd.sublist (List.take_sublist ..)) ?_
        have h1 := count_sum_le (S.A i) (Q.take (k + 1)) (I.nd.sublist (List.take_sublist ..))
        have h2 : ((Q.take (k + 1)).map fun m : Nat => (S.A i).count (m : Int)).sum = S.sum (Q.take k) i + S.cnt m i := by
         rw [take_succ_get h]; simp [Retro.sum, Retro.cnt]
        lia
       refine .inr (.inr ⟨hout.1, h0, hall, m, hmP, hmA, by rw [upd_self, hPQ m hmP], fun b hb hb2 => ?_⟩)
       rw [hPQ m hmP, hPQ b hb]
       rw [take_succ_get h] at hb
       rcases List.mem_append.mp hb with hb | hb
       · exact srt_take I.srt h b hb
       · simp at hb; subst hb; exact Int.le_refl _
 · intro i hi hq
   have h1 : i ∉ Q := fun z => hq (List.mem_append_left _ z)
   have h2 : i ≠ n := fun z => hq (by subst z; simp)
   have : (n == i) = false := by simpa using Ne.symm h2
   rw [t1, upd_ne h2, List.count_append, List.count_singleton]
   simp only [this, Bool.false_eq_true, if_false, Nat.add_zero]
   exact I.out i hi h1
end
noncomputable def wrd (v : Nat -> Int) (x : Int) : Int := if x = -1 then -1 else v x.toNat
structure Eqn (S : Retro) (v : Nat -> Int) (n : Nat) : Prop where
 lost : S.lost n = true -> v n = 0
 s1 : S.lost n = false -> S.side n = 0 -> (∃ x ∈ S.A n, 0 <= wrd v x) -> ∃ x ∈ S.A n, 0 <= wrd v x /\ v n = wrd v x + 1 /\ ∀ y ∈ S.A n, 0 <= wrd v y -> wrd v x <= wrd v y
 s2 : S.lost n = false -> S.side n = 0 -> (¬ ∃ x ∈ S.A n, 0 <= wrd v x) -> v n = -1
 w1 : S.lost n = false -> S.side n ≠ 0 -> S.A n ≠ [] -> (∀ x ∈ S.A n, 0 <= wrd v x) -> ∃ x ∈ S.A n, v n = wrd v x + 1 /\ ∀ y ∈ S.A n, wrd v y <= wrd v x
 w2 : S.lost n = false -> S.side n ≠ 0 -> ¬ (S.A n ≠ [] /\ ∀ x ∈ S.A n, 0 <= wrd v x) -> v n = -1
section
variable {S : Retro} {v l : Nat -> Int} {Q pre : List Nat} {k m n : Nat}
theorem wrd_nat {m : Nat} : wrd v (m : Int) = v m := by unfold wrd; rw [if_neg (by lia)]; simp
theorem Inv.end_ (I : Inv S v l Q Q.length [] Q) (hA : ∀ n, n < S.N -> ∀ x ∈ S.A n, x = -1 \/ ∃ m, m < S.N /\ x = (m : Int)) (hn : n < S.N) : Eqn S v n := by
 have wq : ∀ x ∈ S.A n, (0 <= wrd v x ↔ ∃ m ∈ Q, x = (m : Int)) := by
  intro x hx
  rcases hA n hn x hx with rfl | ⟨m, hm, rfl⟩
  · constructor
    · intro q; exact absurd q (by unfold wrd; simp)
    · rintro ⟨m, _, q⟩; lia
  · rw [wrd_nat]
    constructor
    · intro q
      refine ⟨m, Classical.byContradiction fun h => ?_, rfl⟩
      have := I.val m hm h
      lia
    · rintro ⟨m', h, q⟩
      have : m = m' := by lia
      subst this
      exact I.nn m h
 by_cases hQ : n ∈ Q
 · have hw := I.why n hQ
   have hnn := I.nn n hQ
   refine ⟨fun h => ?_, fun h1 h2 h3 => ?_, fun h1 h2 h3 => ?_, fun h1 h2 h3 h4 => ?_, fun h1 h2 h3 => ?_⟩
   · rcases hw with w | ⟨w1, _⟩ | ⟨w1, _⟩
     · exact w.2
     · rw [h] at w1; exact nt w1
     · rw [h] at w1; exact nt w1
   · rcases hw with w | ⟨w1, w2, a, ha, w3, w4, w5⟩ | ⟨w1, w2, _⟩
     · rw [h1] at w; exact nf (w.1)
     · refine ⟨a, w3, by rw [wrd_nat]; exact I.nn a ha, by rw [wrd_nat]; exact w4, fun y hy h0 => ?_⟩
       refine x1_2 ((wq y hy).mp h0) fun b hb y1 => ?_
       subst y1
       rw [wrd_nat, wrd_nat]
       exact w5 b hb hy
     · exact absurd h2 w2
   · rcases hw with w | ⟨w1, w2, a, ha, w3, w4, w5⟩ | ⟨w1, w2, _⟩
     · rw [h1] at w; exact nf (w.1)
     · exact absurd ⟨a, w3, by rw [wrd_nat]; exact I.nn a ha⟩ h3
     · exact absurd h2 w2
   · rcases hw with w | ⟨w1, w2, _⟩ | ⟨w1, w2, w0, a, ha, w3, w4, w5⟩
     · rw [h1] at w; exact nf (w.1)
     · exact absurd w2 h2
     · refine ⟨a, w3, by rw [wrd_nat]; exact w4, fun y hy => ?_⟩
       refine x1_2 (w0 y hy) fun b hb y2 => ?_
       subst y2
       rw [wrd_nat, wrd_nat]
       exact w5 b hb hy
   · rcases hw with w | ⟨w1, w2, _⟩ | ⟨w1, w2, w0, a, ha, w3, w4, w5⟩
     · rw [h1] at w; exact nf (w.1)
     · exact absurd w2 h2
     · refine absurd ⟨fun q => (by rw [q] at w3; cases w3), fun x hx => ?_⟩ h3
       refine x1_2 (w0 x hx) fun b hb y3 => ?_
       subst y3
       rw [wrd_nat]; exact I.nn b hb
 · refine x0_3 (I.out n hn hQ) fun o1 o2 o3 => ?_
   have hv := I.val n hn hQ
   have hl := I.left n hn
   simp only [List.take_length, List.count_nil, Nat.add_zero] at o2 o3 hl
   refine ⟨fun h => absurd (h.symm.trans o1) (by decide), fun h1 h2 h3 => ?_, fun _ _ _ => hv, fun h1 h2 h3 h4 => ?_, fun _ _ _ => hv⟩
   · exfalso
     refine cps fun _ zk => ?_
     refine x1_2 h3 fun x hx h0 => ?_
     clear h3
     refine x1_2 ((wq x hx).mp h0) fun b hb y4 => ?_
     refine zk ?_; clear zk
     subst y4
     have : S.cnt b n <= S.sum Q n := by unfold Retro.sum; exact le_sum_of (List.mem_map_of_mem hb)
     have hpos : 0 < S.cnt b n := List.count_pos_iff.mpr hx
     have := o2 h2
     lia
   · exfalso
     have hall : ∀ x ∈ S.A n, ∃ b ∈ Q, x = (b : Int) := fun x hx => (wq x hx).mp (h4 x hx)
     rcases o3 h2 with q | q
     · have : (S.A n).length <= S.sum Q n := count_sum_ge (S.A n) Q hall
       have h5 := count_sum_le (S.A n) Q I.nd
       have h6 : S.sum Q n = ((Q.map fun m : Nat => (S.A n).count (m : Int)).sum) := rfl
       lia
     · refine cps fun _ zk => ?_
       obtain ⟨x, hx⟩ := List.exists_mem_of_ne_nil _ h3
       refine x1_2 (hall x hx) fun b hb y5 => ?_
       refine zk ?_; clear zk
       subst y5
       have : S.cnt b n <= S.sum Q n := by unfold Retro.sum; exact le_sum_of (List.mem_map_of_mem hb)
       have hpos : 0 < S.cnt b n := List.count_pos_iff.mpr hx
       lia
end
noncomputable def v0 (S : Retro) (n : Nat) : Int := if S.lost n = true then 0 else -1
noncomputable def l0 (S : Retro) (n : Nat) : Int := (S.A n).length
noncomputable def q0 (S : Retro) : List Nat := (List.range S.N).filter fun n => S.lost n
theorem Inv.init (S : Retro) : Inv S (v0 S) (l0 S) (q0 S) 0 [] [] := by
 have hv : ∀ n ∈ q0 S, v0 S n = 0 := fun n hn => by
  have := (List.mem_filter.mp hn).2
  unfold v0; rw [if_pos this]
 refine ⟨List.nodup_range.filter _, fun q hq => List.mem_range.mp (List.mem_filter.mp hq).1, fun n hn hq => ?_, fun n hn => by rw [hv n hn]; decide, fun n hn => by simp [l0, Retro.sum], ?_, fun q hq q' hq' => ?_, fun n hn => .inl ⟨(List.mem_filter.mp hn).2, hv n hn⟩, fun n hn hq => ?_⟩
 · unfold v0
   rw [if_neg]
   intro h
   exact hq (List.mem_filter.mpr ⟨List.mem_range.mpr hn, h⟩)
 · refine List.Pairwise.imp_of_mem (R := fun _ _ => True) (fun ha hb _ => by rw [hv _ ha, hv _ hb]; exact Int.le_refl _) ?_
   exact List.pairwise_of_forall fun _ _ => trivial
 · rw [hv q hq, hv q' (by simpa using hq')]; decide
 · refine ⟨?_, fun _ => by simp [Retro.sum], fun _ => .inr (by simp [Retro.sum])⟩
   cases h : S.lost n with
   | false => rfl
   | true => exact absurd (List.mem_filter.mpr ⟨List.mem_range.mpr hn, h⟩) hq
theorem range_map_set {N n : Nat} {f : Nat -> Int} {x : Int} (h : n < N) : ((List.range N).map fun i => V.int (f i)).set n (.int x) = (List.range N).map fun i => V.int (upd f n x i) := by
 apply List.ext_getElem?
 intro i
 rw [List.getElem?_set]
 simp only [List.length_map, List.length_range, List.getElem?_map]
 by_cases hi : n = i
 · subst hi
   rw [if_pos rfl, if_pos h, List.getElem?_range h]
   simp [upd_self]
 · rw [if_neg hi]
   by_cases h2 : i < N
   · rw [List.getElem?_range h2]; simp [upd_ne (Ne.symm hi)]
   · rw [List.getElem?_eq_none (by simpa using h2)]; rfl
noncomputable abbrev lf (N : Nat) (l : Nat -> Int) : List V := (List.range N).map fun i => V.int (l i)
structure HS (σ σ1 : Hp) (rv rl rb rq : Nat) (bs : List Nat) (N : Nat) (v : Nat -> Int) (L : List V) (B : Nat -> List Nat) (Q : List Nat) : Prop where
 pre : σ <+: σ1
 hv : σ1[rv]? = some (.list ((List.range N).map fun i => V.int (v i)))
 hl : σ1[rl]? = some (.list L)
 hb : σ1[rb]? = some (.list (bs.map .ref))
 bl : bs.length = N
 hB : ∀ (i b : Nat), bs[i]? = some b -> σ1[b]? = some (.list ((B i).map fun n => V.int (n : Nat)))
 hq : σ1[rq]? = some (.list (Q.map fun n => V.int (n : Nat)))
 nd : (rv :: rl :: rb :: rq :: bs).Nodup
 ge : ∀ r ∈ rv :: rl :: rb :: rq :: bs, σ.length <= r
section
variable {σ σ1 τ : Hp} {rv rl rb rq : Nat} {bs : List Nat} {N n : Nat} {v l : Nat -> Int} {L : List V} {B : Nat -> List Nat} {Q : List Nat}
theorem HS.grow (H : HS σ σ1 rv rl rb rq bs N v L B Q) (p : σ1 <+: τ) : HS σ τ rv rl rb rq bs N v L B Q :=
 ⟨H.pre.trans p, pG p H.hv, pG p H.hl, pG p H.hb, H.bl, fun i b e => pG p (H.hB i b e), pG p H.hq, H.nd, H.ge⟩
theorem HS.ne (H : HS σ σ1 rv rl rb rq bs N v L B Q) : rv ≠ rl /\ rv ≠ rb /\ rv ≠ rq /\ rv ∉ bs /\ rl ≠ rb /\ rl ≠ rq /\ rl ∉ bs /\ rb ≠ rq /\ rb ∉ bs /\ rq ∉ bs /\ bs.Nodup := by
 have := H.nd
 simp only [List.nodup_cons, List.mem_cons, not_or] at this
 refine cps fun _ zk => ?_
 refine x0_5 this fun y1 y2 y3 j k => ?_
 clear this
 refine x0_4 y1 fun a b c d => ?_
 clear y1
 refine x0_3 y2 fun e f g => ?_
 clear y2
 obtain ⟨h, i⟩ := y3
 refine zk ?_; clear zk
 exact ⟨a, b, c, d, e, f, g, h, i, j, k⟩
theorem ne_of_bs {r i x : Nat} (h : r ∉ bs) (e : bs[i]? = some x) : r ≠ x := fun q => h (by rw [q]; exact List.mem_of_getElem? e)
theorem ne_of_mem {r x : Nat} (h : r ∉ bs) (e : x ∈ bs) : x ≠ r := fun q => h (by rw [<- q]; exact e)
theorem HS.setv (H : HS σ σ1 rv rl rb rq bs N v L B Q) (hn : n < N) (x : Int) : HS σ (σ1.set rv (.list (((List.range N).map fun i => V.int (v i)).set n (.int x)))) rv rl rb rq bs N (upd v n x) L B Q := by
 refine x0_5 (H.ne) fun a b c d _ => ?_
 rw [range_map_set hn]
 exact ⟨pre_set H.pre (H.ge _ (.head _)) _, get_set H.hv, by rw [get_set_ne a]; exact H.hl, by rw [get_set_ne b]; exact H.hb, H.bl, fun i x e => by rw [get_set_ne (ne_of_bs d e)]; exact H.hB i x e, by rw [get_set_ne c]; exact H.hq, H.nd, H.ge⟩
theorem HS.setl (H : HS σ σ1 rv rl rb rq bs N v (lf N l) B Q) (hn : n < N) (x : Int) : HS σ (σ1.set rl (.list (((List.range N).map fun i => V.int (l i)).set n (.int x)))) rv rl rb rq bs N v (lf N (upd l n x)) B Q := by
 refine x0_8 (H.ne) fun a _ _ _ e f g _ => ?_
 rw [range_map_set hn]
 exact ⟨pre_set H.pre (H.ge _ (.tail _ (.head _))) _, by rw [get_set_ne (Ne.symm a)]; exact H.hv, get_set H.hl, by rw [get_set_ne e]; exact H.hb, H.bl, fun i x q => by rw [get_set_ne (ne_of_bs g q)]; exact H.hB i x q, by rw [get_set_ne f]; exact H.hq, H.nd, H.ge⟩
theorem HS.putl (H : HS σ σ1 rv rl rb rq bs N v L B Q) (L' : List V) : HS σ (σ1.set rl (.list L')) rv rl rb rq bs N v L' B Q := by
 refine x0_8 (H.ne) fun a _ _ _ e f g _ => ?_
 exact ⟨pre_set H.pre (H.ge _ (.tail _ (.head _))) _, by rw [get_set_ne (Ne.symm a)]; exact H.hv, get_set H.hl, by rw [get_set_ne e]; exact H.hb, H.bl, fun i x q => by rw [get_set_ne (ne_of_bs g q)]; exact H.hB i x q, by rw [get_set_ne f]; exact H.hq, H.nd, H.ge⟩
theorem HS.congr {v' : Nat -> Int} {B' : Nat -> List Nat} (H : HS σ σ1 rv rl rb rq bs N v L B Q) (hv : ∀ i, i < N -> v i = v' i) (hB : ∀ i, i < N -> B i = B' i) : HS σ σ1 rv rl rb rq bs N v' L B' Q := by
 refine ⟨H.pre, ?_, H.hl, H.hb, H.bl, fun i b q => ?_, H.hq, H.nd, H.ge⟩
 · rw [H.hv]
   congr 2
   exact List.map_congr_left fun i hi => by rw [hv i (List.mem_range.mp hi)]
 · have : i < N := by rw [<- H.bl]; exact (gsm q).1
   rw [H.hB i b q, hB i this]
theorem HS.pushq (H : HS σ σ1 rv rl rb rq bs N v L B Q) (n : Nat) : HS σ (σ1.set rq (.list (Q.map (fun n => V.int (n : Nat)) ++ [.int n]))) rv rl rb rq bs N v L B (Q ++ [n]) := by
 refine x0_11 (H.ne) fun _ _ c _ _ f _ h _ j _ => ?_
 refine ⟨pre_set H.pre (H.ge _ (by simp)) _, by rw [get_set_ne (Ne.symm c)]; exact H.hv, by rw [get_set_ne (Ne.symm f)]; exact H.hl, by rw [get_set_ne (Ne.symm h)]; exact H.hb, H.bl, fun i x q => by rw [get_set_ne (ne_of_bs j q)]; exact H.hB i x q, ?_, H.nd, H.ge⟩
 rw [get_set H.hq]; simp
theorem HS.pushb (H : HS σ σ1 rv rl rb rq bs N v L B Q) {m b n : Nat} (hb : bs[m]? = some b) : HS σ (σ1.set b (.list ((B m).map (fun n => V.int (n : Nat)) ++ [.int n]))) rv rl rb rq bs N v L (fun i => if i = m then B m ++ [n] else B i) Q := by
 refine x0_11 (H.ne) fun _ _ _ d _ _ g _ i1 j k => ?_
 have hm := List.mem_of_getElem? hb
 refine ⟨pre_set H.pre (H.ge _ (by simp [hm])) _, by rw [get_set_ne (ne_of_mem d hm)]; exact H.hv, by rw [get_set_ne (ne_of_mem g hm)]; exact H.hl, by rw [get_set_ne (ne_of_mem i1 hm)]; exact H.hb, H.bl, fun i x q => ?_, by rw [get_set_ne (ne_of_mem j hm)]; exact H.hq, H.nd, H.ge⟩
 by_cases hi : i = m
 · subst hi
   rw [hb] at q; refine so1 q ?_
   rw [get_set (H.hB i b hb)]; simp
 · have hne : b ≠ x := fun z => by
    subst z
    have h1 := (gsm q)
    have h2 := (gsm hb)
    refine cps fun _ zk => ?_
    obtain ⟨a1, a2⟩ := h1
    obtain ⟨c1, c2⟩ := h2
    refine zk ?_; clear zk
    rcases Nat.lt_or_gt_of_ne hi with hlt | hlt
    · exact (List.pairwise_iff_getElem.mp k) i m a1 c1 hlt (a2.trans c2.symm)
    · exact (List.pairwise_iff_getElem.mp k) m i c1 a1 hlt (c2.trans a2.symm)
   rw [get_set_ne hne, if_neg hi]
   exact H.hB i x q
end
noncomputable def bef (S : Retro) (m : Nat) : List Nat := (List.range S.N).flatMap fun n => List.replicate (S.cnt m n) n
theorem count_flat (f : Nat -> Nat) : ∀ (l : List Nat) (n : Nat), l.Nodup -> (l.flatMap fun n => List.replicate (f n) n).count n = if n ∈ l then f n else 0
 | [], n, _ => by simp
 | a :: l, n, h => by
   rw [List.nodup_cons] at h
   rw [List.flatMap_cons, List.count_append, count_flat f l n h.2, List.count_replicate]
   by_cases e : a = n
   · subst e
     simp [h.1]
   · have e1 : (a == n) = false := by simpa using e
     have e2 : n ≠ a := Ne.symm e
     simp [e1, e2]
theorem bef_count (S : Retro) {m n : Nat} (h : n < S.N) : (bef S m).count n = S.cnt m n := by
 unfold bef
 rw [count_flat _ _ _ List.nodup_range, if_pos (List.mem_range.mpr h)]
theorem bef_lt (S : Retro) {m n : Nat} (h : n ∈ bef S m) : n < S.N := by
 unfold bef at h
 refine x1_2 (List.mem_flatMap.mp h) fun a ha hb => ?_
 rw [List.mem_replicate] at hb
 rw [hb.2]; exact List.mem_range.mp ha
theorem take_count_lt {l : List Nat} {i n : Nat} (h : l[i]? = some n) : (l.take i).count n < l.count n := by
 have e : l = l.take i ++ n :: l.drop (i + 1) := by
  have := (gsm h)
  obtain ⟨h1, h2⟩ := this
  conv => lhs; rw [<- List.take_append_drop i l, List.drop_eq_getElem_cons h1, h2]
 conv => rhs; rw [e]
 rw [List.count_append, List.count_cons_self]
 and_intros
section
variable {σ σ1 τ : Hp} {rv rl rb rq : Nat} {bs : List Nat} {v l : Nat -> Int} {B : Nat -> List Nat} {Q : List Nat} {g : List O} {Φ : CallF} {S : Retro} {sd : V}
noncomputable def slFrm (sd aft lst : V) (rv rl rb rq : Nat) (u7 u8 u9 : Option V) : Frm := [some sd, some aft, some lst, some (.ref rv), some (.ref rl), some (.ref rb), some (.ref rq), u7, u8, u9]
theorem idx_map {N n r : Nat} {f : Nat -> Int} (h : σ1[r]? = some (.list ((List.range N).map fun i => V.int (f i)))) (hn : n < N) (hN : N < 100000) : idx g σ1 (.ref r) (.int (n : Nat)) = some (.int (f n)) := by
 refine idx_list (show getO g σ1 (.ref r) = _ from h) ?_ (by lia)
 rw [List.getElem?_map, List.getElem?_range hn]; rfl
theorem nodup_len : ∀ {N : Nat} {Q : List Nat}, Q.Nodup -> (∀ q ∈ Q, q < N) -> Q.length <= N := by
 intro N Q h1 h2
 have h := count_sum_le ((List.range N).map fun i : Nat => (i : Int)) Q h1
 have key : ∀ (D : List Nat), (∀ q ∈ D, q < N) -> D.length <= (D.map fun m : Nat => ((List.range N).map fun i : Nat => (i : Int)).count (m : Int)).sum := by
  intro D
  induction D with
  | nil => intro _; simp
  | cons d D ih =>
    intro hD
    have h1 := ih fun q hq => hD q (.tail _ hq)
    have h2 : 0 < ((List.range N).map fun i : Nat => (i : Int)).count (d : Int) := List.count_pos_iff.mpr (List.mem_map.mpr ⟨d, List.mem_range.mpr (hD d (.head _)), rfl⟩)
    simp only [List.map_cons, List.sum_cons, List.length_cons]
    lia
 have := key Q h2
 simp at h
 and_intros
noncomputable def slInner : Ss := .cons (.augIdx (.loc 4) (.loc 7) .sub (.lit (.int 1)))
 (.cons (.ife (.and (.cmp .eq (.idx (.loc 3) (.loc 7)) (.lit (.int (-1)))) (.or (.cmp .eq (.idx (.loc 0) (.loc 7)) (.lit (.int 0))) (.cmp .eq (.idx (.loc 4) (.loc 7)) (.lit (.int 0)))))
  (.cons (.setIdx (.loc 3) (.loc 7) (.bin .add (.idx (.loc 3) (.loc 8)) (.lit (.int 1)))) (.cons (.expr (.append (.loc 6) (.loc 7))) .nil)) .nil) .nil)
theorem sl_step {aft lst : V} {u9 : Option V} {sl : List Int} {k m n : Nat} {pre : List Nat} (hN : S.N < 100000) (Sd : IntsAt g σ sd sl) (hsl : ∀ i, i < S.N -> sl[i]? = some (S.side i))
 (H : HS σ σ1 rv rl rb rq bs S.N v (lf S.N l) B Q) (I : Inv S v l Q k pre (Q.take (k + 1))) (hm : Q[k]? = some m) (hn : n < S.N) (hp : pre.count n < S.cnt m n) :
 ∃ v' l' Q' σ2, execSs g Φ slInner (slFrm sd aft lst rv rl rb rq (some (.int (n : Nat))) (some (.int (m : Nat))) u9) σ1 = some (.next, slFrm sd aft lst rv rl rb rq (some (.int (n : Nat))) (some (.int (m : Nat))) u9, σ2) /\
   HS σ σ2 rv rl rb rq bs S.N v' (lf S.N l') B Q' /\ Inv S v' l' Q' k (pre ++ [n]) (Q'.take (k + 1)) /\ Q'[k]? = some m := by
 have hmN : m < S.N := I.lt m (List.mem_of_getElem? hm)
 have st1 : execS g Φ (.augIdx (.loc 4) (.loc 7) .sub (.lit (.int 1))) (slFrm sd aft lst rv rl rb rq (some (.int (n : Nat))) (some (.int (m : Nat))) u9) σ1 = some (.next, slFrm sd aft lst rv rl rb rq (some (.int (n : Nat))) (some (.int (m : Nat))) u9, σ1.set rl (.list (((List.range S.N).map fun i => V.int (l i)).set n (.int (l n - 1))))) :=
  s_augIdx (eL rfl) (eL rfl) (idx_map H.hl hn hN) eI ar_sub (setIdx_list H.hl (by simp [hn]) (by lia))
 have H1 := H.setl hn (l n - 1)
 generalize σ1.set rl (.list (((List.range S.N).map fun i => V.int (l i)).set n (.int (l n - 1)))) = σa at st1 H1
 have ev : ∀ {j : Nat}, j < S.N -> idx g σa (.ref rv) (.int (j : Nat)) = some (.int (v j)) := fun h => idx_map H1.hv h hN
 have el : idx g σa (.ref rl) (.int (n : Nat)) = some (.int (l n - 1)) := by rw [idx_map H1.hl hn hN, upd_self]
 have es : idx g σa sd (.int (n : Nat)) = some (.int (S.side n)) := idx_list (getO_of_list (Sd.pre H1.pre)) (by rw [List.getElem?_map, hsl n hn]; rfl) (by lia)
 have c : vE g Φ (.and (.cmp .eq (.idx (.loc 3) (.loc 7)) (.lit (.int (-1)))) (.or (.cmp .eq (.idx (.loc 0) (.loc 7)) (.lit (.int 0))) (.cmp .eq (.idx (.loc 4) (.loc 7)) (.lit (.int 0))))) (slFrm sd aft lst rv rl rb rq (some (.int (n : Nat))) (some (.int (m : Nat))) u9) σa =
  some (.bool (decide (v n = -1) && (decide (S.side n = 0) || decide (l n - 1 = 0))), σa) :=
  e_and_b (e_cmp (eX (eL rfl) (eL rfl) (ev hn)) eI cmp_eqI) (e_or_b (e_cmp (eX (eL rfl) (eL rfl) es) eI cmp_eqI) (e_cmp (eX (eL rfl) (eL rfl) el) eI cmp_eqI))
 by_cases hc : v n = -1 /\ (S.side n = 0 \/ l n - 1 = 0)
 · have hb : (decide (v n = -1) && (decide (S.side n = 0) || decide (l n - 1 = 0))) = true := by simpa using hc
   rw [hb] at c
   have I2 := I.take_ hm hn hp hc.1 hc.2
   have H2 := H1.setv hn (v m + 1)
   have st2 : execS g Φ (.setIdx (.loc 3) (.loc 7) (.bin .add (.idx (.loc 3) (.loc 8)) (.lit (.int 1)))) (slFrm sd aft lst rv rl rb rq (some (.int (n : Nat))) (some (.int (m : Nat))) u9) σa = some (.next, slFrm sd aft lst rv rl rb rq (some (.int (n : Nat))) (some (.int (m : Nat))) u9, σa.set rv (.list (((List.range S.N).map fun i => V.int (v i)).set n (.int (v m + 1))))) :=
    s_setIdx (e_bin (eX (eL rfl) (eL rfl) (ev hmN)) eI ar_add) (eL rfl) (eL rfl) (setIdx_list H1.hv (by simp [hn]) (by lia))
   generalize σa.set rv (.list (((List.range S.N).map fun i => V.int (v i)).set n (.int (v m + 1)))) = σb at st2 H2
   have hql : Q.length <= S.N := nodup_len I.nd I.lt
   have st3 : execS g Φ (.expr (.append (.loc 6) (.loc 7))) (slFrm sd aft lst rv rl rb rq (some (.int (n : Nat))) (some (.int (m : Nat))) u9) σb = some (.next, slFrm sd aft lst rv rl rb rq (some (.int (n : Nat))) (some (.int (m : Nat))) u9, σb.set rq (.list (Q.map (fun n => V.int (n : Nat)) ++ [.int n]))) :=
    s_expr (e_append (eL rfl) ⟨_, H2.hq⟩ (eL rfl) H2.hq (by simp; and_intros))
   refine i4_4 _ _ _ _ (sC st1 (sC (s_if_t c rfl (sC st2 (sC st3 sN))) sN)) (H2.pushq n) I2 ?_
   rw [List.getElem?_append_left (gsm hm).1]; exact hm
 · have hb : (decide (v n = -1) && (decide (S.side n = 0) || decide (l n - 1 = 0))) = false := by
    cases hq : (decide (v n = -1) && (decide (S.side n = 0) || decide (l n - 1 = 0))) with
    | false => rfl
    | true => exact absurd (by simpa using hq) hc
   rw [hb] at c
   exact i4_4 _ _ _ _ (sC st1 (sC (s_if_f c rfl sN) sN)) H1 (I.skip hn hc) hm
end
theorem while_run {cond : Frm -> Hp -> Option (V × Hp)} {body : Frm -> Hp -> Option (Fl × Frm × Hp)} (P : Nat -> Frm -> Hp -> Prop) (D : Frm -> Hp -> Prop)
 (step : ∀ k m σ, P k m σ -> (∃ c σ', cond m σ = some (c, σ') /\ truth c = some false /\ D m σ') \/ (∃ c σ1 m2 σ2 k', cond m σ = some (c, σ1) /\ truth c = some true /\ body m σ1 = some (.next, m2, σ2) /\ k' < k /\ P k' m2 σ2)) :
 ∀ (k fuel : Nat) (m : Frm) (σ : Hp), k < fuel -> P k m σ -> ∃ m' σ', whileLoop cond body fuel m σ = some (.next, m', σ') /\ D m' σ' := by
 intro k
 induction k using Nat.strongRecOn with
 | ind k ih =>
   intro fuel m σ hf hp
   obtain ⟨f, rfl⟩ : ∃ f, fuel = f + 1 := ⟨fuel - 1, by lia⟩
   rcases step k m σ hp with ⟨c, σ', e1, e2, d⟩ | ⟨c, σ1, m2, σ2, k', e1, e2, e3, hk, hp2⟩
   · exact i2_2 m σ' (by simp [whileLoop, e1, b2, e2, b1]) d
   · refine x2_2 (ih k' hk f m2 σ2 (by lia) hp2) fun m' σ' e4 d => ?_
     exact i2_2 m' σ' (by simp [whileLoop, e1, b2, e2, b1, e3, b3, e4]) d
section
variable {σ σ1 τ : Hp} {rv rl rb rq : Nat} {bs : List Nat} {v l : Nat -> Int} {B : Nat -> List Nat} {Q : List Nat} {g : List O} {Φ : CallF} {S : Retro} {sd : V}
theorem sl_round {aft lst : V} {u7 u8 : Option V} {sl : List Int} {k m : Nat} (hN : S.N < 100000) (Sd : IntsAt g σ sd sl) (hsl : ∀ i, i < S.N -> sl[i]? = some (S.side i))
 (hB : ∀ m n, m < S.N -> n < S.N -> (B m).count n = S.cnt m n) (hB2 : ∀ m n, m < S.N -> n ∈ B m -> n < S.N) (hB3 : ∀ m, m < S.N -> (B m).length < 100000)
 (H : HS σ σ1 rv rl rb rq bs S.N v (lf S.N l) B Q) (I : Inv S v l Q k [] (Q.take k)) (hm : Q[k]? = some m) :
 ∃ u7' u8' v' l' Q' σ2, execSs g Φ (.cons (.asg 8 (.idx (.loc 6) (.loc 9))) (.cons (.augLoc 9 .add (.lit (.int 1))) (.cons (.for_ 7 (.idx (.loc 5) (.loc 8)) slInner) .nil))) (slFrm sd aft lst rv rl rb rq u7 u8 (some (.int (k : Nat)))) σ1 = some (.next, slFrm sd aft lst rv rl rb rq u7' u8' (some (.int ((k + 1 : Nat) : Int))), σ2) /\
   HS σ σ2 rv rl rb rq bs S.N v' (lf S.N l') B Q' /\ Inv S v' l' Q' (k + 1) [] (Q'.take (k + 1)) /\ k + 1 <= Q'.length := by
 have hql : Q.length <= S.N := nodup_len I.nd I.lt
 have hmN : m < S.N := I.lt m (List.mem_of_getElem? hm)
 have hk : k < Q.length := (gsm hm).1
 have i1 : idx g σ1 (.ref rq) (.int (k : Nat)) = some (.int (m : Nat)) := idx_list (show getO g σ1 (.ref rq) = _ from H.hq) (by rw [List.getElem?_map, hm]; rfl) (by lia)
 refine cps fun _ zk => ?_
 obtain ⟨b, hb⟩ : ∃ b, bs[m]? = some b := ⟨bs[m]'(by rw [H.bl]; exact hmN), List.getElem?_eq_getElem _⟩
 have i2 : idx g σ1 (.ref rb) (.int (m : Nat)) = some (.ref b) := idx_list (show getO g σ1 (.ref rb) = _ from H.hb) (by rw [List.getElem?_map, hb]; rfl) (by lia)
 have hl : ∀ {τ : Hp} {v' : Nat -> Int} {l' : Nat -> Int} {Q' : List Nat}, HS σ τ rv rl rb rq bs S.N v' (lf S.N l') B Q' -> listOf g τ (.ref b) = some ((B m).map fun n => V.int (n : Nat)) := fun H => by
  have := H.hB m b hb
  simp [listOf, getO, this]
 refine x2_2 (for_list (g := g) (set := fun v m _ => setLoc 7 v m) (body := fun m σ => execSs g Φ slInner m σ) (l := .ref b) (xs := (B m).map fun n => V.int (n : Nat)) (fuel := loopFuel)
  (fun i fr τ => ∃ v' l' Q' u7', fr = slFrm sd aft lst rv rl rb rq u7' (some (.int (m : Nat))) (some (.int ((k + 1 : Nat) : Int))) /\ HS σ τ rv rl rb rq bs S.N v' (lf S.N l') B Q' /\ Inv S v' l' Q' k ((B m).take i) (Q'.take (k + 1)) /\ Q'[k]? = some m)
  (fuel_lt (by have := hB3 m hmN; simp; lia)) (m := slFrm sd aft lst rv rl rb rq u7 (some (.int (m : Nat))) (some (.int ((k + 1 : Nat) : Int)))) (σ := σ1) (i4_4 v l Q u7 rfl H (I.start hm) hm) (by
   rintro i fr τ ⟨v', l', Q', u7', _, H', _⟩
   exact hl H') (by
   rintro i x fr τ hix ⟨v', l', Q', u7', rfl, H', I', hm'⟩
   rw [List.getElem?_map, Option.map_eq_some_iff] at hix
   refine x1_2 hix fun n hin zz2 => ?_
   clear hix
   subst zz2
   have hn : n < S.N := hB2 m n hmN (List.mem_of_getElem? hin)
   have hp : ((B m).take i).count n < S.cnt m n := by rw [<- hB m n hmN hn]; exact take_count_lt hin
   refine x4_4 (sl_step (g := g) (Φ := Φ) (aft := aft) (lst := lst) (u9 := some (.int ((k + 1 : Nat) : Int))) hN Sd hsl H' I' hm' hn hp) fun v2 l2 Q2 σ2 e H2 I2 hm2 => ?_
   refine i4_4 _ (.next) _ σ2 rfl e (.inl rfl) (i4_4 v2 l2 Q2 _ rfl H2 ?_ hm2)
   rw [List.take_succ, hin]
   exact I2)) fun m' σ2 e y2 => ?_
 refine x4_4 y2 fun v' l' Q' u7' y3 H' I' hm' => ?_
 refine zk ?_; clear zk
 subst y3
 rw [List.length_map, List.take_length] at I'
 have ad : arith .add (k : Int) 1 = some ((k + 1 : Nat) : Int) := by rw [ar_add]; simp
 refine i6_1 u7' _ v' l' Q' σ2 ⟨(sC (sA (eX (eL rfl) (eL rfl) i1) (lb rfl)) (sC (s_aug rfl eI ad) (sC (s_for (eX (eL rfl) (eL rfl) i2) (iter_list (hl H)) e) sN))), H', (I'.finish hm' fun n hn => hB m n hmN hn), ((gsm hm').1)⟩
theorem sl_while {aft lst : V} {u7 u8 : Option V} {sl : List Int} (hN : S.N < 100000) (Sd : IntsAt g σ sd sl) (hsl : ∀ i, i < S.N -> sl[i]? = some (S.side i))
 (hB : ∀ m n, m < S.N -> n < S.N -> (B m).count n = S.cnt m n) (hB2 : ∀ m n, m < S.N -> n ∈ B m -> n < S.N) (hB3 : ∀ m, m < S.N -> (B m).length < 100000)
 (H : HS σ σ1 rv rl rb rq bs S.N v (lf S.N l) B Q) (I : Inv S v l Q 0 [] (Q.take 0)) :
 ∃ u7' u8' u9' v' l' Q' σ2, execS g Φ (.while (.cmp .lt (.loc 9) (.blt .len (.cons (.loc 6) .nil))) (.cons (.asg 8 (.idx (.loc 6) (.loc 9))) (.cons (.augLoc 9 .add (.lit (.int 1))) (.cons (.for_ 7 (.idx (.loc 5) (.loc 8)) slInner) .nil)))) (slFrm sd aft lst rv rl rb rq u7 u8 (some (.int 0))) σ1 = some (.next, slFrm sd aft lst rv rl rb rq u7' u8' u9', σ2) /\
   HS σ σ2 rv rl rb rq bs S.N v' (lf S.N l') B Q' /\ Inv S v' l' Q' Q'.length [] Q' := by
 refine cps fun _ zk => ?_
 refine x2_2 (while_run (cond := fun m σ => vE g Φ (.cmp .lt (.loc 9) (.blt .len (.cons (.loc 6) .nil))) m σ) (body := fun m σ => execSs g Φ (.cons (.asg 8 (.idx (.loc 6) (.loc 9))) (.cons (.augLoc 9 .add (.lit (.int 1))) (.cons (.for_ 7 (.idx (.loc 5) (.loc 8)) slInner) .nil))) m σ)
  (fun r fr τ => ∃ k u7' u8' v' l' Q', fr = slFrm sd aft lst rv rl rb rq u7' u8' (some (.int (k : Nat))) /\ HS σ τ rv rl rb rq bs S.N v' (lf S.N l') B Q' /\ Inv S v' l' Q' k [] (Q'.take k) /\ k <= Q'.length /\ r + k = S.N)
  (fun fr τ => ∃ (k : Nat) (u7' u8' : Option V) (v' l' : Nat -> Int) (Q' : List Nat), fr = slFrm sd aft lst rv rl rb rq u7' u8' (some (.int (k : Nat))) /\ HS σ τ rv rl rb rq bs S.N v' (lf S.N l') B Q' /\ Inv S v' l' Q' Q'.length [] Q') (by
   rintro r fr τ ⟨k, u7', u8', v', l', Q', rfl, H', I', hk, hr⟩
   have hql : Q'.length <= S.N := nodup_len I'.nd I'.lt
   have c : vE g Φ (.cmp .lt (.loc 9) (.blt .len (.cons (.loc 6) .nil))) (slFrm sd aft lst rv rl rb rq u7' u8' (some (.int (k : Nat)))) τ = some (.bool (decide ((k : Int) < ((Q'.map fun n => V.int (n : Nat)).length : Nat))), τ) :=
    e_cmp (eL rfl) (e_len (eL rfl) (by simp [listOf, getO, H'.hq]) (by simp; lia)) cmp_ltI
   by_cases h : k < Q'.length
   · right
     rw [show decide ((k : Int) < ((Q'.map fun n => V.int (n : Nat)).length : Nat)) = true by simp; exact h] at c
     refine x6_1 (sl_round (g := g) (Φ := Φ) (aft := aft) (lst := lst) (u7 := u7') (u8 := u8') hN Sd hsl hB hB2 hB3 H' I' (List.getElem?_eq_getElem h)) fun u7'' u8'' v2 l2 Q2 σ2 zq => x0_4 zq fun e H2 I2 hlen => ?_
     exact i5_5 _ τ _ σ2 (r - 1) c rfl e (by lia) (i6_1 (k + 1) _ _ v2 l2 Q2 ⟨rfl, H2, I2, hlen, (by lia)⟩)
   · left
     rw [show decide ((k : Int) < ((Q'.map fun n => V.int (n : Nat)).length : Nat)) = false by simp; lia] at c
     have : k = Q'.length := by lia
     subst this
     rw [List.take_length] at I'
     exact i2_3 _ τ c rfl (i6_1 Q'.length u7' u8' v' l' Q' ⟨rfl, H', I'⟩))
  S.N loopFuel (slFrm sd aft lst rv rl rb rq u7 u8 (some (.int 0))) σ1 (fuel_lt (by lia)) (i6_1 0 u7 u8 v l Q ⟨rfl, H, I, (Nat.zero_le _), rfl⟩)) fun m' σ2 e y5 => ?_
 refine x6_1 y5 fun k u7' u8' v' l' Q' zq => x0_3 zq fun y6 H' I' => ?_
 refine zk ?_; clear zk
 subst y6
 exact ⟨u7', u8', _, v', l', Q', σ2, s_while e, H', I'⟩
end
noncomputable def bi (S : Retro) (i m : Nat) : List Nat := (List.range i).flatMap fun n => List.replicate (S.cnt m n) n
noncomputable def vi (S : Retro) (i n : Nat) : Int := if n < i /\ S.lost n = true then 0 else -1
noncomputable def qi (S : Retro) (i : Nat) : List Nat := (List.range i).filter fun n => S.lost n
theorem vi_ne {S : Retro} {i n : Nat} (h : n ≠ i) : vi S (i + 1) n = vi S i n := by
 unfold vi
 have : (n < i + 1) = (n < i) := propext (by lia)
 simp only [this]
theorem vi_same {S : Retro} {i : Nat} (h : S.lost i = false) : vi S (i + 1) i = vi S i i := by simp [vi, h]
theorem vi_lost {S : Retro} {i : Nat} (h : S.lost i = true) : vi S (i + 1) i = 0 := by simp [vi, h]
theorem bi_succ {S : Retro} {i m : Nat} : bi S (i + 1) m = bi S i m ++ List.replicate (S.cnt m i) i := by
 unfold bi; rw [List.range_succ, List.flatMap_append]; simp
theorem qi_succ {S : Retro} {i : Nat} : qi S (i + 1) = qi S i ++ (if S.lost i = true then [i] else []) := by
 unfold qi; rw [List.range_succ, List.filter_append]
 cases h : S.lost i <;> simp [h]
theorem bi_len {S : Retro} (h : ∀ n, (S.A n).length <= 24) {i m : Nat} : (bi S i m).length <= 24 * i := by
 induction i with
 | zero => simp [bi]
 | succ i ih =>
   rw [bi_succ, List.length_append, List.length_replicate]
   have : S.cnt m i <= (S.A i).length := List.count_le_length
   have := h i
   lia
theorem qi_len {S : Retro} {i : Nat} : (qi S i).length <= i := by
 unfold qi
 exact Nat.le_trans (List.length_filter_le ..) (by simp)
section
variable {σ σ1 τ : Hp} {rv rl rb rq : Nat} {bs : List Nat} {v l : Nat -> Int} {B : Nat -> List Nat} {Q : List Nat} {g : List O} {Φ : CallF} {S : Retro} {sd : V}
noncomputable def slEdge : Ss := .cons (.ife (.cmp .ne (.loc 8) (.lit (.int (-1)))) (.cons (.expr (.append (.idx (.loc 5) (.loc 8)) (.loc 7))) .nil) .nil) .nil
noncomputable def slFill : Ss := .cons (.expr (.append (.loc 4) (.blt .len (.cons (.idx (.loc 1) (.loc 7)) .nil))))
 (.cons (.for_ 8 (.idx (.loc 1) (.loc 7)) slEdge)
 (.cons (.ife (.idx (.loc 2) (.loc 7)) (.cons (.setIdx (.loc 3) (.loc 7) (.lit (.int 0))) (.cons (.expr (.append (.loc 6) (.loc 7))) .nil)) .nil) .nil))
structure RowsAt (g : List O) (σ : Hp) (aft lst : V) (S : Retro) : Prop where
 rows : ∃ avs, listOf g σ aft = some avs /\ avs.length = S.N /\ ∀ i, i < S.N -> ∃ u, avs[i]? = some u /\ IntsAt g σ u (S.A i)
 lost : ∃ lvs, listOf g σ lst = some lvs /\ ∀ i, i < S.N -> lvs[i]? = some (.bool (S.lost i))
 short : ∀ n, (S.A n).length <= 24
 N : S.N <= 4000
 ok : ∀ n, n < S.N -> ∀ x ∈ S.A n, x = -1 \/ ∃ m, m < S.N /\ x = (m : Int)
theorem RowsAt.pre {aft lst : V} (R : RowsAt g σ aft lst S) (p : σ <+: τ) : RowsAt g τ aft lst S :=
 ⟨let ⟨avs, a, b, c⟩ := R.rows; (i1_3 avs (pre_listOf p a) b (fun i h => let ⟨u, d, e⟩ := c i h; (i1_2 u d (e.pre p)))), let ⟨lvs, a, b⟩ := R.lost; (i1_2 lvs (pre_listOf p a) b), R.short, R.N, R.ok⟩
theorem count_take_succ {xs : List Int} {j : Nat} {x y : Int} (h : xs[j]? = some x) : (xs.take (j + 1)).count y = (xs.take j).count y + (if x = y then 1 else 0) := by
 rw [List.take_succ, h, List.count_append]
 by_cases e : x = y
 · subst e; simp
 · have : (x == y) = false := by simpa using e
   simp [e]
theorem sl_edge {aft lst : V} {i j : Nat} {x : Int} {u8 u9 : Option V} {L : List V} (R : RowsAt g σ aft lst S) (hi : i < S.N) (hx : (S.A i)[j]? = some x)
 (H : HS σ σ1 rv rl rb rq bs S.N v L (fun m => bi S i m ++ List.replicate (((S.A i).take j).count (m : Int)) i) Q) :
 ∃ σ2, execSs g Φ slEdge (slFrm sd aft lst rv rl rb rq (some (.int (i : Nat))) (some (.int x)) u9) σ1 = some (.next, slFrm sd aft lst rv rl rb rq (some (.int (i : Nat))) (some (.int x)) u9, σ2) /\
   HS σ σ2 rv rl rb rq bs S.N v L (fun m => bi S i m ++ List.replicate (((S.A i).take (j + 1)).count (m : Int)) i) Q := by
 have c : vE g Φ (.cmp .ne (.loc 8) (.lit (.int (-1)))) (slFrm sd aft lst rv rl rb rq (some (.int (i : Nat))) (some (.int x)) u9) σ1 = some (.bool (decide (x ≠ -1)), σ1) := e_cmp (eL rfl) eI cmp_neI
 have hN := R.N
 rcases R.ok i hi x (List.mem_of_getElem? hx) with rfl | ⟨m, hm, rfl⟩
 · refine i1_2 σ1 (sC (s_if_f c rfl sN) sN) (H.congr (fun _ _ => rfl) fun m hm => ?_)
   rw [count_take_succ hx, if_neg (by lia)]; rfl
 · rw [show decide ((m : Int) ≠ -1) = true by simp] at c
   obtain ⟨b, hb⟩ : ∃ b, bs[m]? = some b := ⟨bs[m]'(by rw [H.bl]; exact hm), List.getElem?_eq_getElem _⟩
   have i2 : idx g σ1 (.ref rb) (.int (m : Nat)) = some (.ref b) := idx_list (show getO g σ1 (.ref rb) = _ from H.hb) (by rw [List.getElem?_map, hb]; rfl) (by lia)
   have hl := H.hB m b hb
   have hlen : (bi S i m ++ List.replicate (((S.A i).take j).count (m : Int)) i).length < 100000 := by
    rw [List.length_append, List.length_replicate]
    have h1 := bi_len R.short (i := i) (m := m)
    have h2 : ((S.A i).take j).count (m : Int) <= ((S.A i).take j).length := List.count_le_length
    have h3 := R.short i
    rw [List.length_take] at h2
    lia
   refine i1_2 _ (sC (s_if_t c rfl (sC (s_expr (e_append (eX (eL rfl) (eL rfl) i2) ⟨_, hl⟩ (eL rfl) hl (by rw [List.length_map]; exact hlen))) sN)) sN) ((H.pushb hb).congr (fun _ _ => rfl) fun m' hm' => ?_)
   rw [count_take_succ hx]
   by_cases e : m' = m
   · subst e
     rw [if_pos rfl, if_pos rfl, List.append_assoc, List.replicate_succ']
   · rw [if_neg e, if_neg (by lia)]; rfl
theorem sl_fill {aft lst : V} {i : Nat} {u8 u9 : Option V} (R : RowsAt g σ aft lst S) (hi : i < S.N)
 (H : HS σ σ1 rv rl rb rq bs S.N (vi S i) ((List.range i).map fun n => V.int (l0 S n)) (bi S i) (qi S i)) :
 ∃ u8' σ2, execSs g Φ slFill (slFrm sd aft lst rv rl rb rq (some (.int (i : Nat))) u8 u9) σ1 = some (.next, slFrm sd aft lst rv rl rb rq (some (.int (i : Nat))) u8' u9, σ2) /\
   HS σ σ2 rv rl rb rq bs S.N (vi S (i + 1)) ((List.range (i + 1)).map fun n => V.int (l0 S n)) (bi S (i + 1)) (qi S (i + 1)) := by
 have hN := R.N
 have R1 := R.pre H.pre
 refine cps fun _ zk => ?_
 refine x1_3 (R1.rows) fun avs ha hal hau => ?_
 refine x1_2 (hau i hi) fun u hu hI => ?_
 have hs := R.short i
 have ix : ∀ {τ : Hp}, σ1 <+: τ -> idx g τ aft (.int (i : Nat)) = some u := fun p => idx_list (getO_of_list (pre_listOf p ha)) hu (by lia)
 have st1 : execS g Φ (.expr (.append (.loc 4) (.blt .len (.cons (.idx (.loc 1) (.loc 7)) .nil)))) (slFrm sd aft lst rv rl rb rq (some (.int (i : Nat))) u8 u9) σ1 = some (.next, slFrm sd aft lst rv rl rb rq (some (.int (i : Nat))) u8 u9, σ1.set rl (.list (((List.range i).map fun n => V.int (l0 S n)) ++ [.int (((S.A i).map V.int).length : Nat)]))) :=
  s_expr (e_append (eL rfl) ⟨_, H.hl⟩ (e_len (eX (eL rfl) (eL rfl) (ix (List.prefix_refl _))) hI (by simp; lia)) H.hl (by simp; lia))
 have H1 := H.putl (((List.range i).map fun n => V.int (l0 S n)) ++ [.int (((S.A i).map V.int).length : Nat)])
 refine zk ?_; clear zk
 rw [show ((List.range i).map fun n => V.int (l0 S n)) ++ [.int (((S.A i).map V.int).length : Nat)] = (List.range (i + 1)).map fun n => V.int (l0 S n) by rw [List.range_succ, List.map_append]; simp [l0]] at H1 st1
 generalize σ1.set rl (.list ((List.range (i + 1)).map fun n => V.int (l0 S n))) = σa at H1 st1
 have R2 := R.pre H1.pre
 refine cps fun _ zk => ?_
 refine x1_3 (R2.rows) fun avs2 ha2 hal2 hau2 => ?_
 refine x1_2 (hau2 i hi) fun u2 hu2 hI2 => ?_
 have ix2 : idx g σa aft (.int (i : Nat)) = some u2 := idx_list (getO_of_list ha2) hu2 (by lia)
 have H1' : HS σ σa rv rl rb rq bs S.N (vi S i) ((List.range (i + 1)).map fun n => V.int (l0 S n)) (fun m => bi S i m ++ List.replicate (((S.A i).take 0).count (m : Int)) i) (qi S i) :=
  H1.congr (fun _ _ => rfl) fun m _ => by simp
 have hI0 : ∃ avs u, listOf g σ aft = some avs /\ avs[i]? = some u /\ IntsAt g σ u (S.A i) := by
  refine cps fun _ zk => ?_
  refine x1_3 (R.rows) fun a b _ d => ?_
  refine x1_2 (d i hi) fun u e f => ?_
  refine zk ?_; clear zk
  exact i2_3 a u b e f
 have hu2' : IntsAt g σ u2 (S.A i) := by
  refine x2_3 hI0 fun a u b e f => ?_
  clear hI0
  have h1 := (pre_listOf H1.pre b).symm.trans ha2
  cases h1
  have h2 := e.symm.trans hu2
  cases h2
  exact f
 refine x2_2 (for_list (g := g) (set := fun v m _ => setLoc 8 v m) (body := fun m σ => execSs g Φ slEdge m σ) (l := u2) (xs := (S.A i).map V.int) (fuel := loopFuel)
  (fun j fr τ => ∃ u8', fr = slFrm sd aft lst rv rl rb rq (some (.int (i : Nat))) u8' u9 /\ HS σ τ rv rl rb rq bs S.N (vi S i) ((List.range (i + 1)).map fun n => V.int (l0 S n)) (fun m => bi S i m ++ List.replicate (((S.A i).take j).count (m : Int)) i) (qi S i))
  (fuel_lt (by simp; lia)) (m := slFrm sd aft lst rv rl rb rq (some (.int (i : Nat))) u8 u9) (σ := σa) (i1_2 u8 rfl H1') (by
   rintro j fr τ ⟨u8', rfl, H'⟩
   exact hu2'.pre H'.pre) (by
   rintro j x fr τ hix ⟨u8', rfl, H'⟩
   rw [List.getElem?_map, Option.map_eq_some_iff] at hix
   refine x1_2 hix fun x _ zz1 => ?_
   clear hix; rename_i hix
   subst zz1
   refine x1_2 (sl_edge (g := g) (Φ := Φ) (sd := sd) (aft := aft) (lst := lst) (u8 := u8') (u9 := u9) R hi hix H') fun σ2 e H2 => ?_
   exact i4_4 _ (.next) _ σ2 rfl e (.inl rfl) (i1_2 _ rfl H2))) fun m' σ2 e y1 => ?_
 refine x1_2 y1 fun u8' y2 H2 => ?_
 refine zk ?_; clear zk
 subst y2
 rw [List.length_map, List.take_length] at H2
 have H2 := H2.congr (v' := vi S i) (B' := bi S (i + 1)) (fun _ _ => rfl) (fun m _ => by rw [bi_succ]; rfl)
 refine x1_2 ((R.pre H2.pre).lost) fun lvs hlv hlu => ?_
 have cx : vE g Φ (.idx (.loc 2) (.loc 7)) (slFrm sd aft lst rv rl rb rq (some (.int (i : Nat))) u8' u9) σ2 = some (.bool (S.lost i), σ2) :=
  eX (eL rfl) (eL rfl) (idx_list (getO_of_list hlv) (hlu i hi) (by lia))
 cases hlost : S.lost i with
 | false =>
   rw [hlost] at cx
   refine i2_2 u8' σ2 (sC st1 (sC (s_for (eX (eL rfl) (eL rfl) ix2) (iter_list hI2) e) (sC (s_if_f cx rfl sN) sN))) ?_
   rw [qi_succ, hlost, if_neg (by simp), List.append_nil]
   refine H2.congr (fun n hn => ?_) fun _ _ => rfl
   by_cases e : n = i
   · subst e; exact (vi_same hlost).symm
   · exact (vi_ne e).symm
 | true =>
   rw [hlost] at cx
   have st3 : execS g Φ (.setIdx (.loc 3) (.loc 7) (.lit (.int 0))) (slFrm sd aft lst rv rl rb rq (some (.int (i : Nat))) u8' u9) σ2 = some (.next, slFrm sd aft lst rv rl rb rq (some (.int (i : Nat))) u8' u9, σ2.set rv (.list (((List.range S.N).map fun n => V.int (vi S i n)).set i (.int 0)))) :=
    s_setIdx eI (eL rfl) (eL rfl) (setIdx_list H2.hv (by simp [hi]) (by lia))
   have H3 := H2.setv hi 0
   generalize σ2.set rv (.list (((List.range S.N).map fun n => V.int (vi S i n)).set i (.int 0))) = σ3 at st3 H3
   have hql := qi_len (S := S) (i := i)
   have st4 : execS g Φ (.expr (.append (.loc 6) (.loc 7))) (slFrm sd aft lst rv rl rb rq (some (.int (i : Nat))) u8' u9) σ3 = some (.next, slFrm sd aft lst rv rl rb rq (some (.int (i : Nat))) u8' u9, σ3.set rq (.list ((qi S i).map (fun n => V.int (n : Nat)) ++ [.int i]))) :=
    s_expr (e_append (eL rfl) ⟨_, H3.hq⟩ (eL rfl) H3.hq (by simp; lia))
   refine i2_2 u8' _ (sC st1 (sC (s_for (eX (eL rfl) (eL rfl) ix2) (iter_list hI2) e) (sC (s_if_t cx rfl (sC st3 (sC st4 sN))) sN))) ?_
   rw [qi_succ, hlost, if_pos rfl]
   refine (H3.pushq i).congr (fun n hn => ?_) fun _ _ => rfl
   by_cases e : n = i
   · subst e; rw [upd_self]; exact (vi_lost hlost).symm
   · rw [upd_ne e]; exact (vi_ne e).symm
end
section
variable {σ σ1 τ : Hp} {g : List O} {Φ : CallF} {S : Retro} {sd aft lst : V}
theorem e_rep {v : V} {e : E} {N : Nat} {m : Frm} (h : vE g Φ e m (σ ++ [O.list [v]]) = some (.int (N : Nat), σ ++ [O.list [v]])) (hN : N <= 100000) : vE g Φ (.bin .mul (.list (.cons (.lit v) .nil)) e) m σ = some (.ref (σ.length + 1), σ ++ [O.list [v]] ++ [O.list (List.replicate N v)]) := by
 have e1 : vE g Φ (.list (.cons (.lit v) .nil)) m σ = some (.ref σ.length, σ ++ [O.list [v]]) := e_list (eC eI eN) (lb rfl)
 have g1 : getO g (σ ++ [O.list [v]]) (.ref σ.length) = some (.list [v]) := gP _ _
 have hb : binop g .mul (.ref σ.length) (.int (N : Nat)) (σ ++ [O.list [v]]) = some (.ref (σ.length + 1), σ ++ [O.list [v]] ++ [O.list (List.replicate N v)]) := by
  refine Eq.trans (b1_of (a := [v]) (by unfold listOf; rw [g1]) (b1_of rfl (if_pos ⟨by and_intros, by lia⟩))) (by simp)
 exact e_binop e1 h hb
noncomputable def nils (σ : Hp) (i : Nat) : Hp := σ ++ [O.list ((List.range i).map fun j => V.ref (σ.length + 1 + j))] ++ List.replicate i (O.list [])
theorem e_nils {m : Frm} {avs : List V} {it : E} {v : V} (h : vE g Φ it m σ = some (v, σ)) (hl : listOf g σ v = some avs) (hn : avs.length < 100000) : vE g Φ (.comp [] (.list .nil) it) m σ = some (.ref σ.length, nils σ avs.length) := by
 refine x1_2 (comp_list (g := g) (elt := fun m σ => vE g Φ (.list .nil) m σ) (cond := fun _ σ => some (.bool true, σ)) (base := []) (acc := σ.length) (l := v) (xs := avs) (fuel := loopFuel)
  (fun i τ => τ = nils σ i) (fuel_lt (by lia)) (σ := σ ++ [O.list []]) (by simp [nils]) (by
   rintro i τ rfl
   exact pre_listOf (by unfold nils; rw [List.append_assoc]; exact pfa ..) hl) (by
   rintro i x τ hix rfl
   have hi := (gsm hix).1
   have hlen : (nils σ i).length = σ.length + 1 + i := by simp [nils]; lia
   have hg : (nils σ i ++ [O.list []])[σ.length]? = some (.list ((List.range i).map fun j => V.ref (σ.length + 1 + j))) := by
    unfold nils
    rw [List.getElem?_append_left (by simp), List.getElem?_append_left (by simp)]
    simp
   refine i3_4 (.bool true) _ true rfl rfl (fun _ => i3_3 _ _ _ (e_list eN (lb rfl)) (push_at hg (by simp; and_intros)) ?_) (fun h => by exact nt h)
   rw [hlen]
   unfold nils
   rw [List.range_succ, List.map_append, List.replicate_succ']
   rw [List.append_assoc σ, List.append_assoc σ, List.append_assoc σ, List.set_append_right _ _ (Nat.le_refl _)]
   simp)) fun σ' e y1 => ?_
 subst y1
 exact e_comp h (iter_list hl) rfl e
theorem HS.begin_ (S : Retro) : HS σ (nils (σ ++ [O.list [.int (-1)]] ++ [O.list (List.replicate S.N (.int (-1)))] ++ [O.list []]) S.N ++ [O.list []]) (σ.length + 1) (σ.length + 2) (σ.length + 3) (σ.length + 4 + S.N) ((List.range S.N).map fun j => σ.length + 4 + j) S.N (vi S 0) ((List.range 0).map fun n => V.int (l0 S n)) (bi S 0) (qi S 0) := by
 have hb : (List.range S.N).map (fun j => V.ref ((σ ++ [O.list [.int (-1)]] ++ [O.list (List.replicate S.N (.int (-1)))] ++ [O.list []]).length + 1 + j)) = ((List.range S.N).map fun j => σ.length + 4 + j).map .ref := by
  rw [List.map_map]
  refine List.map_congr_left fun j _ => ?_
  simp
 have hv : List.replicate S.N (V.int (-1)) = (List.range S.N).map fun i => V.int (vi S 0 i) := by
  apply List.ext_getElem?
  intro i
  rw [List.getElem?_replicate, List.getElem?_map]
  by_cases h : i < S.N
  · rw [if_pos h, List.getElem?_range h]; simp [vi]
  · rw [if_neg h, List.getElem?_eq_none (by simpa using h)]; rfl
 have e : nils (σ ++ [O.list [.int (-1)]] ++ [O.list (List.replicate S.N (.int (-1)))] ++ [O.list []]) S.N ++ [O.list []] =
  σ ++ (O.list [.int (-1)] :: O.list ((List.range S.N).map fun i => V.int (vi S 0 i)) :: O.list [] :: O.list (((List.range S.N).map fun j => σ.length + 4 + j).map .ref) :: (List.replicate S.N (O.list []) ++ [O.list []])) := by
  unfold nils
  rw [hb, hv]
  simp
 rw [e]
 have gt : ∀ (k : Nat) (l : Hp), (σ ++ l)[σ.length + k]? = l[k]? := fun k l => by
  rw [List.getElem?_append_right (by and_intros)]; congr 1; lia
 refine ⟨pfa .., by rw [gt]; rfl, by rw [gt]; rfl, by rw [gt]; rfl, by simp, fun i b q => ?_, ?_, ?_, ?_⟩
 · rw [List.getElem?_map, Option.map_eq_some_iff] at q
   refine x1_2 q fun j hj y2 => ?_
   clear q
   subst y2
   have hi : i < S.N := by have := (gsm hj).1; simpa using this
   rw [List.getElem?_range hi] at hj
   refine so1 hj ?_
   rw [Nat.add_assoc, gt, show 4 + i = i + 1 + 1 + 1 + 1 by lia]
   simp only [List.getElem?_cons_succ]
   rw [List.getElem?_append_left (by simpa using hi), List.getElem?_replicate, if_pos hi]
   simp [bi]
 · rw [Nat.add_assoc, gt, show 4 + S.N = S.N + 1 + 1 + 1 + 1 by lia]
   simp only [List.getElem?_cons_succ]
   rw [List.getElem?_append_right (by simp)]
   simp [qi]
 · simp only [List.nodup_cons, List.mem_cons, List.mem_map, List.mem_range, not_or, not_exists, not_and]
   refine ⟨⟨by and_intros, by and_intros, by lia, fun x _ => by lia⟩, ⟨by and_intros, by and_intros, fun x _ => by and_intros⟩, ⟨by and_intros, fun x _ => by and_intros⟩, fun x _ => by lia, ?_⟩
   refine (List.nodup_range (n := S.N)).map _ ?_
   intro a b hab
   intro q
   exact hab (by lia)
 · intro r hr
   simp only [List.mem_cons, List.mem_map, List.mem_range] at hr
   rcases hr with rfl | rfl | rfl | rfl | ⟨a, _, rfl⟩ <;> lia
theorem run_solve {sl : List Int} (R : RowsAt g σ aft lst S) (Sd : IntsAt g σ sd sl) (hsl : ∀ i, i < S.N -> sl[i]? = some (S.side i)) :
 ∃ a σ' v, σ <+: σ' /\ σ.length <= a /\ runFn g Φ f_solve [sd, aft, lst] σ = some (.ref a, σ') /\ σ'[a]? = some (.list ((List.range S.N).map fun i => V.int (v i))) /\ ∀ n, n < S.N -> Eqn S v n := by
 have hN := R.N
 refine x1_3 (R.rows) fun avs ha hal hau => ?_
 have p1 : σ <+: σ ++ [O.list [.int (-1)]] := pfa ..
 have p2 : σ <+: σ ++ [O.list [.int (-1)]] ++ [O.list (List.replicate S.N (.int (-1)))] := p1.trans (pfa ..)
 have p3 : σ <+: σ ++ [O.list [.int (-1)]] ++ [O.list (List.replicate S.N (.int (-1)))] ++ [O.list []] := p2.trans (pfa ..)
 have len : ∀ {τ : Hp} {fr : Frm}, σ <+: τ -> fr[1]? = some (some aft) -> vE g Φ (.blt .len (.cons (.loc 1) .nil)) fr τ = some (.int (S.N : Nat), τ) := fun p h => by
  have := e_len (Φ := Φ) (eL h) (pre_listOf p ha) (by lia)
  rw [hal] at this; exact this
 have st3 : execS g Φ (.asg 3 (.bin .mul (.list (.cons (.lit (.int (-1))) .nil)) (.blt .len (.cons (.loc 1) .nil)))) [some sd, some aft, some lst, none, none, none, none, none, none, none] σ = some (.next, [some sd, some aft, some lst, some (.ref (σ.length + 1)), none, none, none, none, none, none], σ ++ [O.list [.int (-1)]] ++ [O.list (List.replicate S.N (.int (-1)))]) :=
  sA (e_rep (len p1 rfl) (by lia)) (lb rfl)
 have st4 : execS g Φ (.asg 4 (.list .nil)) [some sd, some aft, some lst, some (.ref (σ.length + 1)), none, none, none, none, none, none] (σ ++ [O.list [.int (-1)]] ++ [O.list (List.replicate S.N (.int (-1)))]) = some (.next, [some sd, some aft, some lst, some (.ref (σ.length + 1)), some (.ref (σ ++ [O.list [.int (-1)]] ++ [O.list (List.replicate S.N (.int (-1)))]).length), none, none, none, none, none], σ ++ [O.list [.int (-1)]] ++ [O.list (List.replicate S.N (.int (-1)))] ++ [O.list []]) :=
  sA (e_list eN (lb rfl)) (lb rfl)
 rw [show (σ ++ [O.list [.int (-1)]] ++ [O.list (List.replicate S.N (.int (-1)))]).length = σ.length + 2 by simp] at st4
 have st5 : execS g Φ (.asg 5 (.comp [] (.list .nil) (.loc 1))) [some sd, some aft, some lst, some (.ref (σ.length + 1)), some (.ref (σ.length + 2)), none, none, none, none, none] (σ ++ [O.list [.int (-1)]] ++ [O.list (List.replicate S.N (.int (-1)))] ++ [O.list []]) = some (.next, [some sd, some aft, some lst, some (.ref (σ.length + 1)), some (.ref (σ.length + 2)), some (.ref (σ ++ [O.list [.int (-1)]] ++ [O.list (List.replicate S.N (.int (-1)))] ++ [O.list []]).length), none, none, none, none], nils (σ ++ [O.list [.int (-1)]] ++ [O.list (List.replicate S.N (.int (-1)))] ++ [O.list []]) avs.length) :=
  sA (e_nils (eL rfl) (pre_listOf p3 ha) (by lia)) (lb rfl)
 rw [show (σ ++ [O.list [.int (-1)]] ++ [O.list (List.replicate S.N (.int (-1)))] ++ [O.list []]).length = σ.length + 3 by simp, hal] at st5
 have st6 : execS g Φ (.asg 6 (.list .nil)) [some sd, some aft, some lst, some (.ref (σ.length + 1)), some (.ref (σ.length + 2)), some (.ref (σ.length + 3)), none, none, none, none] (nils (σ ++ [O.list [.int (-1)]] ++ [O.list (List.replicate S.N (.int (-1)))] ++ [O.list []]) S.N) = some (.next, [some sd, some aft, some lst, some (.ref (σ.length + 1)), some (.ref (σ.length + 2)), some (.ref (σ.length + 3)), some (.ref (nils (σ ++ [O.list [.int (-1)]] ++ [O.list (List.replicate S.N (.int (-1)))] ++ [O.list []]) S.N).length), none, none, none], nils (σ ++ [O.list [.int (-1)]] ++ [O.list (List.replicate S.N (.int (-1)))] ++ [O.list []]) S.N ++ [O.list []]) :=
  sA (e_list eN (lb rfl)) (lb rfl)
 rw [show (nils (σ ++ [O.list [.int (-1)]] ++ [O.list (List.replicate S.N (.int (-1)))] ++ [O.list []]) S.N).length = σ.length + 4 + S.N by simp [nils]; lia] at st6
 have H := HS.begin_ (σ := σ) S
 generalize nils (σ ++ [O.list [.int (-1)]] ++ [O.list (List.replicate S.N (.int (-1)))] ++ [O.list []]) S.N ++ [O.list []] = σ5 at st6 H
 generalize hrv : σ.length + 1 = rv at *
 generalize σ.length + 2 = rl at *
 generalize σ.length + 3 = rb at *
 generalize hrq : σ.length + 4 + S.N = rq at *
 have H6 := H.grow (pfa σ5 [O.range 0 (S.N : Nat) 1])
 refine cps fun _ zk => ?_
 refine x2_2 (for_range (g := g) (set := fun v m _ => setLoc 7 v m) (body := fun m σ => execSs g Φ slFill m σ)
  (fun i fr τ => ∃ u7 u8, fr = slFrm sd aft lst rv rl rb rq u7 u8 none /\ HS σ τ rv rl rb rq ((List.range S.N).map fun j => σ.length + 4 + j) S.N (vi S i) ((List.range i).map fun n => V.int (l0 S n)) (bi S i) (qi S i)) (a := 0) (st := 1) (n := S.N) (fuel := loopFuel) (fuel_lt (by lia)) (m := slFrm sd aft lst rv rl rb rq none none none) (σ := σ5 ++ [O.range 0 (S.N : Nat) 1]) (i2_2 none none rfl H6) (by
   rintro i fr τ hi ⟨u7, u8, rfl, H⟩
   refine x2_2 (sl_fill (g := g) (Φ := Φ) (sd := sd) (aft := aft) (lst := lst) (u8 := u8) (u9 := none) R hi H) fun u8' σ2 e H2 => ?_
   rw [show (0 : Int) + (i : Nat) * 1 = (i : Nat) by simp]
   exact i4_4 _ (.next) _ σ2 rfl e (.inl rfl) (i2_2 _ _ rfl H2))) fun m' σ7 e y3 => ?_
 refine x2_2 y3 fun u7 u8 y4 H7 => ?_
 refine zk ?_; clear zk
 subst y4
 have st8 : execS g Φ (.asg 9 (.lit (.int 0))) (slFrm sd aft lst rv rl rb rq u7 u8 none) σ7 = some (.next, slFrm sd aft lst rv rl rb rq u7 u8 (some (.int 0)), σ7) := sA eI (lb rfl)
 have hv0 : vi S S.N = vi S S.N := rfl
 have I0 := Inv.init S
 have H8 : HS σ σ7 rv rl rb rq ((List.range S.N).map fun j => σ.length + 4 + j) S.N (v0 S) (lf S.N (l0 S)) (bef S) (q0 S) :=
  H7.congr (fun i hi => by simp [vi, v0, hi]) (fun i hi => rfl)
 refine x7_1 (sl_while (g := g) (Φ := Φ) (sd := sd) (aft := aft) (lst := lst) (u7 := u7) (u8 := u8) (by lia) Sd hsl (fun m n _ hn => bef_count S hn) (fun m n _ h => bef_lt S h) (fun m _ => by have := bi_len R.short (i := S.N) (m := m); unfold bef; unfold bi at this; lia) H8 I0) fun u7' u8' u9' v' l' Q' σ8 zq => x0_3 zq fun ew H9 I9 => ?_
 refine i3_5 rv σ8 v' H9.pre (by lia) (run_ret (m := [some sd, some aft, some lst, none, none, none, none, none, none, none]) rfl rfl (sC st3 (sC st4 (sC st5 (sC st6 (sC (s_for (e_range1 (len H.pre rfl) (by lia)) (iter_range (by simp [rangeLen])) e) (sC st8 (sC ew (ss_ret (eL rfl)))))))))) H9.hv (fun n hn => I9.end_ R.ok hn)
end
theorem fdm {q d r : Int} (h0 : 0 <= r) (h1 : r < d) : (q * d + r).fdiv d = q /\ (q * d + r).fmod d = r := by
 have hd : d ≠ 0 := by lia
 have e : (q * d + r).fdiv d = q := by
  rw [Int.fdiv_eq_ediv_of_nonneg _ (by lia), Int.add_comm, Int.add_mul_ediv_right _ _ hd, Int.ediv_eq_zero_of_lt h0 h1]; simp
 refine ⟨e, ?_⟩
 rw [Int.fmod_def, e, Int.mul_comm d q]; lia
theorem idx_parts {z : Int} {pl : Place} (hz : z <= 12) (h : InR z pl) : (idxA z pl).fdiv (z * z * z) = pl.1 /\ ((idxA z pl).fdiv (z * z)).fmod z = pl.2.1 /\ ((idxA z pl).fdiv z).fmod z = pl.2.2.1 /\ (idxA z pl).fmod z = pl.2.2.2 := by
 refine cps fun _ zk => ?_
 obtain ⟨side, s, p, w⟩ := pl
 refine x0_4 h fun h1 h2 h3 h4 => ?_
 clear h
 refine zk ?_; clear zk
 dsimp only at h1 h2 h3 h4 ⊢
 unfold idxA
 dsimp only
 refine cps fun _ zk => ?_
 obtain ⟨a1, a2⟩ := fdm (q := (side * z + s) * z + p) h4.1 h4.2
 obtain ⟨b1, b2⟩ := fdm (q := side * z + s) h3.1 h3.2
 obtain ⟨c1, c2⟩ := fdm (q := side) h2.1 h2.2
 have m1 := mul_le (B := z) h3.1 (show p <= z - 1 by lia) (show 0 <= z by lia) (Int.le_refl z)
 have m2 := mul_le (B := z) h2.1 (show s <= z - 1 by lia) (show 0 <= z by lia) (Int.le_refl z)
 rw [Int.sub_mul, Int.one_mul] at m1 m2
 have e2 : ((side * z + s) * z + p) * z + w = (side * z + s) * (z * z) + (p * z + w) := by rw [Int.add_mul _ p, Int.mul_assoc, Int.add_assoc]
 obtain ⟨d1, _⟩ := fdm (q := side * z + s) (d := z * z) (r := p * z + w) (by lia) (by lia)
 have m3 := mul_le (a := s * z + p) (A := z * z - 1) (B := z) (by lia) (by lia) (show 0 <= z by lia) (Int.le_refl z)
 rw [Int.sub_mul, Int.one_mul] at m3
 have e3 : ((side * z + s) * z + p) * z + w = side * (z * z * z) + ((s * z + p) * z + w) := by
  rw [Int.add_mul (side * z) s z, Int.add_assoc, Int.add_mul (side * z * z), Int.mul_assoc side z z, Int.mul_assoc side, Int.add_assoc]
 obtain ⟨f1, _⟩ := fdm (q := side) (d := z * z * z) (r := (s * z + p) * z + w) (by lia) (by lia)
 refine zk ?_; clear zk
 refine ⟨?_, ?_, ?_, a2⟩
 · rw [e3]; exact f1
 · rw [e2, d1]; exact c2
 · rw [a1]; exact b2
theorem idx_inj {z : Int} {a b : Place} (hz : z <= 12) (ha : InR z a) (hb : InR z b) (h : idxA z a = idxA z b) : a = b := by
 refine cps fun _ zk => ?_
 refine x0_4 (idx_parts hz ha) fun a1 a2 a3 a4 => ?_
 refine x0_4 (idx_parts hz hb) fun b1 b2 b3 b4 => ?_
 rw [h] at a1 a2 a3 a4
 refine zk ?_; clear zk
 exact Prod.ext (a1.symm.trans b1) (Prod.ext (a2.symm.trans b2) (Prod.ext (a3.symm.trans b3) (a4.symm.trans b4)))
section
variable {ns : List Int} {n : Nat} {σ σ0 σ1 σ2 τ : Hp} {Φ : CallF} {m m1 m2 : Frm} {g : List O}
theorem sp_parts {z : Int} {pl : Place} (h0 : 0 <= z /\ z <= 12) (h : InR z pl) : Phi (gobj ns) (n + 1) 16 [.int z, .int (idxA z pl)] σ = some (.ref σ.length, σ ++ [O.tup [.int pl.1, .int pl.2.1, .int pl.2.2.1, .int pl.2.2.2]]) := by
 refine x0_4 (idx_parts h0.2 h) fun e1 e2 e3 e4 => ?_
 have hz : 0 < z := by have := h.2.1; omega
 have z2 := mul_le h0.1 h0.2 h0.1 h0.2
 have z3 := mul_le z2.1 z2.2 h0.1 h0.2
 have p2 : 0 < z * z := Int.mul_pos hz hz
 have p3 : 0 < z * z * z := Int.mul_pos p2 hz
 have m2 : arith .mul z z = some (z * z) := ar_mul (by lia) (by lia)
 have m3 : arith .mul (z * z) z = some (z * z * z) := ar_mul (by lia) (by lia)
 rw [<- e1, <- e2, <- e3, <- e4]
 refine (phi_eq (fn := f_parts_of) rfl _ _).trans (run_ret (m := [some (.int z), some (.int (idxA z pl))]) rfl rfl (ss_ret (e_tup (eC (e_bin (eL rfl) (e_bin (e_bin (eL rfl) (eL rfl) m2) (eL rfl) m3) (ar_fdiv (by lia) (by lia))) (eC (e_bin (e_bin (eL rfl) (e_bin (eL rfl) (eL rfl) m2) (ar_fdiv (by lia) (by lia))) (eL rfl) (ar_mod (by lia))) (eC (e_bin (e_bin (eL rfl) (eL rfl) (ar_fdiv (by lia) (by lia))) (eL rfl) (ar_mod (by lia))) (eC (e_bin (eL rfl) (eL rfl) (ar_mod (by lia))) eN)))) (lb rfl))))
noncomputable def freeA (G : Geo) (s p : Nat) : Int := PySem.Builtin.bitAnd G.full (PySem.Builtin.bitNot (PySem.Builtin.bitOr (PySem.Builtin.bitOr (G.king.getD s 0) (shl1 s)) (shl1 p)))
noncomputable def plW (G : Geo) (k s p w : Nat) : List Place := if bit (freeA G s p) w = true then (1, (s : Int), (p : Int), (w : Int)) :: (if bit (attA G k p (shl1 s)) w = true then [] else [(0, (s : Int), (p : Int), (w : Int))]) else []
noncomputable def plP (G : Geo) (k : Nat) (zone : Int) (s p : Nat) : List Place := if bit zone s = false \/ p = s \/ freeA G s p = 0 then [] else (List.range G.z).flatMap (plW G k s p)
noncomputable def plS (G : Geo) (k : Nat) (zone : Int) (s : Nat) : List Place := (List.range G.z).flatMap (plP G k zone s)
noncomputable def pls (G : Geo) (k : Nat) (zone : Int) : List Place := (List.range G.z).flatMap (plS G k zone)
noncomputable def pv (z : Int) (l : List Place) : List V := l.map fun pl => V.int (idxA z pl)
theorem flat_len {α β : Type} {f : α -> List β} {c : Nat} : ∀ {l : List α}, (∀ x ∈ l, (f x).length <= c) -> (l.flatMap f).length <= l.length * c
 | [], _ => by simp
 | x :: r, h => by
   rw [List.flatMap_cons, List.length_append, List.length_cons, Nat.succ_mul]
   have h1 := h x (.head _)
   have h2 := flat_len (l := r) fun y hy => h y (.tail _ hy)
   lia
theorem plW_len {G : Geo} {k s p w : Nat} : (plW G k s p w).length <= 2 := by
 unfold plW
 split
 · split <;> simp
 · simp
theorem plP_len {G : Geo} {k s p : Nat} {zone : Int} (hz : G.z <= 12) : (plP G k zone s p).length <= 24 := by
 unfold plP
 split
 · simp
 · have := flat_len (l := List.range G.z) (f := plW G k s p) (c := 2) fun _ _ => plW_len
   rw [List.length_range] at this; lia
theorem plS_len {G : Geo} {k s : Nat} {zone : Int} (hz : G.z <= 12) : (plS G k zone s).length <= 288 := by
 unfold plS
 have := flat_len (l := List.range G.z) (f := plP G k zone s) (c := 24) fun _ _ => plP_len hz
 rw [List.length_range] at this; lia
theorem pls_len {G : Geo} {k : Nat} {zone : Int} (hz : G.z <= 12) : (pls G k zone).length <= 3456 := by
 unfold pls
 have := flat_len (l := List.range G.z) (f := plS G k zone) (c := 288) fun _ _ => plS_len hz
 rw [List.length_range] at this; lia
theorem range_flat {α : Type} {f : Nat -> List α} {i : Nat} : (List.range (i + 1)).flatMap f = (List.range i).flatMap f ++ f i := by
 rw [List.range_succ, List.flatMap_append]; simp
theorem e_bit {a b : E} {x : Int} {k : Nat} (h1 : vE g Φ a m σ = some (.int x, σ)) (h2 : vE g Φ b m σ = some (.int (k : Nat), σ)) (hk : k <= 1000) : vE g Φ (.bin .and (.bin .shr a b) (.lit (.int 1))) m σ = some (.int (PySem.Builtin.bitAnd (shr x k) 1), σ) :=
 e_bin (e_bin h1 h2 (ar_shr k rfl hk)) eI ar_and
theorem e_bit0 {a b : E} {x : Int} {k : Nat} (h1 : vE g Φ a m σ = some (.int x, σ)) (h2 : vE g Φ b m σ = some (.int (k : Nat), σ)) (hk : k <= 1000) : vE g Φ (.cmp .eq (.bin .and (.bin .shr a b) (.lit (.int 1))) (.lit (.int 0))) m σ = some (.bool (!bit x k), σ) := by
 have := e_cmp (e_bit (g := g) (Φ := Φ) (m := m) h1 h2 hk) (eI (v := .int 0)) cmp_eqI
 rw [this]
 unfold bit
 by_cases h : PySem.Builtin.bitAnd (shr x k) 1 = 0 <;> simp [h]
theorem truth_bit {x : Int} {k : Nat} : truth (.int (PySem.Builtin.bitAnd (shr x k) 1)) = some (bit x k) := rfl
noncomputable def mpW : Ss := (.cons (.ife (.bin .and (.bin .shr (.loc 8) (.loc 10)) (.lit (.int 1))) (.cons (.expr (.append (.loc 5) (.call 15 (.cons (.loc 4) (.cons (.lit (.int 1)) (.cons (.loc 6) (.cons (.loc 7) (.cons (.loc 10) .nil))))))))
 (.cons (.ife (.cmp .eq (.bin .and (.bin .shr (.loc 9) (.loc 10)) (.lit (.int 1))) (.lit (.int 0))) (.cons (.expr (.append (.loc 5) (.call 15 (.cons (.loc 4) (.cons (.lit (.int 0)) (.cons (.loc 6) (.cons (.loc 7) (.cons (.loc 10) .nil))))))))
 .nil) .nil)
 .nil)) .nil)
 .nil)
noncomputable abbrev mpFrm (geo : V) (k : Nat) (zone : Int) (t z r : Nat) (u6 u7 u8 u9 u10 u11 : Option V) : Frm := [some geo, some (.int (k : Nat)), some (.int zone), some (.ref t), some (.int (z : Nat)), some (.ref r), u6, u7, u8, u9, u10, u11]
theorem mp_w {geo : V} {G : Geo} {k s p w t : Nat} {zone : Int} {u11 : Option V} {l : List Place} (hz : G.z <= 12) (hs : s < G.z) (hp : p < G.z) (hw : w < G.z) (p0 : σ <+: τ) (hx : τ[σ.length]? = some (.list (pv G.z l))) (hl : l.length < 90000) :
 ∃ τ', execSs (gobj ns) (Phi (gobj ns) (n + 1)) mpW (mpFrm geo k zone t G.z σ.length (some (.int (s : Nat))) (some (.int (p : Nat))) (some (.int (freeA G s p))) (some (.int (attA G k p (shl1 s)))) (some (.int (w : Nat))) u11) τ =
   some (.next, mpFrm geo k zone t G.z σ.length (some (.int (s : Nat))) (some (.int (p : Nat))) (some (.int (freeA G s p))) (some (.int (attA G k p (shl1 s)))) (some (.int (w : Nat))) u11, τ') /\ σ <+: τ' /\ τ'[σ.length]? = some (.list (pv G.z (l ++ plW G k s p w))) := by
 have zi : (0 : Int) <= G.z /\ (G.z : Int) <= 12 := by lia
 have inr : ∀ side : Int, side = 0 \/ side = 1 -> InR G.z (side, s, p, w) := fun side h => ⟨h, by dsimp only; lia, by dsimp only; lia, by dsimp only; lia⟩
 have c1 : ∀ {τ : Hp}, vE (gobj ns) (Phi (gobj ns) (n + 1)) (.bin .and (.bin .shr (.loc 8) (.loc 10)) (.lit (.int 1))) (mpFrm geo k zone t G.z σ.length (some (.int (s : Nat))) (some (.int (p : Nat))) (some (.int (freeA G s p))) (some (.int (attA G k p (shl1 s)))) (some (.int (w : Nat))) u11) τ = _ :=
  e_bit (eL rfl) (eL rfl) (by lia)
 have c2 : ∀ {τ : Hp}, vE (gobj ns) (Phi (gobj ns) (n + 1)) (.cmp .eq (.bin .and (.bin .shr (.loc 9) (.loc 10)) (.lit (.int 1))) (.lit (.int 0))) (mpFrm geo k zone t G.z σ.length (some (.int (s : Nat))) (some (.int (p : Nat))) (some (.int (freeA G s p))) (some (.int (attA G k p (shl1 s)))) (some (.int (w : Nat))) u11) τ = _ :=
  e_bit0 (eL rfl) (eL rfl) (by lia)
 have ap : ∀ (side : Int) {τ : Hp} {l : List Place}, side = 0 \/ side = 1 -> τ[σ.length]? = some (.list (pv G.z l)) -> l.length < 99999 -> execS (gobj ns) (Phi (gobj ns) (n + 1)) (.expr (.append (.loc 5) (.call 15 (.cons (.loc 4) (.cons (.lit (.int side)) (.cons (.loc 6) (.cons (.loc 7) (.cons (.loc 10) .nil)))))))) (mpFrm geo k zone t G.z σ.length (some (.int (s : Nat))) (some (.int (p : Nat))) (some (.int (freeA G s p))) (some (.int (attA G k p (shl1 s)))) (some (.int (w : Nat))) u11) τ =
  some (.next, mpFrm geo k zone t G.z σ.length (some (.int (s : Nat))) (some (.int (p : Nat))) (some (.int (freeA G s p))) (some (.int (attA G k p (shl1 s)))) (some (.int (w : Nat))) u11, τ.set σ.length (.list (pv G.z (l ++ [(side, (s : Int), (p : Int), (w : Int))])))) := fun side τ l hsd hx hl => by
  have := s_expr (e_append (g := gobj ns) (Φ := Phi (gobj ns) (n + 1)) (m := mpFrm geo k zone t G.z σ.length (some (.int (s : Nat))) (some (.int (p : Nat))) (some (.int (freeA G s p))) (some (.int (attA G k p (shl1 s)))) (some (.int (w : Nat))) u11) (a := .loc 5) (eL rfl) ⟨_, hx⟩ (e_call (eC (eL (i := 4) rfl) (eC eI (eC (eL (i := 6) rfl) (eC (eL (i := 7) rfl) (eC (eL (i := 10) rfl) eN))))) (sp_index (ns := ns) (n := n) zi (inr side hsd))) hx (by simp [pv]; and_intros))
  rw [this]
  simp [pv]
 unfold plW
 cases hf : bit (freeA G s p) w with
 | false =>
   exact i1_3 τ (sC (s_if_f c1 (by rw [truth_bit, hf]) sN) sN) p0 (by simpa using hx)
 | true =>
   have a1 := ap 1 (.inr rfl) hx (by lia)
   have p1 := pre_set p0 (Nat.le_refl _) (.list (pv G.z (l ++ [(1, (s : Int), (p : Int), (w : Int))])))
   have x1 := get_set (o' := .list (pv G.z (l ++ [(1, (s : Int), (p : Int), (w : Int))]))) hx
   rw [if_pos rfl]
   cases hc : bit (attA G k p (shl1 s)) w with
   | true =>
     refine i1_3 _ (sC (s_if_t c1 (by rw [truth_bit, hf]) (sC a1 (sC (s_if_f c2 (by rw [hc]; rfl) sN) sN))) sN) p1 ?_
     rw [if_pos rfl]; exact x1
   | false =>
     have a2 := ap 0 (.inl rfl) x1 (by simp; lia)
     refine i1_3 _ (sC (s_if_t c1 (by rw [truth_bit, hf]) (sC a1 (sC (s_if_t c2 (by rw [hc]; rfl) (sC a2 sN)) sN))) sN) (pre_set p1 (Nat.le_refl _) _) ?_
     rw [get_set x1, if_neg (by simp)]
     simp
end
section
variable {ns : List Int} {n : Nat} {σ σ0 σ1 σ2 τ : Hp} {Φ : CallF} {m m1 m2 : Frm} {g : List O}
noncomputable def mpP : Ss := (.cons (.asg 8 (.bin .and (.attr (.loc 0) 3) (.inv (.bin .or (.bin .or (.idx (.attr (.loc 0) 9) (.loc 6)) (.bin .shl (.lit (.int 1)) (.loc 6))) (.bin .shl (.lit (.int 1)) (.loc 7))))))
 (.cons (.ife (.or (.cmp .eq (.bin .and (.bin .shr (.loc 2) (.loc 6)) (.lit (.int 1))) (.lit (.int 0))) (.or (.cmp .eq (.loc 7) (.loc 6)) (.cmp .eq (.loc 8) (.lit (.int 0))))) (.cons .cont
 .nil) .nil)
 (.cons (.asg 9 (.call 13 (.cons (.loc 0) (.cons (.lit (.int 0)) (.cons (.loc 1) (.cons (.loc 7) (.cons (.bin .shl (.lit (.int 1)) (.loc 6)) .nil)))))))
 (.cons (.for_ 10 (.blt .range (.cons (.loc 4) .nil)) mpW)
 .nil))))
noncomputable def MpAt (σ τ : Hp) (z : Int) (l : List Place) : Prop := σ <+: τ /\ τ[σ.length]? = some (.list (pv z l))
theorem e_free {geo : V} {G : Geo} {k s p t r : Nat} {zone : Int} {u8 u9 u10 u11 : Option V} (W : G.Whole) (GA : GeoAt τ geo G) (hs : s < G.z) (hp : p < G.z) :
 vE (gobj ns) Φ (.bin .and (.attr (.loc 0) 3) (.inv (.bin .or (.bin .or (.idx (.attr (.loc 0) 9) (.loc 6)) (.bin .shl (.lit (.int 1)) (.loc 6))) (.bin .shl (.lit (.int 1)) (.loc 7))))) (mpFrm geo k zone t G.z r (some (.int (s : Nat))) (some (.int (p : Nat))) u8 u9 u10 u11) τ = some (.int (freeA G s p), τ) := by
 refine x1_2 (GA.king) fun a h1 h2 => ?_
 have hz := W.z
 have hk := W.king
 have ix : idx (gobj ns) τ (.ref a) (.int (s : Nat)) = some (.int (G.king.getD s 0)) := idx_list (show getO (gobj ns) τ (.ref a) = _ from h2) (by rw [List.getElem?_map, getD_get (d := 0) (by lia)]; rfl) (by lia)
 exact e_bin (e_attr (eL rfl) GA.full) (e_inv (e_bin (e_bin (eX (e_attr (eL rfl) h1) (eL rfl) ix) (e_bin eI (eL rfl) (ar_shl1 s rfl (by lia))) ar_or) (e_bin eI (eL rfl) (ar_shl1 p rfl (by lia))) ar_or)) ar_and
theorem e_skip {geo : V} {G : Geo} {k s p t r : Nat} {zone : Int} {u9 u10 u11 : Option V} {f : Int} (hs : s <= 1000) :
 vE g Φ (.or (.cmp .eq (.bin .and (.bin .shr (.loc 2) (.loc 6)) (.lit (.int 1))) (.lit (.int 0))) (.or (.cmp .eq (.loc 7) (.loc 6)) (.cmp .eq (.loc 8) (.lit (.int 0))))) (mpFrm geo k zone t G.z r (some (.int (s : Nat))) (some (.int (p : Nat))) (some (.int f)) u9 u10 u11) τ = some (.bool (decide (bit zone s = false \/ p = s \/ f = 0)), τ) := by
 rw [e_or_b (e_bit0 (eL rfl) (eL rfl) hs) (e_or_b (e_cmp (eL rfl) (eL rfl) cmp_eqI) (e_cmp (eL rfl) eI cmp_eqI))]
 have : ((p : Int) = (s : Int)) = (p = s) := propext (by lia)
 simp only [this]
 cases bit zone s <;> simp
theorem mp_ws {geo : V} {G : Geo} {k s p t : Nat} {zone : Int} {u10 u11 : Option V} {l : List Place} (hz : G.z <= 12) (hs : s < G.z) (hp : p < G.z) (X : MpAt σ τ G.z l) (hl : l.length < 80000) :
 ∃ u10' τ', execS (gobj ns) (Phi (gobj ns) (n + 1)) (.for_ 10 (.blt .range (.cons (.loc 4) .nil)) mpW) (mpFrm geo k zone t G.z σ.length (some (.int (s : Nat))) (some (.int (p : Nat))) (some (.int (freeA G s p))) (some (.int (attA G k p (shl1 s)))) u10 u11) τ =
   some (.next, mpFrm geo k zone t G.z σ.length (some (.int (s : Nat))) (some (.int (p : Nat))) (some (.int (freeA G s p))) (some (.int (attA G k p (shl1 s)))) u10' u11, τ') /\ MpAt σ τ' G.z (l ++ (List.range G.z).flatMap (plW G k s p)) := by
 refine cps fun _ zk => ?_
 refine x2_2 (for_range (g := gobj ns) (set := fun v m _ => setLoc 10 v m) (body := fun m σ => execSs (gobj ns) (Phi (gobj ns) (n + 1)) mpW m σ)
  (fun i fr τ' => ∃ u, fr = mpFrm geo k zone t G.z σ.length (some (.int (s : Nat))) (some (.int (p : Nat))) (some (.int (freeA G s p))) (some (.int (attA G k p (shl1 s)))) u u11 /\ MpAt σ τ' G.z (l ++ (List.range i).flatMap (plW G k s p))) (a := 0) (st := 1) (n := G.z) (fuel := loopFuel) (fuel_lt (by lia)) (σ := τ ++ [O.range 0 (G.z : Nat) 1]) (i1_3 u10 rfl (X.1.trans (pfa ..)) (by simpa using pG (pfa ..) X.2)) (by
   rintro i fr τ' hi ⟨u, rfl, X'⟩
   have hlen : ((List.range i).flatMap (plW G k s p)).length <= i * 2 := by
    have := flat_len (l := List.range i) (f := plW G k s p) (c := 2) fun _ _ => plW_len
    rwa [List.length_range] at this
   refine x1_3 (mp_w (ns := ns) (n := n) (geo := geo) (k := k) (t := t) (zone := zone) (u11 := u11) hz hs hp hi X'.1 X'.2 (by rw [List.length_append]; lia)) fun τ2 e p2 x2 => ?_
   rw [show (0 : Int) + (i : Nat) * 1 = (i : Nat) by simp]
   refine i4_4 _ (.next) _ τ2 rfl e (.inl rfl) (i1_3 _ rfl p2 ?_)
   rw [range_flat, <- List.append_assoc]; exact x2)) fun m' σ' e y1 => ?_
 refine x1_2 y1 fun u10' y2 X' => ?_
 refine zk ?_; clear zk
 subst y2
 exact i2_2 u10' σ' (s_for (e_range1 (eL rfl) (by omega)) (iter_range (by simp [rangeLen])) e) X'
theorem mp_p {geo : V} {G : Geo} {k s p t : Nat} {zone : Int} {u8 u9 u10 u11 : Option V} {l : List Place} (W : G.Whole) (GA : GeoAt σ geo G) (hk : 2 <= k /\ k <= 5) (hs : s < G.z) (hp : p < G.z) (X : MpAt σ τ G.z l) (hl : l.length < 80000) :
 ∃ fl u8' u9' u10' τ', execSs (gobj ns) (Phi (gobj ns) (n + 6)) mpP (mpFrm geo k zone t G.z σ.length (some (.int (s : Nat))) (some (.int (p : Nat))) u8 u9 u10 u11) τ =
   some (fl, mpFrm geo k zone t G.z σ.length (some (.int (s : Nat))) (some (.int (p : Nat))) u8' u9' u10' u11, τ') /\ (fl = .next \/ fl = .cont) /\ MpAt σ τ' G.z (l ++ plP G k zone s p) := by
 have hz := W.z
 have st8 := sA (x := 8) (e_free (ns := ns) (Φ := Phi (gobj ns) (n + 6)) (k := k) (t := t) (r := σ.length) (zone := zone) (u8 := u8) (u9 := u9) (u10 := u10) (u11 := u11) W (GA.pre X.1) hs hp) (lb rfl)
 have c := e_skip (g := gobj ns) (Φ := Phi (gobj ns) (n + 6)) (geo := geo) (G := G) (k := k) (p := p) (t := t) (r := σ.length) (zone := zone) (u9 := u9) (u10 := u10) (u11 := u11) (f := freeA G s p) (τ := τ) (s := s) (by lia)
 unfold plP
 by_cases h : bit zone s = false \/ p = s \/ freeA G s p = 0
 · rw [decide_eq_true h] at c
   rw [if_pos h, List.append_nil]
   exact i5_1 (.cont) (some (.int (freeA G s p))) u9 u10 τ ⟨(sC st8 (ss_stop (s_if_t c rfl rfl) (fun h => by cases h))), (.inr rfl), X⟩
 · rw [decide_eq_false h] at c
   rw [if_neg h]
   refine cps fun _ zk => ?_
   refine x1_2 (sp_attacks (ns := ns) (n := n) (side := .int 0) (occ := shl1 s) (GA.pre X.1) W hk hp) fun τ1 p1 e1 => ?_
   refine x2_2 (mp_ws (ns := ns) (n := n + 5) (geo := geo) (k := k) (t := t) (zone := zone) (u10 := u10) (u11 := u11) (τ := τ1) (l := l) hz hs hp ⟨X.1.trans p1, pG p1 X.2⟩ hl) fun u10' τ2 e2 X2 => ?_
   refine zk ?_; clear zk
   exact i5_1 (.next) _ _ u10' τ2 ⟨(sC st8 (sC (s_if_f c rfl sN) (sC (sA (e_call (eC (eL rfl) (eC eI (eC (eL rfl) (eC (eL rfl) (eC (e_bin eI (eL rfl) (ar_shl1 s rfl (by lia))) eN))))) e1) (lb rfl)) (sC e2 sN)))), (.inl rfl), X2⟩
theorem mp_s {geo : V} {G : Geo} {k s t : Nat} {zone : Int} {u7 u8 u9 u10 u11 : Option V} {l : List Place} (W : G.Whole) (GA : GeoAt σ geo G) (hk : 2 <= k /\ k <= 5) (hs : s < G.z) (X : MpAt σ τ G.z l) (hl : l.length < 70000) :
 ∃ u7' u8' u9' u10' τ', execS (gobj ns) (Phi (gobj ns) (n + 6)) (.for_ 7 (.blt .range (.cons (.loc 4) .nil)) mpP) (mpFrm geo k zone t G.z σ.length (some (.int (s : Nat))) u7 u8 u9 u10 u11) τ =
   some (.next, mpFrm geo k zone t G.z σ.length (some (.int (s : Nat))) u7' u8' u9' u10' u11, τ') /\ MpAt σ τ' G.z (l ++ plS G k zone s) := by
 have hz := W.z
 refine cps fun _ zk => ?_
 refine x2_2 (for_range (g := gobj ns) (set := fun v m _ => setLoc 7 v m) (body := fun m σ => execSs (gobj ns) (Phi (gobj ns) (n + 6)) mpP m σ)
  (fun i fr τ' => ∃ u7 u8 u9 u10, fr = mpFrm geo k zone t G.z σ.length (some (.int (s : Nat))) u7 u8 u9 u10 u11 /\ MpAt σ τ' G.z (l ++ (List.range i).flatMap (plP G k zone s))) (a := 0) (st := 1) (n := G.z) (fuel := loopFuel) (fuel_lt (by lia)) (σ := τ ++ [O.range 0 (G.z : Nat) 1]) (i4_3 u7 u8 u9 u10 rfl (X.1.trans (pfa ..)) (by simpa using pG (pfa ..) X.2)) (by
   rintro i fr τ' hi ⟨u7, u8, u9, u10, rfl, X'⟩
   have hlen : ((List.range i).flatMap (plP G k zone s)).length <= i * 24 := by
    have := flat_len (l := List.range i) (f := plP G k zone s) (c := 24) fun _ _ => plP_len hz
    rwa [List.length_range] at this
   refine x5_1 (mp_p (ns := ns) (n := n) (geo := geo) (k := k) (t := t) (zone := zone) (u8 := u8) (u9 := u9) (u10 := u10) (u11 := u11) W GA hk hs hi X' (by rw [List.length_append]; lia)) fun fl u8' u9' u10' τ2 zq => x0_3 zq fun e hfl X2 => ?_
   rw [show (0 : Int) + (i : Nat) * 1 = (i : Nat) by simp]
   refine i4_4 _ fl _ τ2 rfl e hfl (i4_1 _ _ _ _ ⟨rfl, ?_⟩)
   rw [range_flat, <- List.append_assoc]; exact X2)) fun m' σ' e y3 => ?_
 refine x4_1 y3 fun u7' u8' u9' u10' zq => x0_2 zq fun y4 X' => ?_
 refine zk ?_; clear zk
 subst y4
 exact i5_1 u7' u8' u9' u10' σ' ⟨(s_for (e_range1 (eL rfl) (by omega)) (iter_range (by simp [rangeLen])) e), X'⟩
theorem mp_all {geo : V} {G : Geo} {k t : Nat} {zone : Int} (W : G.Whole) (GA : GeoAt σ geo G) (hk : 2 <= k /\ k <= 5) :
 ∃ u6 u7 u8 u9 u10 τ', execS (gobj ns) (Phi (gobj ns) (n + 6)) (.for_ 6 (.blt .range (.cons (.loc 4) .nil)) (.cons (.for_ 7 (.blt .range (.cons (.loc 4) .nil)) mpP) .nil)) (mpFrm geo k zone t G.z σ.length none none none none none none) (σ ++ [O.list []]) =
   some (.next, mpFrm geo k zone t G.z σ.length u6 u7 u8 u9 u10 none, τ') /\ MpAt σ τ' G.z (pls G k zone) := by
 have hz := W.z
 refine cps fun _ zk => ?_
 refine x2_2 (for_range (g := gobj ns) (set := fun v m _ => setLoc 6 v m) (body := fun m σ => execSs (gobj ns) (Phi (gobj ns) (n + 6)) (.cons (.for_ 7 (.blt .range (.cons (.loc 4) .nil)) mpP) .nil) m σ)
  (fun i fr τ' => ∃ u6 u7 u8 u9 u10, fr = mpFrm geo k zone t G.z σ.length u6 u7 u8 u9 u10 none /\ MpAt σ τ' G.z ((List.range i).flatMap (plS G k zone))) (a := 0) (st := 1) (n := G.z) (fuel := loopFuel) (fuel_lt (by lia)) (σ := σ ++ [O.list []] ++ [O.range 0 (G.z : Nat) 1]) (i5_1 none none none none none ⟨rfl, (by rw [List.append_assoc]; exact pfa ..), (by simp [pv])⟩) (by
   rintro i fr τ' hi ⟨u6, u7, u8, u9, u10, rfl, X'⟩
   have hlen : ((List.range i).flatMap (plS G k zone)).length <= i * 288 := by
    have := flat_len (l := List.range i) (f := plS G k zone) (c := 288) fun _ _ => plS_len hz
    rwa [List.length_range] at this
   refine x5_1 (mp_s (ns := ns) (n := n) (geo := geo) (k := k) (t := t) (zone := zone) (u7 := u7) (u8 := u8) (u9 := u9) (u10 := u10) (u11 := none) W GA hk hi X' (by lia)) fun u7' u8' u9' u10' τ2 zq => x0_2 zq fun e X2 => ?_
   rw [show (0 : Int) + (i : Nat) * 1 = (i : Nat) by simp]
   refine i4_4 _ (.next) _ τ2 rfl (sC e sN) (.inl rfl) (i5_1 _ _ _ _ _ ⟨rfl, ?_⟩)
   rw [range_flat]; exact X2)) fun m' σ' e y5 => ?_
 refine x5_1 y5 fun u6 u7 u8 u9 u10 zq => x0_2 zq fun y6 X' => ?_
 refine zk ?_; clear zk
 subst y6
 exact i6_1 u6 u7 u8 u9 u10 σ' ⟨(s_for (e_range1 (eL rfl) (by omega)) (iter_range (by simp [rangeLen])) e), X'⟩
noncomputable def tabF (l : List Int) (i : Nat) : Int := if (i : Int) ∈ l then -1 else -2
theorem sp_mark {geo : V} {G : Geo} {k t : Nat} {zone : Int} (W : G.Whole) (GA : GeoAt σ geo G) (hk : 2 <= k /\ k <= 5) (p0 : σ0 <+: σ) (ht : σ0.length <= t) (hT : σ[t]? = some (.list (lf (2 * G.z * G.z * G.z) fun _ => -2))) (hin : ∀ pl ∈ pls G k zone, InR G.z pl) :
 ∃ r σ', σ0 <+: σ' /\ σ0.length <= r /\ r ≠ t /\ Phi (gobj ns) (n + 7) 17 [geo, .int k, .int zone, .ref t] σ = some (.ref r, σ') /\ σ'[r]? = some (.list (pv G.z (pls G k zone))) /\ σ'[t]? = some (.list (lf (2 * G.z * G.z * G.z) (tabF ((pls G k zone).map (idxA G.z))))) := by
 have hz := W.z
 have hc := cube_le hz
 have htl := lt_of_get hT
 have hp := pre_len p0
 refine cps fun _ zk => ?_
 refine x6_1 (mp_all (ns := ns) (n := n) (k := k) (t := t) (zone := zone) W GA hk) fun u6 u7 u8 u9 u10 τ zq => x0_2 zq fun e X => ?_
 have hlen := pls_len (G := G) (k := k) (zone := zone) hz
 generalize hM : 2 * G.z * G.z * G.z = M at *
 have ic : (2 * (G.z : Int) * G.z * G.z) = (M : Int) := by rw [<- hM]; simp
 refine x2_2 (for_list (g := gobj ns) (set := fun v m _ => setLoc 11 v m) (body := fun m σ => execSs (gobj ns) (Phi (gobj ns) (n + 6)) (.cons (.setIdx (.loc 3) (.loc 11) (.lit (.int (-1)))) .nil) m σ) (l := .ref σ.length) (xs := pv G.z (pls G k zone)) (fuel := loopFuel)
  (fun i fr τ' => ∃ u11, fr = mpFrm geo k zone t G.z σ.length u6 u7 u8 u9 u10 u11 /\ σ0 <+: τ' /\ τ'[σ.length]? = some (.list (pv G.z (pls G k zone))) /\ τ'[t]? = some (.list (lf M (tabF (((pls G k zone).take i).map (idxA G.z)))))) (fuel_lt (by simp [pv]; lia)) (m := mpFrm geo k zone t G.z σ.length u6 u7 u8 u9 u10 none) (σ := τ)
  (i1_4 none rfl (p0.trans X.1) X.2 (by rw [pG X.1 hT]; simp [tabF])) (by
   rintro i fr τ' ⟨u, rfl, a, b, c⟩
   simp [listOf, getO, b]) (by
   rintro i x fr τ' hix ⟨u, rfl, a, b, c⟩
   unfold pv at hix
   rw [List.getElem?_map, Option.map_eq_some_iff] at hix
   refine x1_2 hix fun pl hpl zz1 => ?_
   clear hix
   subst zz1
   obtain ⟨i0, i1⟩ := idxA_lt (by lia) (hin pl (List.mem_of_getElem? hpl))
   have hi2 : (idxA G.z pl).toNat < M := by omega
   have ei : idxA G.z pl = ((idxA G.z pl).toNat : Nat) := by lia
   have st : execS (gobj ns) (Phi (gobj ns) (n + 6)) (.setIdx (.loc 3) (.loc 11) (.lit (.int (-1)))) (mpFrm geo k zone t G.z σ.length u6 u7 u8 u9 u10 (some (.int (idxA G.z pl)))) τ' = some (.next, mpFrm geo k zone t G.z σ.length u6 u7 u8 u9 u10 (some (.int (idxA G.z pl))), τ'.set t (.list ((lf M (tabF (((pls G k zone).take i).map (idxA G.z)))).set (idxA G.z pl).toNat (.int (-1))))) :=
    s_setIdx eI (eL rfl) (eL rfl) (by rw [ei]; exact setIdx_list c (by simpa using hi2) (by lia))
   refine i4_4 _ (.next) _ _ rfl (sC st sN) (.inl rfl) (i1_4 _ rfl (pre_set a ht _) (by rw [get_set_ne (by and_intros)]; exact b) ?_)
   rw [get_set c, range_map_set hi2]
   congr 3
   funext j
   congr 1
   unfold upd tabF
   rw [List.take_succ, hpl, List.map_append]
   by_cases hj : j = (idxA G.z pl).toNat
   · subst hj
     rw [if_pos rfl, if_pos]
     simp; lia
   · rw [if_neg hj]
     have : ((j : Int) ∈ ((pls G k zone).take i).map (idxA G.z) ++ (some pl).toList.map (idxA G.z)) = ((j : Int) ∈ ((pls G k zone).take i).map (idxA G.z)) := propext (by simp; lia)
     simp only [this])) fun m' σ' e2 y7 => ?_
 refine x1_4 y7 fun u11 y8 q1 q2 q3 => ?_
 refine zk ?_; clear zk
 subst y8
 rw [show (pv G.z (pls G k zone)).length = (pls G k zone).length by simp [pv], List.take_length] at q3
 have hl2 : listOf (gobj ns) τ (.ref σ.length) = some (pv G.z (pls G k zone)) := by simp [listOf, getO, X.2]
 refine i2_6 σ.length σ' q1 hp (by and_intros) ((phi_eq (fn := f_mark_places) rfl _ _).trans (run_ret (m := [some geo, some (.int k), some (.int zone), some (.ref t), none, none, none, none, none, none, none, none]) rfl rfl (sC (sA (e_attr (eL rfl) GA.size) (lb rfl)) (sC (sA (e_list eN (lb rfl)) (lb rfl)) (sC e (sC (s_for (eL rfl) (iter_list hl2) e2) (ss_ret (eL rfl)))))))) q2 q3
end
noncomputable def TriAt (g : List O) (σ : Hp) (v : V) (x : Int) : Prop := ∃ a b, getO g σ v = some (.tup [a, b, .int x])
noncomputable def TrisAt (g : List O) (σ : Hp) (vs : List V) (l : List Int) : Prop := vs.length = l.length /\ ∀ (i : Nat) (v : V), vs[i]? = some v -> ∃ x, l[i]? = some x /\ TriAt g σ v x
noncomputable def MvAt (g : List O) (σ τ : Hp) (r : Nat) (l : List Int) : Prop := σ <+: τ /\ ∃ vs, τ[r]? = some (.list vs) /\ TrisAt g τ vs l
section
variable {ns : List Int} {n : Nat} {σ σ0 σ1 σ2 τ : Hp} {Φ : CallF} {m m1 m2 : Frm} {g : List O}
theorem TrisAt.pre {vs : List V} {l : List Int} (h : TrisAt g σ vs l) (p : σ <+: τ) : TrisAt g τ vs l :=
 ⟨h.1, fun i v q => let ⟨x, a, b, c, d⟩ := h.2 i v q; (i1_2 x a (i2_1 b c (pre_getO p d)))⟩
theorem MvAt.push {r : Nat} {l : List Int} (X : MvAt g σ τ r l) (o : O) : MvAt g σ (τ ++ [o]) r l :=
 let ⟨vs, a, b⟩ := X.2
 ⟨X.1.trans (pfa ..), vs, pG (pfa ..) a, b.pre (pfa ..)⟩
theorem mv_app {r k : Nat} {l : List Int} {es : Es} {a b : V} {x : Int} (X : MvAt g σ τ r l) (hr : σ.length <= r) (hl : l.length < 1000) (hm : m[k]? = some (some (.ref r))) (ht : evalEs g Φ es m τ = some ([a, b, .int x], τ)) :
 ∃ τ', execS g Φ (.expr (.append (.loc k) (.tup es))) m τ = some (.next, m, τ') /\ MvAt g σ τ' r (l ++ [x]) := by
 refine cps fun _ zk => ?_
 refine x0_2 X fun p zz1 => ?_
 refine x1_2 zz1 fun vs hx T => ?_
 have h1 : (τ ++ [O.tup [a, b, .int x]])[r]? = some (.list vs) := pG (pfa ..) hx
 refine zk ?_; clear zk
 refine i1_3 _ (s_expr (e_append (eL hm) ⟨_, hx⟩ (e_tup ht (lb rfl)) h1 (by have := T.1; lia))) (pre_set (p.trans (pfa ..)) hr _) (i1_3 (vs ++ [.ref τ.length]) (get_set h1) (by simp [T.1]) (fun i v q => ?_))
 rw [List.getElem?_append] at q
 by_cases hi : i < vs.length
 · rw [if_pos hi] at q
   refine cps fun _ zk => ?_
   refine x1_2 (T.2 i v q) fun y h2 y1 => ?_
   refine x2_1 y1 fun c d h3 => ?_
   clear y1
   refine zk ?_; clear zk
   refine i1_2 y ?_ (i2_1 c d (getO_set_tup (pre_getO (pfa ..) h3) h1))
   rw [List.getElem?_append_left (gsm h2).1]; exact h2
 · rw [if_neg hi] at q
   have : i - vs.length = 0 := by
    have := (gsm q).1
    simp at this; omega
   rw [this] at q
   refine so1 q ?_
   refine i1_2 x ?_ (i2_1 a b (getO_set_tup (ys := vs) (show getO g (τ ++ [O.tup [a, b, .int x]]) (.ref τ.length) = _ from gP _ _) h1))
   rw [List.getElem?_append_right (by have := T.1; lia)]
   have : i - l.length = 0 := by have := T.1; lia
   rw [this]; rfl
theorem mv_loop {x z r : Nat} {e : E} {body : Ss} {Fr : Option V -> Option V -> Frm} {F : Nat -> List Int} {l : List Int} {u v : Option V} (hz : z <= 12) (hset : ∀ (u v : Option V) (i : Nat), setLoc x (.int (i : Nat)) (Fr u v) = some (Fr (some (.int (i : Nat))) v))
 (he : vE g Φ e (Fr u v) τ = some (.int (z : Nat), τ)) (hF : ∀ i, (F i).length <= 1) (X : MvAt g σ τ r l) (hl : l.length < 500)
 (step : ∀ i l v τ, i < z -> l.length < 1000 -> MvAt g σ τ r l -> ∃ fl v' τ', execSs g Φ body (Fr (some (.int (i : Nat))) v) τ = some (fl, Fr (some (.int (i : Nat))) v', τ') /\ (fl = .next \/ fl = .cont) /\ MvAt g σ τ' r (l ++ F i)) :
 ∃ u' v' τ', execS g Φ (.for_ x (.blt .range (.cons e .nil)) body) (Fr u v) τ = some (.next, Fr u' v', τ') /\ MvAt g σ τ' r (l ++ (List.range z).flatMap F) := by
 refine cps fun _ zk => ?_
 refine x2_2 (for_range (g := g) (set := fun v m _ => setLoc x v m) (body := fun m σ => execSs g Φ body m σ)
  (fun i fr τ' => ∃ u v, fr = Fr u v /\ MvAt g σ τ' r (l ++ (List.range i).flatMap F)) (a := 0) (st := 1) (n := z) (fuel := loopFuel) (fuel_lt (by lia)) (σ := τ ++ [O.range 0 (z : Nat) 1]) (i2_2 u v rfl (by simpa using X.push _)) (by
   rintro i fr τ' hi ⟨u, v, rfl, X'⟩
   have hlen := flat_len (l := List.range i) (f := F) (c := 1) fun _ _ => hF _
   rw [List.length_range] at hlen
   refine x3_3 (step i _ v τ' hi (by rw [List.length_append]; lia) X') fun fl v' τ2 e hfl X2 => ?_
   rw [show (0 : Int) + (i : Nat) * 1 = (i : Nat) by simp]
   refine i4_4 _ fl _ τ2 (hset u v i) e hfl (i2_2 _ _ rfl ?_)
   rw [range_flat, <- List.append_assoc]; exact X2)) fun m' σ' e2 y2 => ?_
 refine x2_2 y2 fun u' v' y3 X' => ?_
 refine zk ?_; clear zk
 subst y3
 exact i3_2 u' v' σ' (s_for (e_range1 he (by lia)) (iter_range (by simp [rangeLen])) e2) X'
theorem idx_tab {M t : Nat} {f : Nat -> Int} {i : Int} (h : σ[t]? = some (.list (lf M f))) (h0 : 0 <= i) (h1 : i < M) (hM : M < 100000) : idx g σ (.ref t) (.int i) = some (.int (f i.toNat)) := by
 have : i = ((i.toNat : Nat) : Int) := by lia
 rw [this]
 exact idx_map h (by lia) hM
theorem king_idx {geo : V} {G : Geo} {m : Frm} {i s : Nat} (W : G.Whole) (GA : GeoAt τ geo G) (hs : s < G.z) (h0 : m[0]? = some (some geo)) (hm : m[i]? = some (some (.int (s : Nat)))) : vE g Φ (.idx (.attr (.loc 0) 9) (.loc i)) m τ = some (.int (G.king.getD s 0), τ) := by
 refine x1_2 (GA.king) fun a h1 h2 => ?_
 have hz := W.z
 have hk := W.king
 exact eX (e_attr (eL h0) h1) (eL hm) (idx_list (show getO g τ (.ref a) = _ from h2) (by rw [List.getElem?_map, getD_get (d := 0) (by lia)]; rfl) (by lia))
noncomputable def plc (G : Geo) (side s p w : Nat) : Int := idxA G.z ((side : Int), (s : Int), (p : Int), (w : Int))
noncomputable def goF (G : Geo) (f : Nat -> Int) (i : Int) : List Int := if f i.toNat = -2 then [] else [i]
noncomputable def weakF (G : Geo) (f : Nat -> Int) (s p w goal : Nat) : List Int := if bit (G.king.getD w 0) goal = false then [] else if goal = p then (if bit (G.king.getD s 0) p = false then [-1] else []) else goF G f (plc G 0 s p goal)
noncomputable def strF1 (G : Geo) (f : Nat -> Int) (s p w goal : Nat) : List Int := if bit (G.king.getD s 0) goal = true then goF G f (plc G 1 goal p w) else []
noncomputable def strF2 (G : Geo) (f : Nat -> Int) (k s p w goal : Nat) : List Int := if bit (attA G k p (PySem.Builtin.bitOr (shl1 s) (shl1 w))) goal = true then goF G f (plc G 1 s goal w) else []
theorem plc_r {G : Geo} {side s p w : Nat} (hz : G.z <= 12) (h : side <= 1) (hs : s < G.z) (hp : p < G.z) (hw : w < G.z) : InR G.z ((side : Int), (s : Int), (p : Int), (w : Int)) :=
 ⟨by dsimp only; lia, by dsimp only; lia, by dsimp only; lia, by dsimp only; lia⟩
structure MvIn (σ : Hp) (geo : V) (G : Geo) (t : Nat) (f : Nat -> Int) (s p w : Nat) : Prop where
 W : G.Whole
 GA : GeoAt σ geo G
 T : σ[t]? = some (.list (lf (2 * G.z * G.z * G.z) f))
 s : s < G.z
 p : p < G.z
 w : w < G.z
theorem plc_idx {G : Geo} {t side s p w : Nat} {f : Nat -> Int} (W : G.Whole) (hT : τ[t]? = some (.list (lf (2 * G.z * G.z * G.z) f))) (h : side <= 1) (hs : s < G.z) (hp : p < G.z) (hw : w < G.z) : idx g τ (.ref t) (.int (plc G side s p w)) = some (.int (f (plc G side s p w).toNat)) := by
 have hz := W.z
 have hc := cube_le hz
 obtain ⟨a, b⟩ := idxA_lt (by lia) (plc_r hz h hs hp hw)
 refine idx_tab hT a ?_ (by lia)
 have : (2 * (G.z : Int) * G.z * G.z) = ((2 * G.z * G.z * G.z : Nat) : Int) := by simp
 rw [<- this]; exact b
theorem mv_put {G : Geo} {t r o it ip j1 j2 side s p w : Nat} {f : Nat -> Int} {l : List Int} {es2 : Es} {Fr : Option V -> Frm} {v : Option V} {a b : V} {as : Es} (W : G.Whole) (hT : σ[t]? = some (.list (lf (2 * G.z * G.z * G.z) f))) (h : side <= 1) (hs : s < G.z) (hp : p < G.z) (hw : w < G.z)
 (X : MvAt g σ τ r l) (hr : σ.length <= r) (hl : l.length < 1000) (hcall : vE g Φ (.call 15 as) (Fr v) τ = some (.int (plc G side s p w), τ))
 (h8 : ip < (Fr v).length) (hset : (Fr v).set ip (some (.int (plc G side s p w))) = Fr (some (.int (plc G side s p w)))) (ht : ∀ v, (Fr v)[it]? = some (some (.ref t))) (hi : (Fr (some (.int (plc G side s p w))))[ip]? = some (some (.int (plc G side s p w)))) (ho : ∀ v, (Fr v)[o]? = some (some (.ref r)))
 (h1 : ∀ v, (Fr v)[j1]? = some (some a)) (h2 : ∀ v, (Fr v)[j2]? = some (some b)) :
 ∃ v' τ', execSs g Φ (.cons (.asg ip (.call 15 as)) (.cons (.ife (.cmp .ne (.idx (.loc it) (.loc ip)) (.lit (.int (-2)))) (.cons (.expr (.append (.loc o) (.tup (.cons (.loc j1) (.cons (.loc j2) (.cons (.loc ip) .nil)))))) .nil) .nil) .nil)) (Fr v) τ = some (.next, Fr v', τ') /\ MvAt g σ τ' r (l ++ goF G f (plc G side s p w)) := by
 have st := sA hcall h8
 rw [hset] at st
 have c : vE g Φ (.cmp .ne (.idx (.loc it) (.loc ip)) (.lit (.int (-2)))) (Fr (some (.int (plc G side s p w)))) τ = some (.bool (decide (f (plc G side s p w).toNat ≠ -2)), τ) :=
  e_cmp (eX (eL (ht _)) (eL hi) (plc_idx W (pG X.1 hT) h hs hp hw)) eI cmp_neI
 unfold goF
 by_cases hf : f (plc G side s p w).toNat = -2
 · rw [if_pos hf, List.append_nil]
   exact i2_2 _ τ (sC st (sC (s_if_f c (by simp [truth, hf]) sN) sN)) X
 · rw [if_neg hf]
   refine x1_2 (mv_app (Φ := Φ) (m := Fr (some (.int (plc G side s p w)))) X hr hl (ho _) (eC (eL (h1 _)) (eC (eL (h2 _)) (eC (eL hi) eN)))) fun τ' e X' => ?_
   exact i2_2 _ τ' (sC st (sC (s_if_t c (by simp [truth, hf]) (sC e sN)) sN)) X'
end
section
variable {ns : List Int} {n : Nat} {σ σ0 σ1 σ2 τ : Hp} {Φ : CallF} {m m1 m2 : Frm} {g : List O} {geo : V} {G : Geo} {t s p w k r : Nat} {f : Nat -> Int}
noncomputable def wmFrm (geo : V) (G : Geo) (t s p w r : Nat) (u7 u8 : Option V) : Frm := [some geo, some (.ref t), some (.int (s : Nat)), some (.int (p : Nat)), some (.int (w : Nat)), some (.ref r), some (.int (G.king.getD w 0)), u7, u8]
noncomputable def wmB : Ss := (.cons (.ife (.cmp .eq (.bin .and (.bin .shr (.loc 6) (.loc 7)) (.lit (.int 1))) (.lit (.int 0))) (.cons .cont
 .nil) .nil)
 (.cons (.ife (.cmp .eq (.loc 7) (.loc 3)) (.cons (.ife (.cmp .eq (.bin .and (.bin .shr (.idx (.attr (.loc 0) 9) (.loc 2)) (.loc 3)) (.lit (.int 1))) (.lit (.int 0))) (.cons (.expr (.append (.loc 5) (.tup (.cons (.loc 4) (.cons (.loc 7) (.cons (.lit (.int (-1))) .nil))))))
 .nil) .nil)
 .nil) (.cons (.asg 8 (.call 15 (.cons (.attr (.loc 0) 2) (.cons (.lit (.int 0)) (.cons (.loc 2) (.cons (.loc 3) (.cons (.loc 7) .nil)))))))
 (.cons (.ife (.cmp .ne (.idx (.loc 1) (.loc 8)) (.lit (.int (-2)))) (.cons (.expr (.append (.loc 5) (.tup (.cons (.loc 4) (.cons (.loc 7) (.cons (.loc 8) .nil))))))
 .nil) .nil)
 .nil)))
 .nil))
theorem wm_step {goal : Nat} {l : List Int} {u8 : Option V} (I : MvIn σ geo G t f s p w) (hg : goal < G.z) (X : MvAt (gobj ns) σ τ r l) (hr : σ.length <= r) (hl : l.length < 1000) :
 ∃ fl u8' τ', execSs (gobj ns) (Phi (gobj ns) (n + 1)) wmB (wmFrm geo G t s p w r (some (.int (goal : Nat))) u8) τ = some (fl, wmFrm geo G t s p w r (some (.int (goal : Nat))) u8', τ') /\ (fl = .next \/ fl = .cont) /\ MvAt (gobj ns) σ τ' r (l ++ weakF G f s p w goal) := by
 have hz := I.W.z
 have hp := I.p
 have zi : (0 : Int) <= G.z /\ (G.z : Int) <= 12 := by lia
 have c1 : vE (gobj ns) (Phi (gobj ns) (n + 1)) (.cmp .eq (.bin .and (.bin .shr (.loc 6) (.loc 7)) (.lit (.int 1))) (.lit (.int 0))) (wmFrm geo G t s p w r (some (.int (goal : Nat))) u8) τ = _ := e_bit0 (eL rfl) (eL rfl) (by lia)
 unfold weakF
 cases hb : bit (G.king.getD w 0) goal with
 | false =>
   rw [if_pos rfl, List.append_nil]
   exact i3_3 (.cont) u8 τ (ss_stop (s_if_t c1 (by rw [hb]; rfl) rfl) (fun h => by cases h)) (.inr rfl) X
 | true =>
   rw [if_neg (by simp)]
   have n1 := s_if_f (t := .cons .cont .nil) c1 (by rw [hb]; rfl) (sN (g := gobj ns) (Φ := Phi (gobj ns) (n + 1)))
   have c2 : vE (gobj ns) (Phi (gobj ns) (n + 1)) (.cmp .eq (.loc 7) (.loc 3)) (wmFrm geo G t s p w r (some (.int (goal : Nat))) u8) τ = some (.bool (decide ((goal : Int) = (p : Int))), τ) := e_cmp (eL rfl) (eL rfl) cmp_eqI
   by_cases h : goal = p
   · rw [if_pos h]
     have c3 : vE (gobj ns) (Phi (gobj ns) (n + 1)) (.cmp .eq (.bin .and (.bin .shr (.idx (.attr (.loc 0) 9) (.loc 2)) (.loc 3)) (.lit (.int 1))) (.lit (.int 0))) (wmFrm geo G t s p w r (some (.int (goal : Nat))) u8) τ = _ := e_bit0 (king_idx I.W (I.GA.pre X.1) I.s rfl rfl) (eL rfl) (by lia)
     have t2 : truth (.bool (decide ((goal : Int) = (p : Int)))) = some true := by rw [decide_eq_true (by and_intros)]; rfl
     cases hk : bit (G.king.getD s 0) p with
     | false =>
       rw [if_pos rfl]
       obtain ⟨τ', e, X'⟩ := mv_app (Φ := Phi (gobj ns) (n + 1)) (m := wmFrm geo G t s p w r (some (.int (goal : Nat))) u8) (k := 5) X hr hl rfl (eC (eL (i := 4) rfl) (eC (eL (i := 7) rfl) (eC eI eN)))
       exact i3_3 (.next) u8 τ' (sC n1 (sC (s_if_t c2 t2 (sC (s_if_t c3 (by rw [hk]; rfl) (sC e sN)) sN)) sN)) (.inl rfl) X'
     | true =>
       rw [if_neg (by simp), List.append_nil]
       exact i3_3 (.next) u8 τ (sC n1 (sC (s_if_t c2 t2 (sC (s_if_f c3 (by rw [hk]; rfl) sN) sN)) sN)) (.inl rfl) X
   · rw [if_neg h]
     obtain ⟨u8', τ', e, X'⟩ := mv_put (Φ := Phi (gobj ns) (n + 1)) (Fr := wmFrm geo G t s p w r (some (.int (goal : Nat)))) (v := u8) (side := 0) (s := s) (p := p) (w := goal) (it := 1) (ip := 8) (o := 5) (j1 := 4) (j2 := 7) I.W I.T (by exact lb rfl) I.s I.p hg X hr hl
      (e_call (eC (e_attr (eL (i := 0) rfl) (I.GA.pre X.1).size) (eC eI (eC (eL (i := 2) rfl) (eC (eL (i := 3) rfl) (eC (eL (i := 7) rfl) eN))))) (sp_index zi (plc_r hz (by exact lb rfl) I.s I.p hg))) (by simp [wmFrm]) rfl (fun _ => rfl) rfl (fun _ => rfl) (fun _ => rfl) (fun _ => rfl) (es2 := .nil)
     exact i3_3 (.next) u8' τ' (sC n1 (sC (s_if_f c2 (by rw [decide_eq_false (by lia)]; rfl) e) sN)) (.inl rfl) X'
theorem goF_len {i : Int} : (goF G f i).length <= 1 := by
 unfold goF
 split <;> simp
theorem weakF_len {i : Nat} : (weakF G f s p w i).length <= 1 := by
 unfold weakF
 split
 · simp
 · split
   · split <;> simp
   · exact goF_len
noncomputable def weakV (G : Geo) (f : Nat -> Int) (s p w : Nat) : List Int := (List.range G.z).flatMap (weakF G f s p w)
theorem sp_weak (I : MvIn σ geo G t f s p w) :
 ∃ r τ vs, σ.length <= r /\ σ <+: τ /\ Phi (gobj ns) (n + 2) 18 [geo, .ref t, .int s, .int p, .int w] σ = some (.ref r, τ) /\ τ[r]? = some (.list vs) /\ TrisAt (gobj ns) τ vs (weakV G f s p w) := by
 have X0 : MvAt (gobj ns) σ (σ ++ [O.list []]) σ.length [] := ⟨pfa .., [], by simp, rfl, fun i v q => by exact nn q⟩
 refine cps fun _ zk => ?_
 refine x3_2 (mv_loop (g := gobj ns) (Φ := Phi (gobj ns) (n + 1)) (x := 7) (body := wmB) (Fr := wmFrm geo G t s p w σ.length) (F := weakF G f s p w) (u := none) (v := none) (e := .attr (.loc 0) 2) I.W.z (fun _ _ _ => rfl) (e_attr (eL rfl) (I.GA.pre X0.1).size) (fun _ => weakF_len) X0 (by decide)
  (fun i l v τ hi hl X => wm_step I hi X (Nat.le_refl _) hl)) fun u7 u8 τ e y1 => ?_
 refine x0_2 y1 fun p0 zz1 => ?_
 refine x1_2 zz1 fun vs hx T => ?_
 refine zk ?_; clear zk
 exact i3_5 σ.length τ vs (Nat.le_refl _) p0 ((phi_eq (fn := f_weak_moves) rfl _ _).trans (run_ret (m := [some geo, some (.ref t), some (.int s), some (.int p), some (.int w), none, none, none, none]) rfl rfl (sC (sA (e_list eN (lb rfl)) (lb rfl)) (sC (sA (king_idx I.W (I.GA.pre X0.1) I.w rfl rfl) (lb rfl)) (sC e (ss_ret (eL rfl))))))) hx T
noncomputable def smFrm (geo : V) (G : Geo) (t k s p w r : Nat) (u9 u10 : Option V) : Frm := [some geo, some (.ref t), some (.int (k : Nat)), some (.int (s : Nat)), some (.int (p : Nat)), some (.int (w : Nat)), some (.ref r), some (.int (G.king.getD s 0)), some (.int (attA G k p (PySem.Builtin.bitOr (shl1 s) (shl1 w)))), u9, u10]
noncomputable def smB (i0 a b j : Nat) : Ss := (.cons (.ife (.bin .and (.bin .shr (.loc i0) (.loc 9)) (.lit (.int 1))) (.cons (.asg 10 (.call 15 (.cons (.attr (.loc 0) 2) (.cons (.lit (.int 1)) (.cons (.loc a) (.cons (.loc b) (.cons (.loc 5) .nil)))))))
 (.cons (.ife (.cmp .ne (.idx (.loc 1) (.loc 10)) (.lit (.int (-2)))) (.cons (.expr (.append (.loc 6) (.tup (.cons (.loc j) (.cons (.loc 9) (.cons (.loc 10) .nil))))))
 .nil) .nil)
 .nil)) .nil)
 .nil)
theorem sm_step {goal i0 a b j sa pb : Nat} {mask : Int} {ja : V} {l : List Int} {u10 : Option V} (I : MvIn σ geo G t f s p w) (hg : goal < G.z) (hsa : sa < G.z) (hpb : pb < G.z) (X : MvAt (gobj ns) σ τ r l) (hr : σ.length <= r) (hl : l.length < 1000)
 (h0 : ∀ u, (smFrm geo G t k s p w r (some (.int (goal : Nat))) u)[i0]? = some (some (.int mask))) (ha : ∀ u, (smFrm geo G t k s p w r (some (.int (goal : Nat))) u)[a]? = some (some (.int (sa : Nat)))) (hb : ∀ u, (smFrm geo G t k s p w r (some (.int (goal : Nat))) u)[b]? = some (some (.int (pb : Nat)))) (hj : ∀ u, (smFrm geo G t k s p w r (some (.int (goal : Nat))) u)[j]? = some (some ja)) :
 ∃ fl u10' τ', execSs (gobj ns) (Phi (gobj ns) (n + 1)) (smB i0 a b j) (smFrm geo G t k s p w r (some (.int (goal : Nat))) u10) τ = some (fl, smFrm geo G t k s p w r (some (.int (goal : Nat))) u10', τ') /\ (fl = .next \/ fl = .cont) /\ MvAt (gobj ns) σ τ' r (l ++ if bit mask goal = true then goF G f (plc G 1 sa pb w) else []) := by
 have hz := I.W.z
 have zi : (0 : Int) <= G.z /\ (G.z : Int) <= 12 := by lia
 have c1 : vE (gobj ns) (Phi (gobj ns) (n + 1)) (.bin .and (.bin .shr (.loc i0) (.loc 9)) (.lit (.int 1))) (smFrm geo G t k s p w r (some (.int (goal : Nat))) u10) τ = _ := e_bit (eL (h0 _)) (eL rfl) (by lia)
 cases hm : bit mask goal with
 | false =>
   rw [if_neg (by simp), List.append_nil]
   exact i3_3 (.next) u10 τ (sC (s_if_f c1 (by rw [truth_bit, hm]) sN) sN) (.inl rfl) X
 | true =>
   rw [if_pos rfl]
   refine x2_2 (mv_put (Φ := Phi (gobj ns) (n + 1)) (Fr := smFrm geo G t k s p w r (some (.int (goal : Nat)))) (v := u10) (side := 1) (s := sa) (p := pb) (w := w) (it := 1) (ip := 10) (o := 6) (j1 := j) (j2 := 9) I.W I.T (by exact lb rfl) hsa hpb I.w X hr hl
    (e_call (eC (e_attr (eL (i := 0) rfl) (I.GA.pre X.1).size) (eC eI (eC (eL (ha _)) (eC (eL (hb _)) (eC (eL (i := 5) rfl) eN))))) (sp_index zi (plc_r hz (by exact lb rfl) hsa hpb I.w))) (by simp [smFrm]) rfl (fun _ => rfl) rfl (fun _ => rfl) hj (fun _ => rfl) (es2 := .nil)) fun u' τ' e X' => ?_
   exact i3_3 (.next) u' τ' (sC (s_if_t c1 (by rw [truth_bit, hm]) e) sN) (.inl rfl) X'
noncomputable def strV (G : Geo) (f : Nat -> Int) (k s p w : Nat) : List Int := (List.range G.z).flatMap (strF1 G f s p w) ++ (List.range G.z).flatMap (strF2 G f k s p w)
theorem sp_strong (I : MvIn σ geo G t f s p w) (hk : 2 <= k /\ k <= 5) :
 ∃ r τ vs, σ.length <= r /\ σ <+: τ /\ Phi (gobj ns) (n + 7) 19 [geo, .ref t, .int k, .int s, .int p, .int w] σ = some (.ref r, τ) /\ τ[r]? = some (.list vs) /\ TrisAt (gobj ns) τ vs (strV G f k s p w) := by
 have hz := I.W.z
 have hs := I.s
 have hw := I.w
 refine cps fun _ zk => ?_
 refine x1_2 (sp_attacks (ns := ns) (n := n) (side := .int 0) (occ := PySem.Builtin.bitOr (shl1 s) (shl1 w)) (I.GA.pre (pfa σ [O.list []])) I.W hk I.p) fun τa pa ea => ?_
 have p1 : σ <+: τa := (pfa σ [O.list []]).trans pa
 have X0 : MvAt (gobj ns) σ τa σ.length [] := ⟨p1, [], pG pa (by simp), rfl, fun i v q => by exact nn q⟩
 refine x3_2 (mv_loop (g := gobj ns) (Φ := Phi (gobj ns) (n + 6)) (x := 9) (body := smB 7 9 4 3) (Fr := smFrm geo G t k s p w σ.length) (F := strF1 G f s p w) (u := none) (v := none) (e := .attr (.loc 0) 2) hz (fun _ _ _ => rfl) (e_attr (eL rfl) (I.GA.pre X0.1).size) (fun i => by unfold strF1; split; exact goF_len; simp) X0 (by decide)
  (fun i l v τ hi hl X => sm_step (ja := .int s) I hi hi I.p X (Nat.le_refl _) hl (fun _ => rfl) (fun _ => rfl) (fun _ => rfl) (fun _ => rfl))) fun u9 u10 τ1 e1 X1 => ?_
 have hlen := flat_len (l := List.range G.z) (f := strF1 G f s p w) (c := 1) fun i _ => by unfold strF1; split; exact goF_len; simp
 rw [List.length_range] at hlen
 refine x3_2 (mv_loop (g := gobj ns) (Φ := Phi (gobj ns) (n + 6)) (x := 9) (body := smB 8 3 9 4) (Fr := smFrm geo G t k s p w σ.length) (F := strF2 G f k s p w) (u := u9) (v := u10) (e := .attr (.loc 0) 2) hz (fun _ _ _ => rfl) (e_attr (eL rfl) (I.GA.pre X1.1).size) (fun i => by unfold strF2; split; exact goF_len; simp) X1 (by rw [List.length_append, List.length_nil]; lia)
  (fun i l v τ hi hl X => sm_step (ja := .int p) I hi I.s hi X (Nat.le_refl _) hl (fun _ => rfl) (fun _ => rfl) (fun _ => rfl) (fun _ => rfl))) fun u9' u10' τ2 e2 y2 => ?_
 refine x0_2 y2 fun p0 zz2 => ?_
 refine x1_2 zz2 fun vs hx T => ?_
 refine zk ?_; clear zk
 exact i3_5 σ.length τ2 vs (Nat.le_refl _) p0 ((phi_eq (fn := f_strong_moves) rfl _ _).trans (run_ret (m := [some geo, some (.ref t), some (.int k), some (.int s), some (.int p), some (.int w), none, none, none, none, none]) rfl rfl (sC (sA (e_list eN (lb rfl)) (lb rfl)) (sC (sA (king_idx I.W (I.GA.pre (pfa ..)) I.s rfl rfl) (lb rfl)) (sC (sA (e_call (eC (eL rfl) (eC eI (eC (eL rfl) (eC (eL rfl) (eC (e_bin (e_bin eI (eL rfl) (ar_shl1 s rfl (by lia))) (e_bin eI (eL rfl) (ar_shl1 w rfl (by lia))) ar_or) eN))))) ea) (lb rfl)) (sC e1 (sC e2 (ss_ret (eL rfl))))))))) hx (by simpa [strV] using T)
noncomputable def movesV (G : Geo) (f : Nat -> Int) (k : Nat) (side : Int) (s p w : Nat) : List Int := if side = 1 then weakV G f s p w else strV G f k s p w
theorem sp_movesAt {side : Int} (I : MvIn σ geo G t f s p w) (hk : 2 <= k /\ k <= 5) :
 ∃ r τ vs, σ.length <= r /\ σ <+: τ /\ Phi (gobj ns) (n + 8) 20 [geo, .ref t, .int k, .int side, .int s, .int p, .int w] σ = some (.ref r, τ) /\ τ[r]? = some (.list vs) /\ TrisAt (gobj ns) τ vs (movesV G f k side s p w) := by
 have c : vE (gobj ns) (Phi (gobj ns) (n + 7)) (.cmp .eq (.loc 3) (.lit (.int 1))) [some geo, some (.ref t), some (.int k), some (.int side), some (.int s), some (.int p), some (.int w)] σ = some (.bool (decide (side = 1)), σ) := e_cmp (eL rfl) eI cmp_eqI
 unfold movesV
 by_cases h : side = 1
 · rw [if_pos h]
   rw [decide_eq_true h] at c
   refine x3_5 (sp_weak (ns := ns) (n := n + 5) I) fun r τ vs hge p0 e hx T => ?_
   exact i3_5 r τ vs hge p0 ((phi_eq (fn := f_moves_at) rfl _ _).trans (run_ret (m := [some geo, some (.ref t), some (.int k), some (.int side), some (.int s), some (.int p), some (.int w)]) rfl rfl (ss_stop (s_if_t c rfl (ss_ret (e_call (eC (eL rfl) (eC (eL rfl) (eC (eL rfl) (eC (eL rfl) (eC (eL rfl) eN))))) e))) (fun h => by cases h)))) hx T
 · rw [if_neg h]
   rw [decide_eq_false h] at c
   refine x3_5 (sp_strong (ns := ns) (n := n) I hk) fun r τ vs hge p0 e hx T => ?_
   exact i3_5 r τ vs hge p0 ((phi_eq (fn := f_moves_at) rfl _ _).trans (run_ret (m := [some geo, some (.ref t), some (.int k), some (.int side), some (.int s), some (.int p), some (.int w)]) rfl rfl (sC (s_if_f c rfl sN) (ss_ret (e_call (eC (eL rfl) (eC (eL rfl) (eC (eL rfl) (eC (eL rfl) (eC (eL rfl) (eC (eL rfl) eN)))))) e))))) hx T
end
theorem kvGet_map {k k' : Int} {v : V} : ∀ (l : List (Int × V)), kvGet k' (l.map fun kv => if kv.1 = k then (kv.1, v) else kv) = if k' = k then (kvGet k' l).map fun _ => v else kvGet k' l
 | [] => by simp [kvGet]
 | (i, x) :: r => by
   have ih := kvGet_map (k := k) (k' := k') (v := v) r
   by_cases h1 : i = k
   · subst h1
     by_cases h2 : i = k'
     · subst h2; simp [kvGet]
     · simp [kvGet, h2, ih, Ne.symm h2]
   · by_cases h2 : i = k'
     · subst h2; simp [kvGet, h1]
     · simp [kvGet, h1, h2, ih]
theorem kvGet_app {k' : Int} : ∀ (l : List (Int × V)) (kv : Int × V), kvGet k' (l ++ [kv]) = match kvGet k' l with | some x => some x | none => if kv.1 = k' then some kv.2 else none
 | [], (i, x) => by simp [kvGet]
 | (i, x) :: r, kv => by
   rw [List.cons_append]
   unfold kvGet
   by_cases h : i = k'
   · simp [h]
   · simp only [if_neg h]; exact kvGet_app r kv
theorem kvGet_none {k : Int} : ∀ {l : List (Int × V)}, (l.any fun kv => kv.1 = k) = false -> kvGet k l = none
 | [], _ => rfl
 | (i, x) :: r, h => by
   simp only [List.any_cons, Bool.or_eq_false_iff, decide_eq_false_iff_not] at h
   unfold kvGet
   rw [if_neg h.1]; exact kvGet_none h.2
theorem kvGet_some {k : Int} : ∀ {l : List (Int × V)}, (l.any fun kv => kv.1 = k) = true -> ∃ v, kvGet k l = some v
 | [], h => by simp at h
 | (i, x) :: r, h => by
   unfold kvGet
   by_cases q : i = k
   · exact ⟨x, if_pos q⟩
   · rw [if_neg q]
     simp only [List.any_cons, q, decide_false, Bool.false_or] at h
     exact kvGet_some h
theorem kvGet_put {k k' : Int} {v : V} {l : List (Int × V)} : kvGet k' (kvPut k v l) = if k' = k then some v else kvGet k' l := by
 unfold kvPut
 cases h : l.any fun kv => kv.1 = k with
 | true =>
   rw [if_pos rfl, kvGet_map]
   by_cases q : k' = k
   · subst q
     obtain ⟨x, e⟩ := kvGet_some h
     rw [if_pos rfl, if_pos rfl, e]; rfl
   · rw [if_neg q, if_neg q]
 | false =>
   rw [if_neg (by simp), kvGet_app]
   by_cases q : k' = k
   · subst q
     rw [kvGet_none h, if_pos rfl]
   · rw [if_neg q]
     cases kvGet k' l with
     | some x => rfl
     | none => simp [Ne.symm q]
theorem kvPut_len {k : Int} {v : V} {l : List (Int × V)} : (kvPut k v l).length <= l.length + 1 := by
 unfold kvPut
 split <;> simp
noncomputable def WhAt (τ : Hp) (d : Nat) (l : List Int) (j : Nat) : Prop := ∃ kv, τ[d]? = some (.dict kv) /\ kv.length <= j + 1 /\ kvGet (-1) kv = some (.int (-1)) /\ ∀ i x, i < j -> l[i]? = some x -> kvGet x kv = some (.int (i : Nat))
section
variable {ns : List Int} {n : Nat} {σ σ0 σ1 σ2 τ : Hp} {Φ : CallF} {m m1 m2 : Frm} {g : List O} {geo : V} {G : Geo} {t s p w k r : Nat} {f : Nat -> Int}
noncomputable def bzFrm (geo : V) (k : Nat) (zone half : Int) (t rp d : Nat) (u7 u8 u9 u10 u11 u12 u13 u14 u15 u16 u17 u18 u19 u20 : Option V) : Frm := [some geo, some (.int (k : Nat)), some (.int zone), some (.int half), some (.ref t), some (.ref rp), some (.ref d), u7, u8, u9, u10, u11, u12, u13, u14, u15, u16, u17, u18, u19, u20]
theorem bz_where {zone half : Int} {t rp d : Nat} {l : List Int} (hnd : l.Nodup) (hpos : ∀ x ∈ l, 0 <= x /\ x < 100000) (hl : l.length <= 3456) (hp : σ[rp]? = some (.list (l.map .int))) (hd : σ.length <= d) (p0 : σ <+: τ) (h0 : WhAt τ d l 0) :
 ∃ u τ', execS g Φ (.for_ 7 (.blt .range (.cons (.blt .len (.cons (.loc 5) .nil)) .nil)) (.cons (.setIdx (.loc 6) (.idx (.loc 5) (.loc 7)) (.loc 7)) .nil)) (bzFrm geo k zone half t rp d none none none none none none none none none none none none none none) τ =
   some (.next, bzFrm geo k zone half t rp d u none none none none none none none none none none none none none, τ') /\ σ <+: τ' /\ WhAt τ' d l l.length := by
 refine cps fun _ zk => ?_
 refine x2_2 (for_range (g := g) (set := fun v m _ => setLoc 7 v m) (body := fun m σ => execSs g Φ (.cons (.setIdx (.loc 6) (.idx (.loc 5) (.loc 7)) (.loc 7)) .nil) m σ)
  (fun i fr τ' => ∃ u, fr = bzFrm geo k zone half t rp d u none none none none none none none none none none none none none /\ σ <+: τ' /\ WhAt τ' d l i) (a := 0) (st := 1) (n := l.length) (fuel := loopFuel) (fuel_lt (by lia)) (m := bzFrm geo k zone half t rp d none none none none none none none none none none none none none none) (σ := τ ++ [O.range 0 (l.length : Nat) 1])
  (i1_3 none rfl (p0.trans (pfa ..)) (let ⟨kv, a, b⟩ := h0; (i1_2 kv (pG (pfa ..) a) b))) (by
   rintro i fr τ' hi ⟨u, rfl, q, kv, a, b, c, e⟩
   rw [show (0 : Int) + (i : Nat) * 1 = (i : Nat) by simp]
   have hx : l[i]? = some l[i] := List.getElem?_eq_getElem hi
   have hb := hpos _ (List.getElem_mem hi)
   have ix : idx g τ' (.ref rp) (.int (i : Nat)) = some (.int l[i]) := idx_list (show getO g τ' (.ref rp) = _ from pG q hp) (by rw [List.getElem?_map, hx]; rfl) (by lia)
   have st : setIdx τ' (.ref d) (.int l[i]) (.int (i : Nat)) = some (τ'.set d (.dict (kvPut l[i] (.int (i : Nat)) kv))) := by
    simp only [setIdx, a]
    rw [if_pos ⟨by lia, by lia⟩]
   refine i4_4 _ (.next) _ _ rfl (sC (s_setIdx (eL rfl) (eL rfl) (eX (eL rfl) (eL rfl) ix) st) sN) (.inl rfl) (i1_3 _ rfl (pre_set q hd _) (i1_4 _ (get_set a) ?_ ?_ ?_))
   · have := kvPut_len (k := l[i]) (v := .int (i : Nat)) (l := kv); lia
   · rw [kvGet_put, if_neg (by lia)]; exact c
   · intro j x hj hjx
     rw [kvGet_put]
     by_cases hji : j = i
     · subst hji
       rw [hx] at hjx
       refine so1 hjx ?_
       rw [if_pos rfl]
     · rw [if_neg, e j x (by lia) hjx]
       intro h
       obtain ⟨h3, h4⟩ := gsm hjx
       exact List.pairwise_iff_getElem.mp hnd j i h3 hi (by lia) (h4.trans h))) fun m' σ' e2 y1 => ?_
 refine x1_3 y1 fun u y2 p1 h1 => ?_
 refine zk ?_; clear zk
 subst y2
 have len : vE g Φ (.blt .len (.cons (.loc 5) .nil)) (bzFrm geo k zone half t rp d none none none none none none none none none none none none none none) τ = some (.int (l.length : Nat), τ) := by
  have := e_len (g := g) (Φ := Φ) (m := bzFrm geo k zone half t rp d none none none none none none none none none none none none none none) (e := .loc 5) (eL rfl) (show listOf g τ (.ref rp) = some (l.map .int) by simp [listOf, getO, pG p0 hp]) (by simp; lia)
  rw [this]; simp
 exact i2_3 u σ' (s_for (e_range1 len (by lia)) (iter_range (by simp [rangeLen])) e2) p1 h1
noncomputable def whF (l : List Int) (x : Int) : Int := if x = -1 then -1 else l.idxOf x
theorem wh_get {d : Nat} {l : List Int} {x : Int} (h : WhAt τ d l l.length) (hx : x = -1 \/ x ∈ l) : idx g τ (.ref d) (.int x) = some (.int (whF l x)) := by
 refine x1_4 h fun kv a b c e => ?_
 clear h
 have g1 : getO g τ (.ref d) = some (.dict kv) := a
 unfold idx
 rw [g1]
 unfold whF
 by_cases q : x = -1
 · subst q
   rw [if_pos rfl]; exact c
 · rw [if_neg q]
   have hm := hx.resolve_left q
   have hlt : l.idxOf x < l.length := List.idxOf_lt_length_iff.mpr hm
   refine e _ x hlt ?_
   rw [List.getElem?_eq_getElem hlt, List.getElem_idxOf]
theorem TrisAt.set {vs : List V} {l : List Int} {ys : List V} {r : Nat} {o : O} (h : TrisAt g σ vs l) (hr : σ[r]? = some (.list ys)) : TrisAt g (σ.set r o) vs l :=
 ⟨h.1, fun i v q => let ⟨x, a, b, c, d⟩ := h.2 i v q; (i1_2 x a (i2_1 b c (getO_set_tup d hr)))⟩
theorem bz_row {zone half : Int} {t rp d b r : Nat} {u7 u8 u9 u10 u11 u12 u13 u14 u15 u17 u18 u19 u20 : Option V} {l ml : List Int} {vs : List V} {Φ : CallF} {ce : E}
 (hd : WhAt σ d l l.length) (p0 : σ <+: τ) (hb : σ.length <= b) (hx : τ[b]? = some (.list [])) (hce : vE g Φ ce (bzFrm geo k zone half t rp d u7 u8 u9 u10 u11 u12 u13 u14 u15 (some (.ref b)) u17 u18 u19 u20) τ = some (.ref r, σ1)) (p1 : τ <+: σ1) (hr : r ≠ b) (hv : σ1[r]? = some (.list vs)) (T : TrisAt g σ1 vs ml) (hml : ml.length <= 24) (hin : ∀ x ∈ ml, x = -1 \/ x ∈ l) :
 ∃ v17 v18 v19 τ', execS g Φ (.forT [17, 18, 19] ce (.cons (.expr (.append (.loc 16) (.idx (.loc 6) (.loc 19)))) .nil)) (bzFrm geo k zone half t rp d u7 u8 u9 u10 u11 u12 u13 u14 u15 (some (.ref b)) u17 u18 u19 u20) τ =
   some (.next, bzFrm geo k zone half t rp d u7 u8 u9 u10 u11 u12 u13 u14 u15 (some (.ref b)) v17 v18 v19 u20, τ') /\ σ <+: τ' /\ τ'[b]? = some (.list ((ml.map (whF l)).map .int)) := by
 have hl1 : listOf g σ1 (.ref r) = some vs := by simp [listOf, getO, hv]
 refine cps fun _ zk => ?_
 refine x2_2 (for_list (g := g) (set := unpackTo g [17, 18, 19]) (body := fun m σ => execSs g Φ (.cons (.expr (.append (.loc 16) (.idx (.loc 6) (.loc 19)))) .nil) m σ) (l := .ref r) (xs := vs) (fuel := loopFuel)
  (fun i fr τ' => ∃ u17 u18 u19, fr = bzFrm geo k zone half t rp d u7 u8 u9 u10 u11 u12 u13 u14 u15 (some (.ref b)) u17 u18 u19 u20 /\ σ <+: τ' /\ τ'[b]? = some (.list (((ml.take i).map (whF l)).map .int)) /\ τ'[r]? = some (.list vs) /\ TrisAt g τ' vs ml) (fuel_lt (by have := T.1; lia))
  (i3_5 u17 u18 u19 rfl (p0.trans p1) (by simpa using pG p1 hx) hv T) (by
   rintro i fr τ' ⟨u17, u18, u19, rfl, q0, q1, q2, q3⟩
   simp [listOf, getO, q2]) (by
   rintro i v fr τ' hiv ⟨u17, u18, u19, rfl, q0, q1, q2, q3⟩
   refine cps fun _ zk => ?_
   refine x1_2 (q3.2 i v hiv) fun x h1 zz1 => ?_
   refine x2_1 zz1 fun a c h2 => ?_
   have hmem := List.mem_of_getElem? h1
   have st : execS g Φ (.expr (.append (.loc 16) (.idx (.loc 6) (.loc 19)))) (bzFrm geo k zone half t rp d u7 u8 u9 u10 u11 u12 u13 u14 u15 (some (.ref b)) (some a) (some c) (some (.int x)) u20) τ' = some (.next, _, τ'.set b (.list (((ml.take i).map (whF l)).map V.int ++ [.int (whF l x)]))) :=
    s_expr (e_append (eL rfl) ⟨_, q1⟩ (eX (eL rfl) (eL rfl) (wh_get (show WhAt τ' d l l.length from let ⟨kv, z1, z2⟩ := hd; ⟨kv, pG q0 z1, z2⟩) (hin x hmem))) q1 (by simp; lia))
   refine zk ?_; clear zk
   refine i4_4 (bzFrm geo k zone half t rp d u7 u8 u9 u10 u11 u12 u13 u14 u15 (some (.ref b)) (some a) (some c) (some (.int x)) u20) (.next) _ _ (by simp only [unpackTo, h2]; rfl) (sC st sN) (.inl rfl) (i3_5 _ _ _ rfl (pre_set q0 hb _) ?_ (by rw [get_set_ne (Ne.symm hr)]; exact q2) (q3.set q1))
   rw [get_set q1, List.take_succ, h1]
   simp)) fun m' σ' e y3 => ?_
 refine x3_5 y3 fun u17' u18' u19' y4 q0 q1 q2 q3 => ?_
 refine zk ?_; clear zk
 subst y4
 rw [T.1, List.take_length] at q1
 exact i4_3 _ _ _ σ' (s_forT hce hl1 e) q0 q1
end
theorem goF_in {G : Geo} {l : List Int} {i x : Int} (hi : 0 <= i) (h : x ∈ goF G (tabF l) i) : x ∈ l := by
 unfold goF at h
 split at h
 · cases h
 · rename_i q
   rw [List.mem_singleton] at h
   subst h
   unfold tabF at q
   split at q
   · rename_i q2
     rwa [Int.toNat_of_nonneg hi] at q2
   · exact absurd rfl q
theorem movesV_in {G : Geo} {l : List Int} {k s p w : Nat} {side x : Int} (hz : G.z <= 12) (hs : s < G.z) (hp : p < G.z) (hw : w < G.z) (h : x ∈ movesV G (tabF l) k side s p w) : x = -1 \/ x ∈ l := by
 have go : ∀ (side s p w : Nat), side <= 1 -> s < G.z -> p < G.z -> w < G.z -> ∀ {x}, x ∈ goF G (tabF l) (plc G side s p w) -> x ∈ l := fun side s p w h h1 h2 h3 x hx => goF_in (idxA_lt (by lia) (plc_r hz h h1 h2 h3)).1 hx
 unfold movesV at h
 split at h
 · refine x1_2 (List.mem_flatMap.mp h) fun gl hg h => ?_
   rw [List.mem_range] at hg
   unfold weakF at h
   split at h
   · cases h
   · split at h
     · split at h
       · exact .inl (List.mem_singleton.mp h)
       · cases h
     · exact .inr (go 0 s p gl (by exact lb rfl) hs hp hg h)
 · rcases List.mem_append.mp h with h | h
   · refine x1_2 (List.mem_flatMap.mp h) fun gl hg h => ?_
     rw [List.mem_range] at hg
     unfold strF1 at h
     split at h
     · exact .inr (go 1 gl p w (by exact lb rfl) hg hp hw h)
     · cases h
   · refine x1_2 (List.mem_flatMap.mp h) fun gl hg h => ?_
     rw [List.mem_range] at hg
     unfold strF2 at h
     split at h
     · exact .inr (go 1 s gl w (by exact lb rfl) hs hg hw h)
     · cases h
theorem movesV_len {G : Geo} {f : Nat -> Int} {k s p w : Nat} {side : Int} (hz : G.z <= 12) : (movesV G f k side s p w).length <= 24 := by
 have key : ∀ (F : Nat -> List Int), (∀ i, (F i).length <= 1) -> ((List.range G.z).flatMap F).length <= 12 := fun F h => by
  have := flat_len (l := List.range G.z) (f := F) (c := 1) fun i _ => h i
  rw [List.length_range] at this; lia
 unfold movesV
 split
 · exact Nat.le_trans (key _ fun _ => weakF_len) (by decide)
 · unfold strV
   rw [List.length_append]
   have h1 := key (strF1 G f s p w) fun i => by unfold strF1; split; exact goF_len; simp
   have h2 := key (strF2 G f k s p w) fun i => by unfold strF2; split; exact goF_len; simp
   lia
noncomputable def rowP (G : Geo) (k : Nat) (l : List Int) (pl : Place) : List Int := (movesV G (tabF l) k pl.1 pl.2.1.toNat pl.2.2.1.toNat pl.2.2.2.toNat).map (whF l)
noncomputable def lostP (G : Geo) (k : Nat) (l : List Int) (pl : Place) : Bool := decide (pl.1 = 1) && ((rowP G k l pl).isEmpty && decide (tabF l (idxA G.z (0, pl.2)).toNat = -2))
theorem idx_half {z : Int} {q : Int × Int × Int} : idxA z (1, q) - z * z * z = idxA z (0, q) := by
 unfold idxA
 simp only [Int.add_mul, Int.one_mul, Int.zero_mul, Int.zero_add]
 lia
section
variable {ns : List Int} {n : Nat} {σ σ0 σ1 σ2 τ : Hp} {Φ : CallF} {m m1 m2 : Frm} {g : List O} {geo : V} {G : Geo} {t s p w k r : Nat} {f : Nat -> Int}
theorem e_lost {l row : List Int} {x16 : Nat} {pl : Place} (h12 : m[12]? = some (some (.int pl.1))) (h16 : m[16]? = some (some (.ref x16))) (h4 : m[4]? = some (some (.ref t))) (h11 : m[11]? = some (some (.int (idxA G.z pl)))) (h3 : m[3]? = some (some (.int ((G.z : Int) * G.z * G.z))))
 (hz : G.z <= 12) (hpl : InR G.z pl) (hT : τ[t]? = some (.list (lf (2 * G.z * G.z * G.z) (tabF l)))) (hx : τ[x16]? = some (.list (row.map .int))) :
 ∃ τ', τ <+: τ' /\ vE g Φ (.and (.cmp .eq (.loc 12) (.lit (.int 1))) (.and (.cmp .eq (.loc 16) (.list .nil)) (.cmp .eq (.idx (.loc 4) (.bin .sub (.loc 11) (.loc 3))) (.lit (.int (-2)))))) m τ = some (.bool (decide (pl.1 = 1) && (row.isEmpty && decide (tabF l (idxA G.z (0, pl.2)).toNat = -2))), τ') := by
 have c1 : vE g Φ (.cmp .eq (.loc 12) (.lit (.int 1))) m τ = some (.bool (decide (pl.1 = 1)), τ) := e_cmp (eL h12) eI cmp_eqI
 by_cases h1 : pl.1 = 1
 · rw [decide_eq_true h1] at c1 ⊢
   have c2 : vE g Φ (.cmp .eq (.loc 16) (.list .nil)) m τ = some (.bool row.isEmpty, τ ++ [O.list []]) := by
    have := e_eqE (Φ := Φ) (m := m) (e := .loc 16) (eL h16) (show listOf g τ (.ref x16) = some (row.map .int) by simp [listOf, getO, hx])
    rw [this]
    cases row <;> rfl
   have p1 : τ <+: τ ++ [O.list []] := pfa ..
   cases hr : row.isEmpty with
   | false =>
     rw [hr] at c2
     exact i1_2 _ p1 (e_and_t c1 rfl (e_and_f c2 rfl))
   | true =>
     rw [hr] at c2
     have hc := cube_le hz
     have hin0 : InR G.z (0, pl.2) := ⟨.inl rfl, hpl.2⟩
     obtain ⟨i0, i1⟩ := idxA_lt (by lia) hin0
     have e0 : idxA G.z pl - (G.z : Int) * G.z * G.z = idxA G.z (0, pl.2) := by
      rw [<- idx_half, <- h1]
     have ix : idx g (τ ++ [O.list []]) (.ref t) (.int (idxA G.z pl - (G.z : Int) * G.z * G.z)) = some (.int (tabF l (idxA G.z (0, pl.2)).toNat)) := by
      rw [e0]
      refine idx_tab (pG p1 hT) i0 ?_ (by omega)
      have : (2 * (G.z : Int) * G.z * G.z) = ((2 * G.z * G.z * G.z : Nat) : Int) := by simp
      rw [<- this]; exact i1
     exact i1_2 _ p1 (e_and_t c1 rfl (e_and_t c2 rfl (e_cmp (eX (eL h4) (e_bin (eL h11) (eL h3) ar_sub) ix) eI cmp_eqI)))
 · rw [decide_eq_false h1] at c1 ⊢
   exact i1_2 τ (List.prefix_refl _) (e_and_f c1 rfl)
structure MlAt (σ1 τ : Hp) (G : Geo) (k : Nat) (PL : List Place) (l : List Int) (i : Nat) : Prop where
 pre : σ1 <+: τ
 sides : τ[σ1.length]? = some (.list (((PL.take i).map (·.1)).map .int))
 lost : τ[σ1.length + 2]? = some (.list ((PL.take i).map fun pl => V.bool (lostP G k l pl)))
 rows : ∃ avs, τ[σ1.length + 1]? = some (.list avs) /\ avs.length = i /\ ∀ j pl, j < i -> PL[j]? = some pl -> ∃ b, avs[j]? = some (.ref b) /\ σ1.length + 3 <= b /\ τ[b]? = some (.list ((rowP G k l pl).map .int))
theorem take_succ_get' {α : Type} {l : List α} {i : Nat} {x : α} (h : l[i]? = some x) : l.take (i + 1) = l.take i ++ [x] := by rw [List.take_succ, h]; rfl
noncomputable def bzBody : Ss := (.cons (.unpack [12, 13, 14, 15] (.call 16 (.cons (.attr (.loc 0) 2) (.cons (.loc 11) .nil))))
 (.cons (.asg 16 (.list .nil))
 (.cons (.forT [17, 18, 19] (.call 20 (.cons (.loc 0) (.cons (.loc 4) (.cons (.loc 1) (.cons (.loc 12) (.cons (.loc 13) (.cons (.loc 14) (.cons (.loc 15) .nil)))))))) (.cons (.expr (.append (.loc 16) (.idx (.loc 6) (.loc 19))))
 .nil))
 (.cons (.expr (.append (.loc 8) (.loc 12)))
 (.cons (.expr (.append (.loc 9) (.loc 16)))
 (.cons (.expr (.append (.loc 10) (.and (.cmp .eq (.loc 12) (.lit (.int 1))) (.and (.cmp .eq (.loc 16) (.list .nil)) (.cmp .eq (.idx (.loc 4) (.bin .sub (.loc 11) (.loc 3))) (.lit (.int (-2))))))))
 .nil))))))
theorem bz_step {zone : Int} {rp d i : Nat} {pl : Place} {PL : List Place} {l : List Int} {u7 u12' u13' u14' u15' u16' u17' u18' u19' : Option V} (W : G.Whole) (GA : GeoAt σ1 geo G) (hk : 2 <= k /\ k <= 5) (hT : σ1[t]? = some (.list (lf (2 * G.z * G.z * G.z) (tabF l)))) (hd : WhAt σ1 d l l.length)
 (hi : PL[i]? = some pl) (hpl : InR G.z pl) (hi2 : i < 3456) (X : MlAt σ1 τ G k PL l i) :
 ∃ u12 u13 u14 u15 u16 u17 u18 u19 τ', execSs (gobj ns) (Phi (gobj ns) (n + 8)) bzBody (bzFrm geo k zone ((G.z : Int) * G.z * G.z) t rp d u7 (some (.ref σ1.length)) (some (.ref (σ1.length + 1))) (some (.ref (σ1.length + 2))) (some (.int (idxA G.z pl))) u12' u13' u14' u15' u16' u17' u18' u19' none) τ =
   some (.next, bzFrm geo k zone ((G.z : Int) * G.z * G.z) t rp d u7 (some (.ref σ1.length)) (some (.ref (σ1.length + 1))) (some (.ref (σ1.length + 2))) (some (.int (idxA G.z pl))) u12 u13 u14 u15 u16 u17 u18 u19 none, τ') /\ MlAt σ1 τ' G k PL l (i + 1) := by
 obtain ⟨side, s, p, w⟩ := pl
 obtain ⟨s, rfl⟩ : ∃ a : Nat, s = a := ⟨s.toNat, by have := hpl.2.1; dsimp only at this; lia⟩
 obtain ⟨p, rfl⟩ : ∃ a : Nat, p = a := ⟨p.toNat, by have := hpl.2.2.1; dsimp only at this; lia⟩
 obtain ⟨w, rfl⟩ : ∃ a : Nat, w = a := ⟨w.toNat, by have := hpl.2.2.2; dsimp only at this; lia⟩
 have hz := W.z
 have bs : s < G.z /\ p < G.z /\ w < G.z := by
  refine x0_4 hpl fun _ a b c => ?_
  clear hpl
  dsimp only at a b c
  lia
 have zi : (0 : Int) <= G.z /\ (G.z : Int) <= 12 := by lia
 have pa : τ <+: τ ++ [O.tup [.int side, .int s, .int p, .int w]] := pfa ..
 have st1 : execS (gobj ns) (Phi (gobj ns) (n + 8)) (.unpack [12, 13, 14, 15] (.call 16 (.cons (.attr (.loc 0) 2) (.cons (.loc 11) .nil)))) (bzFrm geo k zone ((G.z : Int) * G.z * G.z) t rp d u7 (some (.ref σ1.length)) (some (.ref (σ1.length + 1))) (some (.ref (σ1.length + 2))) (some (.int (idxA G.z (side, (s : Int), (p : Int), (w : Int))))) u12' u13' u14' u15' u16' u17' u18' u19' none) τ =
  some (.next, bzFrm geo k zone ((G.z : Int) * G.z * G.z) t rp d u7 (some (.ref σ1.length)) (some (.ref (σ1.length + 1))) (some (.ref (σ1.length + 2))) (some (.int (idxA G.z (side, (s : Int), (p : Int), (w : Int))))) (some (.int side)) (some (.int s)) (some (.int p)) (some (.int w)) u16' u17' u18' u19' none, τ ++ [O.tup [.int side, .int s, .int p, .int w]]) :=
  s_unpack (e_call (eC (e_attr (eL rfl) (GA.pre X.pre).size) (eC (eL rfl) eN)) (sp_parts (n := n + 7) zi hpl)) (gP _ _) rfl
 generalize hτ1 : τ ++ [O.tup [.int side, .int s, .int p, .int w]] = τ1 at st1 pa
 have p1 := X.pre.trans pa
 have pb : τ1 <+: τ1 ++ [O.list []] := pfa ..
 have I : MvIn (τ1 ++ [O.list []]) geo G t (tabF l) s p w := ⟨W, GA.pre (p1.trans pb), pG (p1.trans pb) hT, bs.1, bs.2.1, bs.2.2⟩
 refine cps fun _ zk => ?_
 refine x3_5 (sp_movesAt (ns := ns) (n := n) (side := side) I hk) fun r τ3 vs hge p3 e3 hx3 T3 => ?_
 have hr1 : r ≠ τ1.length := by
  rw [List.length_append] at hge
  simp at hge; and_intros
 refine x4_3 (bz_row (k := k) (geo := geo) (zone := zone) (half := (G.z : Int) * G.z * G.z) (t := t) (rp := rp) (d := d) (b := τ1.length) (l := l) (u7 := u7) (u8 := some (.ref σ1.length)) (u9 := some (.ref (σ1.length + 1))) (u10 := some (.ref (σ1.length + 2))) (u11 := some (.int (idxA G.z (side, (s : Int), (p : Int), (w : Int))))) (u12 := some (.int side)) (u13 := some (.int s)) (u14 := some (.int p)) (u15 := some (.int w)) (u17 := u17') (u18 := u18') (u19 := u19') (u20 := none)
  (show WhAt τ1 d l l.length from let ⟨kv, a, b⟩ := hd; ⟨kv, pG p1 a, b⟩) pb (Nat.le_refl _) (gP _ _) (e_call (eC (eL (i := 0) rfl) (eC (eL (i := 4) rfl) (eC (eL (i := 1) rfl) (eC (eL (i := 12) rfl) (eC (eL (i := 13) rfl) (eC (eL (i := 14) rfl) (eC (eL (i := 15) rfl) eN))))))) e3) p3 hr1 hx3 T3 (movesV_len hz) (fun x hx => movesV_in hz bs.1 bs.2.1 bs.2.2 hx)) fun v17 v18 v19 τ4 st3 q0 q1 => ?_
 have hrow : (movesV G (tabF l) k side s p w).map (whF l) = rowP G k l (side, (s : Int), (p : Int), (w : Int)) := by simp [rowP]
 rw [hrow] at q1
 have p4 := pa.trans q0
 have hle := pre_len pa
 have hlt : σ1.length + 2 < τ.length := lt_of_get X.lost
 refine x1_3 (X.rows) fun avs ha hal hau => ?_
 have len4 : (((PL.take i).map (·.1)).map V.int).length < 100000 := by
  rw [List.length_map, List.length_map, List.length_take]; lia
 have s4 := pG p4 X.sides
 have p5 := pre_set (p1.trans q0) (Nat.le_refl _) (.list (((PL.take i).map (·.1)).map V.int ++ [.int side]))
 have g5 := get_set (o' := .list (((PL.take i).map (·.1)).map V.int ++ [.int side])) s4
 have n5 : ∀ j, j ≠ σ1.length -> (τ4.set σ1.length (.list (((PL.take i).map (·.1)).map V.int ++ [.int side])))[j]? = τ4[j]? := fun j hj => get_set_ne (Ne.symm hj)
 have st4 : execS (gobj ns) (Phi (gobj ns) (n + 8)) (.expr (.append (.loc 8) (.loc 12))) (bzFrm geo k zone ((G.z : Int) * G.z * G.z) t rp d u7 (some (.ref σ1.length)) (some (.ref (σ1.length + 1))) (some (.ref (σ1.length + 2))) (some (.int (idxA G.z (side, (s : Int), (p : Int), (w : Int))))) (some (.int side)) (some (.int s)) (some (.int p)) (some (.int w)) (some (.ref τ1.length)) v17 v18 v19 none) τ4 = some (.next, _, τ4.set σ1.length (.list (((PL.take i).map (·.1)).map V.int ++ [.int side]))) :=
  s_expr (e_append (eL rfl) ⟨_, s4⟩ (eL rfl) s4 len4)
 generalize τ4.set σ1.length (.list (((PL.take i).map (·.1)).map V.int ++ [.int side])) = τ5 at st4 p5 g5 n5
 have a5 : τ5[σ1.length + 1]? = some (.list avs) := by rw [n5 _ (by and_intros)]; exact pG p4 ha
 have p6 := pre_set p5 (by and_intros : σ1.length <= σ1.length + 1) (.list (avs ++ [.ref τ1.length]))
 have g6 := get_set (o' := .list (avs ++ [.ref τ1.length])) a5
 have n6 : ∀ j, j ≠ σ1.length + 1 -> (τ5.set (σ1.length + 1) (.list (avs ++ [.ref τ1.length])))[j]? = τ5[j]? := fun j hj => get_set_ne (Ne.symm hj)
 have st5 : execS (gobj ns) (Phi (gobj ns) (n + 8)) (.expr (.append (.loc 9) (.loc 16))) (bzFrm geo k zone ((G.z : Int) * G.z * G.z) t rp d u7 (some (.ref σ1.length)) (some (.ref (σ1.length + 1))) (some (.ref (σ1.length + 2))) (some (.int (idxA G.z (side, (s : Int), (p : Int), (w : Int))))) (some (.int side)) (some (.int s)) (some (.int p)) (some (.int w)) (some (.ref τ1.length)) v17 v18 v19 none) τ5 = some (.next, _, τ5.set (σ1.length + 1) (.list (avs ++ [.ref τ1.length]))) :=
  s_expr (e_append (eL rfl) ⟨_, a5⟩ (eL rfl) a5 (by lia))
 generalize τ5.set (σ1.length + 1) (.list (avs ++ [.ref τ1.length])) = τ6 at st5 p6 g6 n6
 have x6 : ∀ j, j ≠ σ1.length -> j ≠ σ1.length + 1 -> τ6[j]? = τ4[j]? := fun j h1 h2 => (n6 j h2).trans (n5 j h1)
 refine x1_2 (e_lost (g := gobj ns) (Φ := Phi (gobj ns) (n + 8)) (m := bzFrm geo k zone ((G.z : Int) * G.z * G.z) t rp d u7 (some (.ref σ1.length)) (some (.ref (σ1.length + 1))) (some (.ref (σ1.length + 2))) (some (.int (idxA G.z (side, (s : Int), (p : Int), (w : Int))))) (some (.int side)) (some (.int s)) (some (.int p)) (some (.int w)) (some (.ref τ1.length)) v17 v18 v19 none)
  (x16 := τ1.length) (l := l) (row := rowP G k l (side, (s : Int), (p : Int), (w : Int))) (pl := (side, (s : Int), (p : Int), (w : Int))) rfl rfl rfl rfl rfl hz hpl (pG p6 hT) (by rw [x6 _ (by lia) (by lia)]; exact q1)) fun τ7 p7 e7 => ?_
 have l6 : τ6[σ1.length + 2]? = some (.list ((PL.take i).map fun pl => V.bool (lostP G k l pl))) := by rw [x6 _ (by and_intros) (by and_intros)]; exact pG p4 X.lost
 have l7 := pG p7 l6
 have st6 := s_expr (e_append (g := gobj ns) (Φ := Phi (gobj ns) (n + 8)) (a := .loc 10) (eL rfl) ⟨_, l6⟩ e7 l7 (by rw [List.length_map, List.length_take]; lia))
 refine zk ?_; clear zk
 refine ⟨_, _, _, _, _, v17, v18, v19, _, sC st1 (sC (sA (e_list eN (lb rfl)) (lb rfl)) (sC st3 (sC st4 (sC st5 (sC st6 sN))))), ?_⟩
 have tk : PL.take (i + 1) = PL.take i ++ [(side, (s : Int), (p : Int), (w : Int))] := take_succ_get' hi
 have n8 : ∀ j, j ≠ σ1.length + 2 -> (τ7.set (σ1.length + 2) (.list (((PL.take i).map fun pl => V.bool (lostP G k l pl)) ++ [V.bool (lostP G k l (side, (s : Int), (p : Int), (w : Int)))])))[j]? = τ7[j]? := fun j hj => get_set_ne (Ne.symm hj)
 refine ⟨pre_set (p6.trans p7) (by and_intros) _, ?_, ?_, avs ++ [.ref τ1.length], ?_, by simp [hal], fun j q hj hq => ?_⟩
 · refine (n8 _ (by and_intros)).trans (pG p7 ((n6 _ (by and_intros)).trans (g5.trans ?_)))
   rw [tk]; simp
 · refine (get_set l7).trans ?_
   rw [tk]; simp [lostP]
 · exact (n8 _ (by and_intros)).trans (pG p7 g6)
 · by_cases hji : j < i
   · refine x1_3 (hau j q hji hq) fun b h1 h2 h3 => ?_
     refine ⟨b, by rw [List.getElem?_append_left (by lia)]; exact h1, h2, (n8 _ (by and_intros)).trans (pG p7 ((x6 _ (by lia) (by and_intros)).trans (pG p4 h3)))⟩
   · have : j = i := by lia
     subst this
     rw [hi] at hq
     refine so1 hq ?_
     refine ⟨τ1.length, by rw [List.getElem?_append_right (by lia), hal]; simp, by exact Nat.lt_of_lt_of_le (by assumption) (by assumption), (n8 _ (by lia)).trans (pG p7 ((x6 _ (by lia) (by lia)).trans q1))⟩
end
noncomputable def d0 : Place := (0, 0, 0, 0)
noncomputable def retro (G : Geo) (k : Nat) (PL : List Place) : Retro := ⟨PL.length, fun n => (PL.getD n d0).1, fun n => rowP G k (PL.map (idxA G.z)) (PL.getD n d0), fun n => lostP G k (PL.map (idxA G.z)) (PL.getD n d0)⟩
section
variable {ns : List Int} {n : Nat} {σ σ0 σ1 σ2 τ : Hp} {Φ : CallF} {m m1 m2 : Frm} {g : List O} {geo : V} {G : Geo} {t s p w k r : Nat} {f : Nat -> Int}
theorem getD_of {α : Type} {l : List α} {i : Nat} {x d : α} (h : l[i]? = some x) : l.getD i d = x := by rw [List.getD_eq_getElem?_getD, h]; rfl
theorem e_dict1 {a b : Int} : vE g Φ (.dict1 (.lit (.int a)) (.lit (.int b))) m σ = some (.ref σ.length, σ ++ [O.dict [(a, .int b)]]) := by
 rfl
theorem bz_main {zone : Int} {rp d : Nat} {PL : List Place} {u7 : Option V} (W : G.Whole) (GA : GeoAt σ1 geo G) (hk : 2 <= k /\ k <= 5) (hT : σ1[t]? = some (.list (lf (2 * G.z * G.z * G.z) (tabF (PL.map (idxA G.z)))))) (hd : WhAt σ1 d (PL.map (idxA G.z)) (PL.map (idxA G.z)).length)
 (hp : σ1[rp]? = some (.list (pv G.z PL))) (hin : ∀ pl ∈ PL, InR G.z pl) (hl : PL.length <= 3456) :
 ∃ u11 u12 u13 u14 u15 u16 u17 u18 u19 τ', execS (gobj ns) (Phi (gobj ns) (n + 8)) (.for_ 11 (.loc 5) bzBody) (bzFrm geo k zone ((G.z : Int) * G.z * G.z) t rp d u7 (some (.ref σ1.length)) (some (.ref (σ1.length + 1))) (some (.ref (σ1.length + 2))) none none none none none none none none none none) (σ1 ++ [O.list []] ++ [O.list []] ++ [O.list []]) =
   some (.next, bzFrm geo k zone ((G.z : Int) * G.z * G.z) t rp d u7 (some (.ref σ1.length)) (some (.ref (σ1.length + 1))) (some (.ref (σ1.length + 2))) u11 u12 u13 u14 u15 u16 u17 u18 u19 none, τ') /\ MlAt σ1 τ' G k PL (PL.map (idxA G.z)) PL.length := by
 have gt : ∀ (k : Nat) (l : Hp), (σ1 ++ l)[σ1.length + k]? = l[k]? := fun k l => by
  rw [List.getElem?_append_right (by and_intros)]; congr 1; lia
 have p0 : σ1 <+: σ1 ++ [O.list []] ++ [O.list []] ++ [O.list []] := by rw [List.append_assoc, List.append_assoc]; exact pfa ..
 have X0 : MlAt σ1 (σ1 ++ [O.list []] ++ [O.list []] ++ [O.list []]) G k PL (PL.map (idxA G.z)) 0 := by
  have e : σ1 ++ [O.list []] ++ [O.list []] ++ [O.list []] = σ1 ++ [O.list [], O.list [], O.list []] := by simp
  refine ⟨p0, ?_, ?_, [], ?_, rfl, fun j q hj => absurd hj (by lia)⟩
  · rw [e]; exact gt 0 _
  · rw [e]; exact gt 2 _
  · rw [e]; exact gt 1 _
 have hl0 : ∀ {τ : Hp}, σ1 <+: τ -> listOf (gobj ns) τ (.ref rp) = some (pv G.z PL) := fun p => by simp [listOf, getO, pG p hp]
 refine cps fun _ zk => ?_
 refine x2_2 (for_list (g := gobj ns) (set := fun v m _ => setLoc 11 v m) (body := fun m σ => execSs (gobj ns) (Phi (gobj ns) (n + 8)) bzBody m σ) (l := .ref rp) (xs := pv G.z PL) (fuel := loopFuel)
  (fun i fr τ' => ∃ u11 u12 u13 u14 u15 u16 u17 u18 u19, fr = bzFrm geo k zone ((G.z : Int) * G.z * G.z) t rp d u7 (some (.ref σ1.length)) (some (.ref (σ1.length + 1))) (some (.ref (σ1.length + 2))) u11 u12 u13 u14 u15 u16 u17 u18 u19 none /\ MlAt σ1 τ' G k PL (PL.map (idxA G.z)) i) (fuel_lt (by simp [pv]; lia))
  ⟨none, none, none, none, none, none, none, none, none, rfl, X0⟩ (by
   rintro i fr τ' ⟨u11, u12, u13, u14, u15, u16, u17, u18, u19, rfl, X⟩
   exact hl0 X.pre) (by
   rintro i x fr τ' hix ⟨u11, u12, u13, u14, u15, u16, u17, u18, u19, rfl, X⟩
   unfold pv at hix
   rw [List.getElem?_map, Option.map_eq_some_iff] at hix
   refine x1_2 hix fun pl hpl zz1 => ?_
   clear hix
   subst zz1
   have hi := (gsm hpl).1
   refine x9_1 (bz_step (ns := ns) (n := n) (geo := geo) (zone := zone) (rp := rp) (u7 := u7) (u12' := u12) (u13' := u13) (u14' := u14) (u15' := u15) (u16' := u16) (u17' := u17) (u18' := u18) (u19' := u19) W GA hk hT hd hpl (hin pl (List.mem_of_getElem? hpl)) (by exact Nat.lt_of_lt_of_le (by assumption) (by assumption)) X) fun v12 v13 v14 v15 v16 v17 v18 v19 τ2 zq => x0_2 zq fun e X2 => ?_
   exact ⟨_, .next, _, τ2, rfl, e, .inl rfl, _, _, _, _, _, _, _, _, _, rfl, X2⟩)) fun m' σ' e y1 => ?_
 refine x9_1 y1 fun u11 u12 u13 u14 u15 u16 u17 u18 u19 zq => x0_2 zq fun y2 X => ?_
 refine zk ?_; clear zk
 subst y2
 rw [show (pv G.z PL).length = PL.length by simp [pv]] at X
 exact ⟨u11, u12, u13, u14, u15, u16, u17, u18, u19, σ', s_for (eL rfl) (iter_list (hl0 p0)) e, X⟩
theorem rows_of {PL : List Place} (hz : G.z <= 12) (hl : PL.length <= 3456) (hin : ∀ pl ∈ PL, InR G.z pl) (X : MlAt σ1 τ G k PL (PL.map (idxA G.z)) PL.length) : RowsAt g τ (.ref (σ1.length + 1)) (.ref (σ1.length + 2)) (retro G k PL) := by
 refine x1_3 (X.rows) fun avs ha hal hau => ?_
 have hx := X.lost
 rw [List.take_length] at hx
 refine ⟨i1_3 avs (by simp [listOf, getO, ha]) hal (fun i hi => ?_), i1_2 (PL.map fun pl => V.bool (lostP G k (PL.map (idxA G.z)) pl)) (by simp [listOf, getO, hx]) (fun i hi => ?_), fun n => ?_, ?_, fun n hn x hx => ?_⟩
 · have hi' : i < PL.length := hi
   refine x1_3 (hau i _ hi' (List.getElem?_eq_getElem hi')) fun b h1 _ h3 => ?_
   refine i1_2 _ h1 ?_
   have : (retro G k PL).A i = rowP G k (PL.map (idxA G.z)) PL[i] := by
    show rowP G k _ (PL.getD i d0) = _
    rw [getD_of (List.getElem?_eq_getElem hi')]
   rw [this]
   simp [IntsAt, listOf, getO, h3]
 · have hi' : i < PL.length := hi
   rw [List.getElem?_map, List.getElem?_eq_getElem hi']
   show some _ = some (V.bool (lostP G k _ (PL.getD i d0)))
   rw [getD_of (List.getElem?_eq_getElem hi')]
 · show (rowP G k _ _).length <= 24
   unfold rowP
   rw [List.length_map]; exact movesV_len hz
 · show PL.length <= 4000
   lia
 · have hn' : n < PL.length := hn
   have hx' : x ∈ rowP G k (PL.map (idxA G.z)) PL[n] := by
    have : (retro G k PL).A n = rowP G k (PL.map (idxA G.z)) PL[n] := by
     show rowP G k _ (PL.getD n d0) = _
     rw [getD_of (List.getElem?_eq_getElem hn')]
    rwa [this] at hx
   refine x1_2 (List.mem_map.mp hx') fun y hy y4 => ?_
   subst y4
   refine x0_4 (hin _ (List.getElem_mem hn')) fun _ b1 b2 b3 => ?_
   unfold whF
   by_cases q : y = -1
   · rw [if_pos q]; exact .inl rfl
   · rw [if_neg q]
     have hm := (movesV_in hz (by lia) (by lia) (by lia) hy).resolve_left q
     have := List.idxOf_lt_length_iff.mpr hm
     rw [List.length_map] at this
     exact .inr (i1_2 _ this rfl)
theorem bz_last {zone half : Int} {rp d a : Nat} {PL : List Place} {v : Nat -> Int} {u7 u8 u9 u10 u11 u12 u13 u14 u15 u16 u17 u18 u19 : Option V} (hz : G.z <= 12) (hl : PL.length <= 3456) (hin : ∀ pl ∈ PL, InR G.z pl) (hnd : PL.Nodup) (p0 : σ <+: τ) (ht : σ.length <= t) (hrt : rp ≠ t) (hat : a ≠ t)
 (hT : τ[t]? = some (.list (lf (2 * G.z * G.z * G.z) (tabF (PL.map (idxA G.z)))))) (hp : τ[rp]? = some (.list (pv G.z PL))) (ha : τ[a]? = some (.list (lf PL.length v))) :
 ∃ u τ' f, execS g Φ (.for_ 7 (.blt .range (.cons (.blt .len (.cons (.loc 5) .nil)) .nil)) (.cons (.setIdx (.loc 4) (.idx (.loc 5) (.loc 7)) (.idx (.loc 20) (.loc 7))) .nil)) (bzFrm geo k zone half t rp d u7 u8 u9 u10 u11 u12 u13 u14 u15 u16 u17 u18 u19 (some (.ref a))) τ =
   some (.next, bzFrm geo k zone half t rp d u u8 u9 u10 u11 u12 u13 u14 u15 u16 u17 u18 u19 (some (.ref a)), τ') /\ σ <+: τ' /\ τ'[t]? = some (.list (lf (2 * G.z * G.z * G.z) f)) /\ (∀ q pl, PL[q]? = some pl -> f (idxA G.z pl).toNat = v q) /\ ∀ i, i < 2 * G.z * G.z * G.z -> (∀ pl ∈ PL, idxA G.z pl ≠ (i : Int)) -> f i = -2 := by
 have hc := cube_le hz
 have ic : (2 * (G.z : Int) * G.z * G.z) = ((2 * G.z * G.z * G.z : Nat) : Int) := by simp
 generalize hM : 2 * G.z * G.z * G.z = M at *
 refine cps fun _ zk => ?_
 refine x2_2 (for_range (g := g) (set := fun v m _ => setLoc 7 v m) (body := fun m σ => execSs g Φ (.cons (.setIdx (.loc 4) (.idx (.loc 5) (.loc 7)) (.idx (.loc 20) (.loc 7))) .nil) m σ)
  (fun i fr τ' => ∃ u f, fr = bzFrm geo k zone half t rp d u u8 u9 u10 u11 u12 u13 u14 u15 u16 u17 u18 u19 (some (.ref a)) /\ σ <+: τ' /\ τ'[t]? = some (.list (lf M f)) /\ τ'[rp]? = some (.list (pv G.z PL)) /\ τ'[a]? = some (.list (lf PL.length v)) /\ (∀ q pl, q < i -> PL[q]? = some pl -> f (idxA G.z pl).toNat = v q) /\ ∀ i, i < M -> (∀ pl ∈ PL, idxA G.z pl ≠ (i : Int)) -> f i = -2)
  (a := 0) (st := 1) (n := PL.length) (fuel := loopFuel) (fuel_lt (by lia)) (m := bzFrm geo k zone half t rp d u7 u8 u9 u10 u11 u12 u13 u14 u15 u16 u17 u18 u19 (some (.ref a))) (σ := τ ++ [O.range 0 (PL.length : Nat) 1])
  ⟨u7, _, rfl, p0.trans (pfa ..), pG (pfa ..) hT, pG (pfa ..) hp, pG (pfa ..) ha, fun q pl hq => absurd hq (by lia), fun i hi h => by
   unfold tabF
   rw [if_neg]
   intro hm
   refine x1_2 (List.mem_map.mp hm) fun pl h1 h2 => ?_
   exact h pl h1 h2⟩ (by
   rintro i fr τ' hi ⟨u, f, rfl, q0, q1, q2, q3, q4, q5⟩
   rw [show (0 : Int) + (i : Nat) * 1 = (i : Nat) by simp]
   have hx : PL[i]? = some PL[i] := List.getElem?_eq_getElem hi
   obtain ⟨i0, i1⟩ := idxA_lt (by lia) (hin _ (List.getElem_mem hi))
   have ei : idxA G.z PL[i] = ((idxA G.z PL[i]).toNat : Nat) := by lia
   have hlt : (idxA G.z PL[i]).toNat < M := by lia
   have ix : idx g τ' (.ref rp) (.int (i : Nat)) = some (.int (idxA G.z PL[i])) := idx_list (show getO g τ' (.ref rp) = _ from q2) (by unfold pv; rw [List.getElem?_map, hx]; rfl) (by lia)
   refine i4_4 _ (.next) _ _ rfl (sC (s_setIdx (eX (eL rfl) (eL rfl) (idx_map q3 hi (by lia))) (eL rfl) (eX (eL rfl) (eL rfl) ix) (by rw [ei]; exact setIdx_list q1 (by simpa using hlt) (by lia))) sN) (.inl rfl) (i2_1 _ (upd f (idxA G.z PL[i]).toNat (v i)) ⟨rfl, (pre_set q0 ht _), ?_, (by rw [get_set_ne (Ne.symm hrt)]; exact q2), (by rw [get_set_ne (Ne.symm hat)]; exact q3), (fun q pl hq hpl => ?_), (fun j hj hn => ?_)⟩)
   · rw [get_set q1, range_map_set hlt]
   · obtain ⟨hq3, hq4⟩ := gsm hpl
     by_cases hqi : q = i
     · subst hqi
       rw [<- hq4, upd_self]
     · rw [upd_ne, q4 q pl (by lia) hpl]
       intro h
       have hp2 := idxA_lt (by lia) (hin _ (List.mem_of_getElem? hpl))
       have := idx_inj (by lia) (hin _ (List.mem_of_getElem? hpl)) (hin _ (List.getElem_mem hi)) (by lia : idxA G.z pl = idxA G.z PL[i])
       rw [<- hq4] at this
       exact List.pairwise_iff_getElem.mp hnd q i hq3 hi (by lia) this
   · rw [upd_ne, q5 j hj hn]
     intro h
     exact hn _ (List.getElem_mem hi) (by lia))) fun m' σ' e y5 => ?_
 refine x2_1 y5 fun u f zq => x0_7 zq fun y6 q0 q1 q2 q3 q4 q5 => ?_
 refine zk ?_; clear zk
 subst y6
 have len : vE g Φ (.blt .len (.cons (.loc 5) .nil)) (bzFrm geo k zone half t rp d u7 u8 u9 u10 u11 u12 u13 u14 u15 u16 u17 u18 u19 (some (.ref a))) τ = some (.int (PL.length : Nat), τ) := by
  have := e_len (g := g) (Φ := Φ) (m := bzFrm geo k zone half t rp d u7 u8 u9 u10 u11 u12 u13 u14 u15 u16 u17 u18 u19 (some (.ref a))) (e := .loc 5) (eL rfl) (show listOf g τ (.ref rp) = some (pv G.z PL) by simp [listOf, getO, hp]) (by simp [pv]; lia)
  rw [this]; simp [pv]
 exact i3_5 u σ' f (s_for (e_range1 len (by lia)) (iter_range (by simp [rangeLen])) e) q0 q1 (fun q pl h => q4 q pl (gsm h).1 h) q5
end
section
variable {ns : List Int} {n : Nat} {σ σ0 σ1 σ2 τ : Hp} {Φ : CallF} {m m1 m2 : Frm} {g : List O} {geo : V} {G : Geo} {t s p w k r : Nat} {f : Nat -> Int}
theorem lf_rep {N : Nat} {x : Int} : List.replicate N (V.int x) = lf N fun _ => x := by
 apply List.ext_getElem?
 intro i
 rw [List.getElem?_replicate, List.getElem?_map]
 by_cases h : i < N
 · rw [if_pos h, List.getElem?_range h]; rfl
 · rw [if_neg h, List.getElem?_eq_none (by simpa using h)]; rfl
noncomputable def Built (G : Geo) (k : Nat) (zone : Int) (f : Nat -> Int) : Prop := ∃ v : Nat -> Int, (∀ q pl, (pls G k zone)[q]? = some pl -> f (idxA G.z pl).toNat = v q) /\ (∀ i, i < 2 * G.z * G.z * G.z -> (∀ pl ∈ pls G k zone, idxA G.z pl ≠ (i : Int)) -> f i = -2) /\ ∀ q, q < (pls G k zone).length -> Eqn (retro G k (pls G k zone)) v q
theorem sp_zone {zone : Int} (W : G.Whole) (GA : GeoAt σ geo G) (hk : 2 <= k /\ k <= 5) (hin : ∀ pl ∈ pls G k zone, InR G.z pl) (hnd : (pls G k zone).Nodup) :
 ∃ t σ' f, σ <+: σ' /\ Phi (gobj ns) (n + 9) 21 [geo, .int k, .int zone] σ = some (.ref t, σ') /\ σ'[t]? = some (.list (lf (2 * G.z * G.z * G.z) f)) /\ Built G k zone f := by
 have hz := W.z
 have hc := cube_le hz
 have hpl := pls_len (G := G) (k := k) (zone := zone) hz
 have ic : (2 * ((G.z : Int) * G.z * G.z)) = ((2 * G.z * G.z * G.z : Nat) : Int) := by simp [Int.mul_assoc]
 have zi : (0 : Int) <= G.z /\ (G.z : Int) <= 12 := by lia
 have z2 := mul_le zi.1 zi.2 zi.1 zi.2
 have z3 := mul_le z2.1 z2.2 zi.1 zi.2
 generalize hPL : pls G k zone = PL at *
 -- the table
 let m0 (u3 u4 u5 u6 : Option V) : Frm := [some geo, some (.int (k : Nat)), some (.int zone), u3, u4, u5, u6, none, none, none, none, none, none, none, none, none, none, none, none, none, none]
 have c0 : vE (gobj ns) (Phi (gobj ns) (n + 8)) (.or (.cmp .lt (.loc 1) (.lit (.int 2))) (.cmp .gt (.loc 1) (.lit (.int 5)))) (m0 none none none none) σ = some (.bool (decide ((k : Int) < 2) || decide ((5 : Int) < (k : Int))), σ) :=
  e_or_b (e_cmp (eL rfl) eI rfl) (e_cmp (eL rfl) eI rfl)
 rw [show (decide ((k : Int) < 2) || decide ((5 : Int) < (k : Int))) = false by simp; lia] at c0
 have st3 : execS (gobj ns) (Phi (gobj ns) (n + 8)) (.asg 3 (.bin .mul (.bin .mul (.attr (.loc 0) 2) (.attr (.loc 0) 2)) (.attr (.loc 0) 2))) (m0 none none none none) σ = some (.next, m0 (some (.int ((G.z : Int) * G.z * G.z))) none none none, σ) :=
  sA (e_bin (e_bin (e_attr (eL rfl) GA.size) (e_attr (eL rfl) GA.size) (ar_mul (by lia) (by lia))) (e_attr (eL rfl) GA.size) (ar_mul (by lia) (by lia))) (lb rfl)
 have em : vE (gobj ns) (Phi (gobj ns) (n + 8)) (.bin .mul (.lit (.int 2)) (.loc 3)) (m0 (some (.int ((G.z : Int) * G.z * G.z))) none none none) (σ ++ [O.list [.int (-2)]]) = some (.int ((2 * G.z * G.z * G.z : Nat) : Int), σ ++ [O.list [.int (-2)]]) := by
  rw [<- ic]
  exact e_bin eI (eL rfl) (ar_mul (by exact lb rfl) (by lia))
 have st4 : execS (gobj ns) (Phi (gobj ns) (n + 8)) (.asg 4 (.bin .mul (.list (.cons (.lit (.int (-2))) .nil)) (.bin .mul (.lit (.int 2)) (.loc 3)))) (m0 (some (.int ((G.z : Int) * G.z * G.z))) none none none) σ = some (.next, m0 (some (.int ((G.z : Int) * G.z * G.z))) (some (.ref (σ.length + 1))) none none, σ ++ [O.list [.int (-2)]] ++ [O.list (List.replicate (2 * G.z * G.z * G.z) (.int (-2)))]) :=
  sA (e_rep em (by lia)) (lb rfl)
 have pa : σ <+: σ ++ [O.list [.int (-2)]] ++ [O.list (List.replicate (2 * G.z * G.z * G.z) (.int (-2)))] := by rw [List.append_assoc]; exact pfa ..
 have ta : (σ ++ [O.list [.int (-2)]] ++ [O.list (List.replicate (2 * G.z * G.z * G.z) (.int (-2)))])[σ.length + 1]? = some (.list (lf (2 * G.z * G.z * G.z) fun _ => -2)) := by
  rw [<- lf_rep]
  have := gP (σ ++ [O.list [.int (-2)]]) (O.list (List.replicate (2 * G.z * G.z * G.z) (.int (-2))))
  rwa [show (σ ++ [O.list [V.int (-2)]]).length = σ.length + 1 by simp] at this
 generalize σ ++ [O.list [.int (-2)]] ++ [O.list (List.replicate (2 * G.z * G.z * G.z) (.int (-2)))] = σa at *
 refine cps fun _ zk => ?_
 refine x2_6 (sp_mark (ns := ns) (n := n + 1) (geo := geo) (t := σ.length + 1) W (GA.pre pa) hk pa (by and_intros) ta (by rw [hPL]; exact hin)) fun rp σb pb hrp hrt e5 xp xt => ?_
 rw [hPL] at xp xt
 have hrpl := lt_of_get xp
 have htl := lt_of_get xt
 generalize hl : PL.map (idxA G.z) = l at *
 have hll : l.length <= 3456 := by rw [<- hl, List.length_map]; exact hpl
 have hlpos : ∀ x ∈ l, 0 <= x /\ x < 100000 := fun x hx => by
  rw [<- hl] at hx
  refine x1_2 (List.mem_map.mp hx) fun pl h1 y1 => ?_
  subst y1
  have := idxA_lt (by and_intros) (hin pl h1)
  have ic2 : (2 * (G.z : Int) * G.z * G.z) = ((2 * G.z * G.z * G.z : Nat) : Int) := by simp
  lia
 have hlnd : l.Nodup := by
  rw [<- hl]
  exact List.pairwise_map.mpr (hnd.imp_of_mem fun ha hb hab h => hab (idx_inj (by and_intros) (hin _ ha) (hin _ hb) h))
 have xl : pv G.z PL = l.map .int := by rw [<- hl]; simp [pv]
 refine x2_3 (bz_where (g := gobj ns) (Φ := Phi (gobj ns) (n + 8)) (geo := geo) (k := k) (zone := zone) (half := (G.z : Int) * G.z * G.z) (t := σ.length + 1) (rp := rp) (d := σb.length) (σ := σb) (τ := σb ++ [O.dict [(-1, .int (-1))]]) hlnd hlpos hll (by rw [<- xl]; exact xp) (Nat.le_refl _) (pfa ..)
  (i1_4 _ (gP _ _) (by simp) rfl (fun i x hi => absurd hi (by lia)))) fun u7 σc e7 pc hwh => ?_
 refine x10_1 (bz_main (ns := ns) (n := n) (geo := geo) (t := σ.length + 1) (zone := zone) (rp := rp) (d := σb.length) (PL := PL) (u7 := u7) W (GA.pre (pb.trans pc)) hk (by rw [hl]; exact pG pc xt) (by rw [hl]; exact hwh) (pG pc xp) hin hpl) fun u11 u12 u13 u14 u15 u16 u17 u18 u19 σd zq => x0_2 zq fun e11 X => ?_
 have hsd : IntsAt (gobj ns) σd (.ref σc.length) (PL.map (·.1)) := by
  have := X.sides
  rw [List.take_length] at this
  simp only [IntsAt, listOf, getO, this]
 refine x3_5 (run_solve (g := gobj ns) (Φ := Phi (gobj ns) (n + 7)) (S := retro G k PL) (sl := PL.map (·.1)) (rows_of hz hpl hin X) hsd (fun i hi => by
  rw [List.getElem?_map]
  have hi' : i < PL.length := hi
  rw [List.getElem?_eq_getElem hi']
  show some _ = some (PL.getD i d0).1
  rw [getD_of (List.getElem?_eq_getElem hi')])) fun a σe v pe hae es xa eq => ?_
 have pde := X.pre.trans pe
 have hcl := pre_len pc
 have hdl := pre_len X.pre
 refine x3_5 (bz_last (g := gobj ns) (Φ := Phi (gobj ns) (n + 8)) (geo := geo) (G := G) (k := k) (zone := zone) (half := (G.z : Int) * G.z * G.z) (t := σ.length + 1) (rp := rp) (d := σb.length) (a := a) (PL := PL) (v := v) (u7 := u7) (u8 := some (.ref σc.length)) (u9 := some (.ref (σc.length + 1))) (u10 := some (.ref (σc.length + 2))) (u11 := u11) (u12 := u12) (u13 := u13) (u14 := u14) (u15 := u15) (u16 := u16) (u17 := u17) (u18 := u18) (u19 := u19)
  hz hpl hin hnd (pb.trans (pc.trans pde)) (by and_intros) hrt (by lia) (by rw [hl]; exact pG (pc.trans pde) xt) (pG (pc.trans pde) xp) xa) fun u7' σf f ef pf xf h1 h2 => ?_
 have st8 : execS (gobj ns) (Phi (gobj ns) (n + 8)) (.asg 8 (.list .nil)) (bzFrm geo k zone ((G.z : Int) * G.z * G.z) (σ.length + 1) rp σb.length u7 none none none none none none none none none none none none none) σc = some (.next, bzFrm geo k zone ((G.z : Int) * G.z * G.z) (σ.length + 1) rp σb.length u7 (some (.ref σc.length)) none none none none none none none none none none none none, σc ++ [O.list []]) :=
  sA (e_list eN (lb rfl)) (lb rfl)
 have st9 : execS (gobj ns) (Phi (gobj ns) (n + 8)) (.asg 9 (.list .nil)) (bzFrm geo k zone ((G.z : Int) * G.z * G.z) (σ.length + 1) rp σb.length u7 (some (.ref σc.length)) none none none none none none none none none none none none) (σc ++ [O.list []]) = some (.next, bzFrm geo k zone ((G.z : Int) * G.z * G.z) (σ.length + 1) rp σb.length u7 (some (.ref σc.length)) (some (.ref (σc ++ [O.list []]).length)) none none none none none none none none none none none, σc ++ [O.list []] ++ [O.list []]) :=
  sA (e_list eN (lb rfl)) (lb rfl)
 rw [show (σc ++ [O.list []]).length = σc.length + 1 by simp] at st9
 have st10 : execS (gobj ns) (Phi (gobj ns) (n + 8)) (.asg 10 (.list .nil)) (bzFrm geo k zone ((G.z : Int) * G.z * G.z) (σ.length + 1) rp σb.length u7 (some (.ref σc.length)) (some (.ref (σc.length + 1))) none none none none none none none none none none none) (σc ++ [O.list []] ++ [O.list []]) = some (.next, bzFrm geo k zone ((G.z : Int) * G.z * G.z) (σ.length + 1) rp σb.length u7 (some (.ref σc.length)) (some (.ref (σc.length + 1))) (some (.ref (σc ++ [O.list []] ++ [O.list []]).length)) none none none none none none none none none none, σc ++ [O.list []] ++ [O.list []] ++ [O.list []]) :=
  sA (e_list eN (lb rfl)) (lb rfl)
 rw [show (σc ++ [O.list []] ++ [O.list []]).length = σc.length + 2 by simp] at st10
 refine zk ?_; clear zk
 exact i3_4 (σ.length + 1) σf f pf ((phi_eq (fn := f_build_zone) rfl _ _).trans (run_ret (m := m0 none none none none) rfl rfl (sC (s_if_f c0 rfl sN) (sC st3 (sC st4 (sC (sA (e_call (eC (eL rfl) (eC (eL rfl) (eC (eL rfl) (eC (eL rfl) eN)))) e5) (lb rfl)) (sC (sA e_dict1 (lb rfl)) (sC e7 (sC st8 (sC st9 (sC st10 (sC e11 (sC (sA (e_call (eC (eL rfl) (eC (eL rfl) (eC (eL rfl) eN))) ((phi_eq (fn := f_solve) rfl _ _).trans es)) (lb rfl)) (sC ef (ss_ret (eL rfl)))))))))))))))) xf (i1_3 v (by rw [hPL]; exact h1) (by rw [hPL]; exact h2) (by rw [hPL]; exact eq))
theorem sp_table (W : G.Whole) (GA : GeoAt σ geo G) (hk : 2 <= k /\ k <= 5) (hin : ∀ pl ∈ pls G k G.full, InR G.z pl) (hnd : (pls G k G.full).Nodup) :
 ∃ t σ' f, σ <+: σ' /\ Phi (gobj ns) (n + 10) 22 [geo, .int k] σ = some (.ref t, σ') /\ σ'[t]? = some (.list (lf (2 * G.z * G.z * G.z) f)) /\ Built G k G.full f := by
 refine x3_4 (sp_zone (ns := ns) (n := n) W GA hk hin hnd) fun t σ' f p e x b => ?_
 exact i3_4 t σ' f p ((phi_eq (fn := f_build_table) rfl _ _).trans (run_ret (m := [some geo, some (.int k)]) rfl rfl (ss_ret (e_call (eC (eL rfl) (eC (eL rfl) (eC (e_attr (eL rfl) GA.full) eN))) e)))) x b
end
structure Facts (G : Geo) (k : Nat) : Prop where
 W : G.Whole
 free : ∀ s p w, s < G.z -> p < G.z -> w < G.z -> (bit (freeA G s p) w = true ↔ closeA G.F s w = false /\ w ≠ p)
 king : ∀ s g, s < G.z -> g < G.z -> (bit (G.king.getD s 0) g = true ↔ (g : Int) ∈ metA G.F G.R s wayL 1 [])
 close : ∀ s p, s < G.z -> p < G.z -> s ≠ p -> bit (G.king.getD s 0) p = closeA G.F s p
 hits : ∀ p s w g, p < G.z -> s < G.z -> w < G.z -> g < G.z -> (bit (attA G k p (PySem.Builtin.bitOr (shl1 s) (shl1 w))) g = true ↔ (g : Int) ∈ hitsA G.F G.R k p [(s : Int), (w : Int)])
 chk : ∀ p s w, p < G.z -> s < G.z -> w < G.z -> (bit (attA G k p (shl1 s)) w = true ↔ (w : Int) ∈ hitsA G.F G.R k p [(s : Int), (w : Int)])
structure ZoneOk (G : Geo) (zone : Int) (zl : List Int) : Prop where
 bit : ∀ s, s < G.z -> (bit zone s = true ↔ (s : Int) ∈ zl)
theorem bit_zero {k : Nat} : bit 0 k = false := by
 have h : shr 0 k = 0 := Int.zero_fdiv _
 unfold bit
 rw [h]
 decide
theorem mem_pls {G : Geo} {k : Nat} {zone : Int} {pl : Place} : pl ∈ pls G k zone ↔ ∃ s p w : Nat, s < G.z /\ p < G.z /\ w < G.z /\ bit zone s = true /\ p ≠ s /\ bit (freeA G s p) w = true /\ (pl = (1, (s : Int), (p : Int), (w : Int)) \/ (bit (attA G k p (shl1 s)) w = false /\ pl = (0, (s : Int), (p : Int), (w : Int)))) := by
 constructor
 · intro h
   refine cps fun _ zk => ?_
   refine x1_2 (List.mem_flatMap.mp h) fun s hs h => ?_
   refine x1_2 (List.mem_flatMap.mp h) fun p hp h => ?_
   rw [List.mem_range] at hs hp
   unfold plP at h
   refine zk ?_; clear zk
   split at h
   · cases h
   · rename_i hc
     refine x1_2 (List.mem_flatMap.mp h) fun w hw h => ?_
     rw [List.mem_range] at hw
     unfold plW at h
     split at h
     · rename_i hf
       have hz : bit zone s = true := by
        cases q : bit zone s with
        | true => rfl
        | false => exact absurd (.inl q) hc
       refine i3_1 s p w ⟨hs, hp, hw, hz, (fun q => hc (.inr (.inl q))), hf, ?_⟩
       rcases List.mem_cons.mp h with rfl | h
       · exact .inl rfl
       · split at h
         · cases h
         · rename_i ha
           exact .inr ⟨by simpa using ha, List.mem_singleton.mp h⟩
     · cases h
 · rintro ⟨s, p, w, hs, hp, hw, hz, hps, hf, h⟩
   refine List.mem_flatMap.mpr (i1_2 s (List.mem_range.mpr hs) (List.mem_flatMap.mpr (i1_2 p (List.mem_range.mpr hp) ?_)))
   unfold plP
   rw [if_neg]
   · refine List.mem_flatMap.mpr (i1_2 w (List.mem_range.mpr hw) ?_)
     unfold plW
     rw [if_pos hf]
     rcases h with rfl | ⟨ha, rfl⟩
     · exact .head _
     · rw [if_neg (by rw [ha]; simp)]
       exact .tail _ (.head _)
   · rintro (h | h | h)
     · rw [hz] at h; exact nt h
     · exact hps h
     · rw [h, bit_zero] at hf; exact nf hf
theorem pls_in {G : Geo} {k : Nat} {zone : Int} {pl : Place} (h : pl ∈ pls G k zone) : InR G.z pl := by
 refine x3_1 (mem_pls.mp h) fun s p w zq => x0_7 zq fun hs hp hw _ _ _ h => ?_
 rcases h with rfl | ⟨_, rfl⟩
 · exact ⟨.inr rfl, by dsimp only; lia, by dsimp only; lia, by dsimp only; lia⟩
 · exact ⟨.inl rfl, by dsimp only; lia, by dsimp only; lia, by dsimp only; lia⟩
theorem nodup_flat {α β : Type} {f : α -> List β} {l : List α} (h1 : ∀ a ∈ l, (f a).Nodup) (hl : l.Nodup) (h2 : ∀ a b x, x ∈ f a -> x ∈ f b -> a = b) : (l.flatMap f).Nodup := by
 induction l with
 | nil => exact List.nodup_nil
 | cons a r ih =>
   rw [List.nodup_cons] at hl
   rw [List.flatMap_cons, List.nodup_append]
   refine ⟨h1 a (.head _), ih (fun b hb => h1 b (.tail _ hb)) hl.2, fun x hx y hy e => ?_⟩
   subst e
   refine x1_2 (List.mem_flatMap.mp hy) fun b hb hy => ?_
   exact hl.1 (h2 a b x hx hy ▸ hb)
theorem plW_eq {G : Geo} {k s p w : Nat} {x : Place} (h : x ∈ plW G k s p w) : x.2 = ((s : Int), (p : Int), (w : Int)) := by
 unfold plW at h
 split at h
 · rcases List.mem_cons.mp h with rfl | h
   · rfl
   · split at h
     · cases h
     · rw [List.mem_singleton] at h; rw [h]
 · cases h
theorem plP_eq {G : Geo} {k s p : Nat} {zone : Int} {x : Place} (h : x ∈ plP G k zone s p) : x.2.1 = (s : Int) /\ x.2.2.1 = (p : Int) := by
 unfold plP at h
 split at h
 · cases h
 · refine x1_2 (List.mem_flatMap.mp h) fun w _ h => ?_
   rw [plW_eq h]; exact ⟨rfl, rfl⟩
theorem plS_eq {G : Geo} {k s : Nat} {zone : Int} {x : Place} (h : x ∈ plS G k zone s) : x.2.1 = (s : Int) := by
 refine x1_2 (List.mem_flatMap.mp h) fun p _ h => ?_
 exact (plP_eq h).1
theorem pls_nodup {G : Geo} {k : Nat} {zone : Int} : (pls G k zone).Nodup := by
 refine nodup_flat (fun s _ => nodup_flat (fun p _ => ?_) List.nodup_range fun a b x h1 h2 => ?_) List.nodup_range fun a b x h1 h2 => ?_
 · unfold plP
   split
   · exact List.nodup_nil
   · refine nodup_flat (fun w _ => ?_) List.nodup_range fun a b x h1 h2 => ?_
     · unfold plW
       split
       · split <;> simp
       · exact List.nodup_nil
     · have := (plW_eq h1).symm.trans (plW_eq h2)
       simp only [Prod.mk.injEq] at this
       lia
 · have := (plP_eq h1).2.symm.trans (plP_eq h2).2
   lia
 · have := (plS_eq h1).symm.trans (plS_eq h2)
   lia
theorem close_self {F : Int} {a : Int} : closeA F a a = true := by simp [closeA]
theorem mem_stands {G : Geo} {k : Nat} {zone : Int} {zl : List Int} {pl : Place} (H : Facts G k) (Z : ZoneOk G zone zl) (h : InR G.z pl) : pl ∈ pls G k zone ↔ standsA G.F G.R k zl pl = true := by
 obtain ⟨side, s, p, w⟩ := pl
 obtain ⟨s, rfl⟩ : ∃ a : Nat, s = a := ⟨s.toNat, by have := h.2.1; dsimp only at this; lia⟩
 obtain ⟨p, rfl⟩ : ∃ a : Nat, p = a := ⟨p.toNat, by have := h.2.2.1; dsimp only at this; lia⟩
 obtain ⟨w, rfl⟩ : ∃ a : Nat, w = a := ⟨w.toNat, by have := h.2.2.2; dsimp only at this; lia⟩
 refine x0_4 h fun h1 hs hp hw => ?_
 clear h
 dsimp only at h1 hs hp hw
 have hs' : s < G.z := by lia
 have hp' : p < G.z := by lia
 have hw' : w < G.z := by lia
 have e : standsA G.F G.R k zl (side, (s : Int), (p : Int), (w : Int)) = true ↔ (bit zone s = true /\ p ≠ s /\ bit (freeA G s p) w = true) /\ (side = 1 \/ bit (attA G k p (shl1 s)) w = false) := by
  have hchk := H.chk p s w hp' hs' hw'
  have hfree := H.free s p w hs' hp' hw'
  have hbit := Z.bit s hs'
  unfold standsA
  dsimp only
  split
  · rename_i hc
    constructor
    · intro q; exact nf q
    · rintro ⟨⟨q1, q2, q3⟩, _⟩
      rw [hbit] at q1
      rw [hfree] at q3
      rcases hc with hc | hc | hc | hc
      · exact absurd q1 hc
      · exact absurd hc (by lia)
      · exact absurd hc (by lia)
      · rw [q3.1] at hc; exact nf hc
  · rename_i hc
    simp only [not_or, Classical.not_not] at hc
    refine x0_4 hc fun c1 c2 c3 c4 => ?_
    clear hc
    have c4' : closeA G.F (s : Int) (w : Int) = false := by simpa using c4
    rw [Bool.or_eq_true, decide_eq_true_iff, decide_eq_true_iff]
    have hneg : ((w : Int) ∉ hitsA G.F G.R k p [(s : Int), (w : Int)]) ↔ bit (attA G k p (shl1 s)) w = false := by
     rw [<- hchk]; simp
    rw [hneg]
    constructor
    · intro q
      exact ⟨⟨hbit.mpr c1, by lia, hfree.mpr ⟨c4', by lia⟩⟩, q⟩
    · rintro ⟨_, q⟩; exact q
 rw [e, mem_pls]
 constructor
 · rintro ⟨s', p', w', _, _, _, z1, z2, z3, q⟩
   rcases q with q | ⟨qa, q⟩ <;> (simp only [Prod.mk.injEq] at q; refine x0_4 q fun y4 q1 q2 q3 => ?_; clear q; subst y4; rw [Int.natCast_inj] at q1 q2 q3; subst q1; subst q2; subst q3)
   · exact ⟨⟨z1, z2, z3⟩, .inl rfl⟩
   · exact ⟨⟨z1, z2, z3⟩, .inr qa⟩
 · rintro ⟨⟨z1, z2, z3⟩, q⟩
   refine i3_1 s p w ⟨hs', hp', hw', z1, z2, z3, ?_⟩
   by_cases hq : side = 1
   · subst hq; exact .inl rfl
   · have h0 : side = 0 := h1.resolve_right hq
     subst h0
     exact .inr ⟨q.resolve_left hq, rfl⟩
noncomputable def code (z : Int) : Option Place -> Int
 | none => -1
 | some q => idxA z q
theorem tab_ne {G : Geo} {PL : List Place} {q : Place} (hz : G.z <= 12) (hin : ∀ pl ∈ PL, InR G.z pl) (hq : InR G.z q) : tabF (PL.map (idxA G.z)) (idxA G.z q).toNat = -2 ↔ q ∉ PL := by
 have h0 := (idxA_lt (by lia) hq).1
 unfold tabF
 rw [Int.toNat_of_nonneg h0]
 have : idxA G.z q ∈ PL.map (idxA G.z) ↔ q ∈ PL := by
  constructor
  · intro h
    refine x1_2 (List.mem_map.mp h) fun pl h1 h2 => ?_
    rw [<- idx_inj (by lia) (hin pl h1) hq h2]; exact h1
  · intro h; exact List.mem_map_of_mem h
 by_cases hm : q ∈ PL
 · rw [if_pos (this.mpr hm)]; simp [hm]
 · rw [if_neg (fun h => hm (this.mp h))]; simp [hm]
theorem mem_goF {G : Geo} {f : Nat -> Int} {i x : Int} : x ∈ goF G f i ↔ f i.toNat ≠ -2 /\ x = i := by
 unfold goF
 split
 · rename_i h; simp [h]
 · rename_i h; simp [h]
section
variable {G : Geo} {k : Nat} {zone : Int} {zl : List Int} {s p w : Nat}
theorem go_corr {side : Nat} {x : Int} (H : Facts G k) (Z : ZoneOk G zone zl) (h : side <= 1) (hs : s < G.z) (hp : p < G.z) (hw : w < G.z) : x ∈ goF G (tabF ((pls G k zone).map (idxA G.z))) (plc G side s p w) ↔ standsA G.F G.R k zl ((side : Int), (s : Int), (p : Int), (w : Int)) = true /\ x = idxA G.z ((side : Int), (s : Int), (p : Int), (w : Int)) := by
 have hr := plc_r H.W.z h hs hp hw
 have ht := tab_ne H.W.z (fun pl q => pls_in q) hr (PL := pls G k zone)
 have hm := mem_stands H Z hr
 rw [mem_goF]
 unfold plc
 rw [Ne, ht, Classical.not_not, hm]
theorem natOf {z x : Int} (h : 0 <= x /\ x < z) : ∃ a : Nat, x = a /\ (a : Int) < z := ⟨x.toNat, by lia, by lia⟩
theorem stands_pw {F R k : Int} {zl : List Int} {side s p w : Int} (h : standsA F R k zl (side, s, p, w) = true) : s ≠ p /\ p ≠ w /\ closeA F s w = false := by
 unfold standsA at h
 dsimp only at h
 split at h
 · exact nf h
 · rename_i hc
   simp only [not_or] at hc
   exact ⟨hc.2.1, hc.2.2.1, by simpa using hc.2.2.2⟩
theorem weak_corr {x : Int} (H : Facts G k) (Z : ZoneOk G zone zl) (hs : s < G.z) (hp : p < G.z) (hw : w < G.z) (hsp : s ≠ p) :
 x ∈ weakV G (tabF ((pls G k zone).map (idxA G.z))) s p w ↔ ∃ mv ∈ movesA G.F G.R k zl (1, (s : Int), (p : Int), (w : Int)), code G.z mv = x := by
 have hzz : (G.F : Int) * G.R = G.z := by simp [Geo.z]
 have e : x ∈ weakV G (tabF ((pls G k zone).map (idxA G.z))) s p w ↔ ∃ gl : Nat, gl < G.z /\ (gl : Int) ∈ metA G.F G.R w wayL 1 [] /\ ((gl = p /\ closeA G.F s p = false /\ x = -1) \/ (gl ≠ p /\ standsA G.F G.R k zl (0, (s : Int), (p : Int), (gl : Int)) = true /\ x = idxA G.z (0, (s : Int), (p : Int), (gl : Int)))) := by
  unfold weakV
  rw [List.mem_flatMap]
  constructor
  · rintro ⟨gl, hg, hx⟩
    rw [List.mem_range] at hg
    unfold weakF at hx
    split at hx
    · cases hx
    · rename_i hb
      have hb' : bit (G.king.getD w 0) gl = true := by simpa using hb
      refine i1_3 gl hg ((H.king w gl hw hg).mp hb') ?_
      split at hx
      · rename_i hgp
        split at hx
        · rename_i hc
          rw [H.close s p hs hp hsp] at hc
          exact .inl ⟨hgp, hc, List.mem_singleton.mp hx⟩
        · cases hx
      · rename_i hgp
        exact .inr ⟨hgp, (go_corr (side := 0) H Z (by exact lb rfl) hs hp hg).mp hx⟩
  · rintro ⟨gl, hg, hm, hx⟩
    refine i1_2 gl (List.mem_range.mpr hg) ?_
    have hb' := (H.king w gl hw hg).mpr hm
    unfold weakF
    rw [if_neg (by rw [hb']; simp)]
    rcases hx with ⟨rfl, hc, rfl⟩ | ⟨hgp, hx⟩
    · rw [if_pos rfl, if_pos (by rw [H.close s gl hs hp hsp]; exact hc)]
      exact .head _
    · rw [if_neg hgp]
      exact (go_corr (side := 0) H Z (by exact lb rfl) hs hp hg).mpr hx
 rw [e]
 unfold movesA
 rw [if_pos rfl]
 constructor
 · rintro ⟨gl, hg, hm, hx⟩
   rcases hx with ⟨rfl, hc, rfl⟩ | ⟨hgp, hst, rfl⟩
   · exact i1_2 none (List.mem_filterMap.mpr (i1_2 _ hm (by dsimp only; rw [if_pos ⟨rfl, hc⟩]))) rfl
   · exact i1_2 (some _) (List.mem_filterMap.mpr (i1_2 _ hm (by dsimp only; rw [if_neg (fun q => hgp (by lia)), if_pos hst]))) rfl
 · rintro ⟨mv, hmv, rfl⟩
   refine cps fun _ zk => ?_
   refine x1_2 (List.mem_filterMap.mp hmv) fun y hy he => ?_
   refine x1_2 (natOf (metA_in hy)) fun gl y1 hg => ?_
   refine zk ?_; clear zk
   subst y1
   dsimp only at he
   refine i1_3 gl (by lia) hy ?_
   split at he
   · rename_i hc
     cases he
     exact .inl ⟨by lia, hc.2, rfl⟩
   · split at he
     · rename_i hst
       cases he
       refine .inr ⟨fun q => ?_, hst, rfl⟩
       subst q
       exact (stands_pw hst).2.1 rfl
     · exact nn he
theorem str_corr {x : Int} (H : Facts G k) (Z : ZoneOk G zone zl) (hs : s < G.z) (hp : p < G.z) (hw : w < G.z) :
 x ∈ strV G (tabF ((pls G k zone).map (idxA G.z))) k s p w ↔ ∃ mv ∈ movesA G.F G.R k zl (0, (s : Int), (p : Int), (w : Int)), code G.z mv = x := by
 have hzz : (G.F : Int) * G.R = G.z := by simp [Geo.z]
 unfold strV movesA
 rw [if_neg (by simp)]
 simp only [List.mem_append]
 have e1 : x ∈ (List.range G.z).flatMap (strF1 G (tabF ((pls G k zone).map (idxA G.z))) s p w) ↔ ∃ mv ∈ (metA G.F G.R s wayL 1 []).filterMap fun gl => if standsA G.F G.R k zl (1, gl, (p : Int), (w : Int)) = true then some (some (1, gl, (p : Int), (w : Int))) else none, code G.z mv = x := by
  rw [List.mem_flatMap]
  constructor
  · rintro ⟨gl, hg, hx⟩
    rw [List.mem_range] at hg
    unfold strF1 at hx
    split at hx
    · rename_i hb
      obtain ⟨h1, h2⟩ := (go_corr (side := 1) H Z (by exact lb rfl) hg hp hw).mp hx
      exact i1_2 (some _) (List.mem_filterMap.mpr (i1_2 _ ((H.king s gl hs hg).mp hb) (by exact if_pos h1))) h2.symm
    · cases hx
  · rintro ⟨mv, hmv, rfl⟩
    refine cps fun _ zk => ?_
    refine x1_2 (List.mem_filterMap.mp hmv) fun y hy he => ?_
    refine x1_2 (natOf (metA_in hy)) fun gl y2 hg => ?_
    refine zk ?_; clear zk
    subst y2
    have hg' : gl < G.z := by lia
    refine i1_2 gl (List.mem_range.mpr hg') ?_
    unfold strF1
    rw [if_pos ((H.king s gl hs hg').mpr hy)]
    split at he
    · rename_i hst
      cases he
      exact (go_corr (side := 1) H Z (by exact lb rfl) hg' hp hw).mpr ⟨hst, rfl⟩
    · exact nn he
 have e2 : x ∈ (List.range G.z).flatMap (strF2 G (tabF ((pls G k zone).map (idxA G.z))) k s p w) ↔ ∃ mv ∈ (hitsA G.F G.R k p [(s : Int), (w : Int)]).filterMap fun gl => if standsA G.F G.R k zl (1, (s : Int), gl, (w : Int)) = true then some (some (1, (s : Int), gl, (w : Int))) else none, code G.z mv = x := by
  rw [List.mem_flatMap]
  constructor
  · rintro ⟨gl, hg, hx⟩
    rw [List.mem_range] at hg
    unfold strF2 at hx
    split at hx
    · rename_i hb
      obtain ⟨h1, h2⟩ := (go_corr (side := 1) H Z (by exact lb rfl) hs hg hw).mp hx
      exact i1_2 (some _) (List.mem_filterMap.mpr (i1_2 _ ((H.hits p s w gl hp hs hw hg).mp hb) (by exact if_pos h1))) h2.symm
    · cases hx
  · rintro ⟨mv, hmv, rfl⟩
    refine cps fun _ zk => ?_
    refine x1_2 (List.mem_filterMap.mp hmv) fun y hy he => ?_
    refine x1_2 (natOf (hitsA_in hy)) fun gl y3 hg => ?_
    refine zk ?_; clear zk
    subst y3
    have hg' : gl < G.z := by lia
    refine i1_2 gl (List.mem_range.mpr hg') ?_
    unfold strF2
    rw [if_pos ((H.hits p s w gl hp hs hw hg').mpr hy)]
    split at he
    · rename_i hst
      cases he
      exact (go_corr (side := 1) H Z (by exact lb rfl) hs hg' hw).mpr ⟨hst, rfl⟩
    · exact nn he
 rw [e1, e2]
 constructor
 · rintro (⟨mv, h1, h2⟩ | ⟨mv, h1, h2⟩)
   · exact i1_2 mv (.inl h1) h2
   · exact i1_2 mv (.inr h1) h2
 · rintro ⟨mv, h1 | h1, h2⟩
   · exact .inl (i1_2 mv h1 h2)
   · exact .inr (i1_2 mv h1 h2)
end
theorem minI_is : ∀ (l : List Int) (m : Int), (∀ a ∈ m :: l, minI m l <= a) /\ minI m l ∈ m :: l
 | [], m => ⟨fun a h => by rw [List.mem_singleton.mp h]; exact Int.le_refl _, .head _⟩
 | x :: r, m => by
   obtain ⟨h1, h2⟩ := minI_is r (if x < m then x else m)
   have h0 := h1 _ (.head _)
   unfold minI
   refine ⟨fun a ha => ?_, ?_⟩
   · rcases List.mem_cons.mp ha with rfl | ha
     · split at h0 <;> split <;> lia
     · rcases List.mem_cons.mp ha with rfl | ha
       · split at h0 <;> split <;> lia
       · exact h1 a (.tail _ ha)
   · rcases List.mem_cons.mp h2 with h2 | h2
     · rw [h2]
       split
       · exact .tail _ (.head _)
       · exact .head _
     · exact .tail _ (.tail _ h2)
theorem maxI_is : ∀ (l : List Int) (m : Int), (∀ a ∈ m :: l, a <= maxI m l) /\ maxI m l ∈ m :: l
 | [], m => ⟨fun a h => by rw [List.mem_singleton.mp h]; exact Int.le_refl _, .head _⟩
 | x :: r, m => by
   obtain ⟨h1, h2⟩ := maxI_is r (if m < x then x else m)
   have h0 := h1 _ (.head _)
   unfold maxI
   refine ⟨fun a ha => ?_, ?_⟩
   · rcases List.mem_cons.mp ha with rfl | ha
     · split at h0 <;> split <;> lia
     · rcases List.mem_cons.mp ha with rfl | ha
       · split at h0 <;> split <;> lia
       · exact h1 a (.tail _ ha)
   · rcases List.mem_cons.mp h2 with h2 | h2
     · rw [h2]
       split
       · exact .tail _ (.head _)
       · exact .head _
     · exact .tail _ (.tail _ h2)
theorem minL_is {l : List Int} (h : l ≠ []) : (∀ a ∈ l, minL l <= a) /\ minL l ∈ l := by
 cases l with
 | nil => exact absurd rfl h
 | cons m r => exact minI_is r m
theorem maxL_is {l : List Int} (h : l ≠ []) : (∀ a ∈ l, a <= maxL l) /\ maxL l ∈ l := by
 cases l with
 | nil => exact absurd rfl h
 | cons m r => exact maxI_is r m
theorem want_of {S : Retro} {v : Nat -> Int} {n : Nat} {side : Int} {mated : Bool} {mv : List (Option Place)} {words : List Int} (E : Eqn S v n) (hs : S.side n = side) (h01 : side = 0 \/ side = 1) (hl : S.lost n = mated) (hm : mv = [] ↔ S.A n = []) (hw : words.length = mv.length)
 (hA : ∀ y, y ∈ words ↔ ∃ x ∈ S.A n, wrd v x = y) : v n = wantA side mated mv words := by
 have wm : ∀ y, y ∈ (words.filter fun x => decide (0 <= x)) ↔ 0 <= y /\ ∃ x ∈ S.A n, wrd v x = y := fun y => by
  rw [List.mem_filter, hA]; simp [and_comm]
 unfold wantA
 dsimp only
 cases hmt : mated with
 | true => rw [if_pos rfl]; exact E.lost (hl.trans hmt)
 | false =>
   rw [if_neg (by simp)]
   have hl0 := hl.trans hmt
   by_cases h0 : side = 0
   · have hs0 : S.side n = 0 := hs.trans h0
     by_cases hw0 : (words.filter fun x => decide (0 <= x)) = []
     · rw [if_neg (fun h => h.2 hw0), if_neg (fun h => by rw [h0] at h; exact absurd h.1 (by decide))]
       refine E.s2 hl0 hs0 ?_
       rintro ⟨x, hx, hp⟩
       have := (wm (wrd v x)).mpr ⟨hp, x, hx, rfl⟩
       rw [hw0] at this
       cases this
     · rw [if_pos ⟨h0, hw0⟩]
       refine cps fun _ zk => ?_
       obtain ⟨m1, m2⟩ := minL_is hw0
       refine x0_2 ((wm _).mp m2) fun mp y1 => ?_
       refine x1_2 y1 fun mx hmx hme => ?_
       refine x1_4 (E.s1 hl0 hs0 (i1_2 mx hmx (by rw [hme]; exact mp))) fun x hx hp he hle => ?_
       have a1 := m1 _ ((wm _).mpr ⟨hp, x, hx, rfl⟩)
       have a2 := hle mx hmx (by rw [hme]; exact mp)
       rw [hme] at a2
       refine zk ?_; clear zk
       lia
   · have h1 : side = 1 := h01.resolve_left h0
     have hs1 : S.side n ≠ 0 := by rw [hs, h1]; decide
     rw [if_neg (fun h => h0 h.1)]
     have all : (words.filter fun x => decide (0 <= x)).length = words.length ↔ ∀ x ∈ S.A n, 0 <= wrd v x := by
      rw [List.length_filter_eq_length_iff]
      constructor
      · intro h x hx
        simpa using h _ ((hA _).mpr ⟨x, hx, rfl⟩)
      · intro h y hy
        refine x1_2 ((hA y).mp hy) fun x hx y2 => ?_
        subst y2
        simpa using h x hx
     by_cases hc : S.A n ≠ [] /\ ∀ x ∈ S.A n, 0 <= wrd v x
     · rw [if_pos ⟨h1, fun q => hc.1 (hm.mp q), all.mpr hc.2⟩]
       have hf : (words.filter fun x => decide (0 <= x)) ≠ [] := by
        intro q
        obtain ⟨x, hx⟩ := List.exists_mem_of_ne_nil _ hc.1
        have := (wm (wrd v x)).mpr ⟨hc.2 x hx, x, hx, rfl⟩
        rw [q] at this
        cases this
       refine cps fun _ zk => ?_
       obtain ⟨m1, m2⟩ := maxL_is hf
       refine x0_2 ((wm _).mp m2) fun mp y3 => ?_
       refine x1_2 y3 fun mx hmx hme => ?_
       refine x1_3 (E.w1 hl0 hs1 hc.1 hc.2) fun x hx he hle => ?_
       have a1 := m1 _ ((wm _).mpr ⟨hc.2 x hx, x, hx, rfl⟩)
       have a2 := hle mx hmx
       rw [hme] at a2
       refine zk ?_; clear zk
       lia
     · rw [if_neg (fun h => hc ⟨fun q => h.2.1 (hm.mpr q), all.mp h.2.2⟩)]
       exact E.w2 hl0 hs1 hc
section
variable {G : Geo} {k : Nat} {zone : Int} {zl : List Int} {f : Nat -> Int}
theorem lf_getD {N i : Nat} {f : Nat -> Int} (h : i < N) : ((List.range N).map f).getD i 0 = f i := by
 rw [List.getD_eq_getElem?_getD, List.getElem?_map, List.getElem?_range h]; rfl
theorem right_of (H : Facts G k) (Z : ZoneOk G zone zl) (B : Built G k zone f) {pl : Place} (h : InR G.z pl) : rightA G ((List.range (2 * G.z * G.z * G.z)).map f) k zl pl = true := by
 refine x1_3 B fun v hv hn he => ?_
 clear B
 have hz := H.W.z
 have ic : (2 * (G.z : Int) * G.z * G.z) = ((2 * G.z * G.z * G.z : Nat) : Int) := by simp
 have wd : ∀ {q}, InR G.z q -> wordA ((List.range (2 * G.z * G.z * G.z)).map f) G.z (some q) = f (idxA G.z q).toNat := fun hq => by
  obtain ⟨a, b⟩ := idxA_lt (by lia) hq
  exact lf_getD (by omega)
 unfold rightA
 dsimp only
 rw [wd h]
 have hms := mem_stands H Z h
 cases hst : standsA G.F G.R k zl pl with
 | false =>
   rw [if_pos rfl, decide_eq_true_iff]
   obtain ⟨a, b⟩ := idxA_lt (by lia) h
   refine hn _ (by omega) fun q hq e => ?_
   have : idxA G.z q = idxA G.z pl := by lia
   rw [idx_inj (by lia) (pls_in hq) h this, hms, hst] at hq
   exact nf hq
 | true =>
   rw [if_neg (by simp), decide_eq_true_iff]
   have hmem := hms.mpr hst
   obtain ⟨n, hnl, hne⟩ := List.getElem_of_mem hmem
   have hget : (pls G k zone)[n]? = some pl := by rw [List.getElem?_eq_getElem hnl, hne]
   rw [hv n pl hget]
   have hA : (retro G k (pls G k zone)).A n = rowP G k ((pls G k zone).map (idxA G.z)) pl := by
    show rowP G k _ ((pls G k zone).getD n d0) = _
    rw [getD_of hget]
   have hS : (retro G k (pls G k zone)).side n = pl.1 := by
    show ((pls G k zone).getD n d0).1 = _
    rw [getD_of hget]
   have hL : (retro G k (pls G k zone)).lost n = lostP G k ((pls G k zone).map (idxA G.z)) pl := by
    show lostP G k _ ((pls G k zone).getD n d0) = _
    rw [getD_of hget]
   -- the moves
   have hcor : ∀ x, x ∈ movesV G (tabF ((pls G k zone).map (idxA G.z))) k pl.1 pl.2.1.toNat pl.2.2.1.toNat pl.2.2.2.toNat ↔ ∃ mv ∈ movesA G.F G.R k zl pl, code G.z mv = x := by
    intro x
    have hsw := stands_pw hst
    refine cps fun _ zk => ?_
    obtain ⟨side, s, p, w⟩ := pl
    refine x0_4 h fun h1 h2 h3 h4 => ?_
    clear h
    refine zk ?_; clear zk
    dsimp only at h1 h2 h3 h4 hsw ⊢
    refine x1_2 (natOf h2) fun s y4 hs => ?_
    subst y4
    refine x1_2 (natOf h3) fun p y5 hp => ?_
    subst y5
    refine x1_2 (natOf h4) fun w y6 hw => ?_
    subst y6
    simp only [Int.toNat_natCast]
    unfold movesV
    rcases h1 with rfl | rfl
    · rw [if_neg (by decide)]
      exact str_corr H Z (by lia) (by lia) (by lia)
    · rw [if_pos rfl]
      exact weak_corr H Z (by lia) (by lia) (by lia) (by lia)
   have hzz : (G.F : Int) * G.R = G.z := by simp [Geo.z]
   have hmvin : ∀ q, some q ∈ movesA G.F G.R k zl pl -> InR G.z q := fun q hq => movesA_in hzz h hq
   have hlnd : ((pls G k zone).map (idxA G.z)).Nodup := List.pairwise_map.mpr (pls_nodup.imp_of_mem fun ha hb hab e => hab (idx_inj (by lia) (pls_in ha) (pls_in hb) e))
   -- the words
   have hword : ∀ mv ∈ movesA G.F G.R k zl pl, wordA ((List.range (2 * G.z * G.z * G.z)).map f) G.z mv = wrd v (whF ((pls G k zone).map (idxA G.z)) (code G.z mv)) := by
    intro mv hmv
    cases mv with
    | none => rfl
    | some q =>
      have hq := hmvin q hmv
      rw [wd hq]
      obtain ⟨i0, i1⟩ := idxA_lt (by lia) hq
      have hx : code G.z (some q) ∈ movesV G (tabF ((pls G k zone).map (idxA G.z))) k pl.1 pl.2.1.toNat pl.2.2.1.toNat pl.2.2.2.toNat := (hcor _).mpr (i1_2 _ hmv rfl)
      have hxl := (movesV_in hz (by have := h.2.1; lia) (by have := h.2.2.1; lia) (by have := h.2.2.2; lia) hx).resolve_left (show idxA G.z q ≠ -1 by lia)
      have hxl' : idxA G.z q ∈ (pls G k zone).map (idxA G.z) := hxl
      have hlt := List.idxOf_lt_length_iff.mpr hxl'
      have hge := List.getElem_idxOf hlt
      rw [List.getElem_map] at hge
      rw [List.length_map] at hlt
      have hqe := idx_inj (by lia) (pls_in (List.getElem_mem hlt)) hq hge
      have hgq : (pls G k zone)[((pls G k zone).map (idxA G.z)).idxOf (idxA G.z q)]? = some q := by rw [List.getElem?_eq_getElem hlt, hqe]
      rw [hv _ q hgq]
      show _ = wrd v (if idxA G.z q = -1 then -1 else _)
      rw [if_neg (by lia), wrd_nat]
      rfl
   refine want_of (he n hnl) hS h.1 ?_ ?_ (by simp) fun y => ?_
   · rw [hL]
     unfold lostP matedA
     congr 1
     have h0 : InR G.z (0, pl.2) := ⟨.inl rfl, h.2⟩
     have e1 : decide (tabF ((pls G k zone).map (idxA G.z)) (idxA G.z (0, pl.2)).toNat = -2) = !standsA G.F G.R k zl (0, pl.2.1, pl.2.2.1, pl.2.2.2) := by
      have ht := tab_ne hz (fun pl q => pls_in q) h0 (PL := pls G k zone)
      have hm0 := mem_stands H Z h0
      cases hc : standsA G.F G.R k zl (0, pl.2.1, pl.2.2.1, pl.2.2.2) with
      | true => exact decide_eq_false fun q => (ht.mp q) (hm0.mpr hc)
      | false => exact decide_eq_true (ht.mpr fun q => by rw [hm0.mp q] at hc; exact nt hc)
     rw [e1]
     congr 1
     rw [Bool.eq_iff_iff, List.isEmpty_iff, List.isEmpty_iff]
     unfold rowP
     rw [List.map_eq_nil_iff, List.eq_nil_iff_forall_not_mem, List.eq_nil_iff_forall_not_mem]
     exact ⟨fun q mv hmv => q _ ((hcor _).mpr (i1_2 mv hmv rfl)), fun q x hx => let ⟨mv, hmv, _⟩ := (hcor x).mp hx; q mv hmv⟩
   · rw [hA]
     unfold rowP
     rw [List.map_eq_nil_iff, List.eq_nil_iff_forall_not_mem, List.eq_nil_iff_forall_not_mem]
     exact ⟨fun q x hx => let ⟨mv, hmv, _⟩ := (hcor x).mp hx; q mv hmv, fun q mv hmv => q _ ((hcor _).mpr (i1_2 mv hmv rfl))⟩
   · rw [hA, List.mem_map]
     constructor
     · rintro ⟨mv, hmv, rfl⟩
       exact i1_2 _ (List.mem_map_of_mem ((hcor _).mpr (i1_2 mv hmv rfl))) ((hword mv hmv).symm)
     · rintro ⟨x, hx, rfl⟩
       refine x1_2 (List.mem_map.mp hx) fun y hy y7 => ?_
       subst y7
       refine x1_2 ((hcor y).mp hy) fun mv hmv y8 => ?_
       subst y8
       exact i1_2 mv hmv (hword mv hmv)
end
section
open PySem (Builtin.bitAnd Builtin.bitOr Builtin.bitNot)
theorem bitOr_nat (a b : Nat) : PySem.Builtin.bitOr (a : Int) (b : Int) = ((a ||| b : Nat) : Int) := by
 have h : ∀ a : Nat, ¬ (0 <= PySem.Builtin.bitNot (a : Int)) := fun a => by unfold PySem.Builtin.bitNot; lia
 have h2 : ∀ a : Nat, (PySem.Builtin.bitNot (PySem.Builtin.bitNot (a : Int))).toNat = a := fun a => by unfold PySem.Builtin.bitNot; lia
 unfold PySem.Builtin.bitOr PySem.Builtin.bitAnd
 simp only [h, h2, decide_false]
 unfold PySem.Builtin.bitNot
 lia
theorem bit_nat (n k : Nat) : bit (n : Int) k = n.testBit k := by
 have h1 : shr (n : Int) k = ((n / 2 ^ k : Nat) : Int) := by
  unfold shr
  rw [Int.fdiv_eq_ediv_of_nonneg _ (by exact_mod_cast Nat.zero_le _)]
  exact_mod_cast rfl
 have h2 : PySem.Builtin.bitAnd ((n / 2 ^ k : Nat) : Int) 1 = (((n / 2 ^ k) &&& 1 : Nat) : Int) := by
  unfold PySem.Builtin.bitAnd
  rw [decide_eq_true (Int.natCast_nonneg _), decide_eq_true (by decide)]
  rfl
 unfold bit
 rw [h1, h2]
 unfold Nat.testBit
 rw [Nat.shiftRight_eq_div_pow, Nat.and_comm]
 generalize 1 &&& n / 2 ^ k = x
 cases x with
 | zero => rfl
 | succ x => rw [decide_eq_true (by lia)]; rfl
theorem mask_mem {l : List Int} (hl : ∀ x ∈ l, 0 <= x) (g : Nat) : (maskN l).testBit g = true ↔ (g : Int) ∈ l := by
 induction l with
 | nil => simp [maskN]
 | cons x r ih =>
   have ih := ih fun y hy => hl y (.tail _ hy)
   have h0 := hl x (.head _)
   unfold maskN
   show (2 ^ x.toNat ||| maskN r).testBit g = true ↔ _
   rw [Nat.testBit_or, Bool.or_eq_true, ih, Nat.testBit_two_pow, decide_eq_true_iff, List.mem_cons]
   constructor
   · rintro (h | h)
     · exact .inl (by lia)
     · exact .inr h
   · rintro (h | h)
     · exact .inl (by lia)
     · exact .inr h
noncomputable def chkW (G : Geo) : Bool := decide (G.z <= 12) && (decide (G.king.length = G.z) && (decide (G.knight.length = G.z) && (decide (G.rays.length = 8) && G.rays.all fun r => decide (r.length = G.z))))
noncomputable def chkG (G : Geo) : Bool := allN G.z fun s => (decide (G.king.getD s 0 = ((maskN (metA G.F G.R s wayL 1 []) : Nat) : Int)) && allN G.z fun p => (decide (s = p) || (bit (G.king.getD s 0) p == closeA G.F s p))
 && withN (freeA G s p) fun a => allN G.z fun w => bit a w == (!closeA G.F s w && decide (w ≠ p)))
noncomputable def chkK (G : Geo) (k : Nat) : Bool := allN G.z fun p => allN G.z fun s => withN (attA G k p (shl1 s)) fun a1 => decide (0 <= a1) && allN G.z fun w =>
 withN (attA G k p (PySem.Builtin.bitOr (shl1 s) (shl1 w))) fun a => withN (maskN (hitsA G.F G.R k p [(s : Int), (w : Int)]) : Nat) fun m => decide (a = m) && (bit a1 w == bit m w)
theorem hits_nn {F R k sq : Int} {ml : List Int} : ∀ x ∈ hitsA F R k sq ml, 0 <= x := fun x h => (hitsA_in h).1
section
variable {G : Geo}
theorem whole_of (h : chkW G = true) : G.Whole := by
 simp only [chkW, Bool.and_eq_true, decide_eq_true_iff, List.all_eq_true] at h
 refine x0_5 h fun h1 h2 h3 h4 h5 => ?_
 clear h
 exact ⟨h1, h2, h3, h4, fun d row q => h5 row (List.mem_of_getElem? q)⟩
theorem chkK_at {k : Nat} (h : chkK G k = true) {p s w : Nat} (hp : p < G.z) (hs : s < G.z) (hw : w < G.z) : 0 <= attA G k p (shl1 s) /\ attA G k p (PySem.Builtin.bitOr (shl1 s) (shl1 w)) = ((maskN (hitsA G.F G.R k p [(s : Int), (w : Int)]) : Nat) : Int) /\ (bit (attA G k p (shl1 s)) w = true ↔ (w : Int) ∈ hitsA G.F G.R k p [(s : Int), (w : Int)]) := by
 have h1 := allN_at h p hp
 have h2 := allN_at h1 s hs
 try dsimp only at h2
 rw [withN_eq, Bool.and_eq_true, decide_eq_true_iff] at h2
 obtain ⟨h0, h2⟩ := h2
 have h3 := allN_at h2 w hw
 try dsimp only at h3
 rw [withN_eq, withN_eq, Bool.and_eq_true, decide_eq_true_iff, beq_iff_eq] at h3
 refine ⟨h0, h3.1, ?_⟩
 rw [h3.2, bit_nat, mask_mem hits_nn]
theorem facts_of {k : Nat} (h1 : chkW G = true) (h2 : chkG G = true) (hh : ∀ p s w g, p < G.z -> s < G.z -> w < G.z -> g < G.z -> (bit (attA G k p (PySem.Builtin.bitOr (shl1 s) (shl1 w))) g = true ↔ (g : Int) ∈ hitsA G.F G.R k p [(s : Int), (w : Int)]))
 (hc : ∀ p s w, p < G.z -> s < G.z -> w < G.z -> (bit (attA G k p (shl1 s)) w = true ↔ (w : Int) ∈ hitsA G.F G.R k p [(s : Int), (w : Int)])) : Facts G k := by
 refine ⟨whole_of h1, fun s p w hs hp hw => ?_, fun s g hs hg => ?_, fun s p hs hp hsp => ?_, hh, hc⟩
 · have h3 := allN_at h2 s hs
   try dsimp only at h3
   rw [Bool.and_eq_true] at h3
   have h4 := allN_at h3.2 p hp
   try dsimp only at h4
   rw [withN_eq, Bool.and_eq_true] at h4
   have h5 := allN_at h4.2 w hw
   try dsimp only at h5
   rw [beq_iff_eq] at h5
   rw [h5]
   simp
 · have h3 := allN_at h2 s hs
   try dsimp only at h3
   rw [Bool.and_eq_true, decide_eq_true_iff] at h3
   rw [h3.1, bit_nat, mask_mem fun x h => (metA_in h).1]
 · have h3 := allN_at h2 s hs
   try dsimp only at h3
   rw [Bool.and_eq_true] at h3
   have h4 := allN_at h3.2 p hp
   try dsimp only at h4
   rw [Bool.and_eq_true, Bool.or_eq_true, decide_eq_true_iff, beq_iff_eq] at h4
   exact h4.1.resolve_left hsp
theorem facts_k {k : Nat} (h1 : chkW G = true) (h2 : chkG G = true) (h3 : chkK G k = true) : Facts G k :=
 facts_of h1 h2 (fun p s w g hp hs hw hg => by rw [(chkK_at h3 hp hs hw).2.1, bit_nat, mask_mem hits_nn]) fun p s w hp hs hw => (chkK_at h3 hp hs hw).2.2
theorem hits_queen {F R sq : Int} {ml : List Int} {g : Int} : g ∈ hitsA F R (5 : Nat) sq ml ↔ g ∈ hitsA F R (4 : Nat) sq ml \/ g ∈ hitsA F R (3 : Nat) sq ml := by
 show g ∈ metA F R sq wayL 9 ml ↔ g ∈ metA F R sq (wayL.take 4) 9 ml \/ g ∈ metA F R sq (wayL.drop 4) 9 ml
 unfold metA
 rw [<- List.mem_append, <- List.flatMap_append, List.take_append_drop]
theorem facts_5 (h1 : chkW G = true) (h2 : chkG G = true) (h3 : chkK G 3 = true) (h4 : chkK G 4 = true) : Facts G 5 := by
 have or_ : ∀ (a b : Int) (g : Nat), 0 <= a -> 0 <= b -> (bit (PySem.Builtin.bitOr a b) g = true ↔ bit a g = true \/ bit b g = true) := fun a b g ha hb => by
  obtain ⟨a, rfl⟩ : ∃ n : Nat, a = n := ⟨a.toNat, by lia⟩
  obtain ⟨b, rfl⟩ : ∃ n : Nat, b = n := ⟨b.toNat, by lia⟩
  rw [bitOr_nat, bit_nat, bit_nat, bit_nat, Nat.testBit_or, Bool.or_eq_true]
 refine facts_of h1 h2 (fun p s w g hp hs hw hg => ?_) fun p s w hp hs hw => ?_
 · refine cps fun _ zk => ?_
   refine x0_3 (chkK_at h3 hp hs hw) fun _ b3 _ => ?_
   refine x0_3 (chkK_at h4 hp hs hw) fun _ b4 _ => ?_
   refine zk ?_; clear zk
   show bit (PySem.Builtin.bitOr (attA G 4 p _) (attA G 3 p _)) g = true ↔ _
   rw [b3, b4, or_ _ _ g (by and_intros) (by and_intros), bit_nat, bit_nat, mask_mem hits_nn, mask_mem hits_nn, hits_queen]
 · refine cps fun _ zk => ?_
   refine x0_3 (chkK_at h3 hp hs hw) fun a3 _ c3 => ?_
   refine x0_3 (chkK_at h4 hp hs hw) fun a4 _ c4 => ?_
   refine zk ?_; clear zk
   show bit (PySem.Builtin.bitOr (attA G 4 p _) (attA G 3 p _)) w = true ↔ _
   rw [or_ _ _ w a4 a3, c3, c4, hits_queen]
end
end
theorem w23 : chkW geo23 = true := by decide +kernel
theorem w24 : chkW geo24 = true := by decide +kernel
theorem w33 : chkW geo33 = true := by decide +kernel
theorem w43 : chkW geo43 = true := by decide +kernel
theorem w34 : chkW geo34 = true := by decide +kernel
theorem w25 : chkW geo25 = true := by decide +kernel
theorem g23 : chkG geo23 = true := by decide +kernel
theorem g24 : chkG geo24 = true := by decide +kernel
theorem g33 : chkG geo33 = true := by decide +kernel
theorem g43 : chkG geo43 = true := by decide +kernel
theorem g34 : chkG geo34 = true := by decide +kernel
theorem g25 : chkG geo25 = true := by decide +kernel
theorem k23_2 : chkK geo23 2 = true := by decide +kernel
theorem k24_2 : chkK geo24 2 = true := by decide +kernel
theorem k33_2 : chkK geo33 2 = true := by decide +kernel
theorem k43_2 : chkK geo43 2 = true := by decide +kernel
theorem k34_2 : chkK geo34 2 = true := by decide +kernel
theorem k25_2 : chkK geo25 2 = true := by decide +kernel
theorem k23_3 : chkK geo23 3 = true := by decide +kernel
theorem k24_3 : chkK geo24 3 = true := by decide +kernel
theorem k33_3 : chkK geo33 3 = true := by decide +kernel
theorem k43_3 : chkK geo43 3 = true := by decide +kernel
theorem k34_3 : chkK geo34 3 = true := by decide +kernel
theorem k25_3 : chkK geo25 3 = true := by decide +kernel
theorem k23_4 : chkK geo23 4 = true := by decide +kernel
theorem k24_4 : chkK geo24 4 = true := by decide +kernel
theorem k33_4 : chkK geo33 4 = true := by decide +kernel
theorem k43_4 : chkK geo43 4 = true := by decide +kernel
theorem k34_4 : chkK geo34 4 = true := by decide +kernel
theorem k25_4 : chkK geo25 4 = true := by decide +kernel
theorem facts_all {G : Geo} (h : G = geo23 \/ G = geo24 \/ G = geo33 \/ G = geo43 \/ G = geo34 \/ G = geo25) {k : Nat} (hk : k = 2 \/ k = 3 \/ k = 4 \/ k = 5) : Facts G k := by
 rcases h with rfl | rfl | rfl | rfl | rfl | rfl <;> rcases hk with rfl | rfl | rfl | rfl
 · exact facts_k w23 g23 k23_2
 · exact facts_k w23 g23 k23_3
 · exact facts_k w23 g23 k23_4
 · exact facts_5 w23 g23 k23_3 k23_4
 · exact facts_k w24 g24 k24_2
 · exact facts_k w24 g24 k24_3
 · exact facts_k w24 g24 k24_4
 · exact facts_5 w24 g24 k24_3 k24_4
 · exact facts_k w33 g33 k33_2
 · exact facts_k w33 g33 k33_3
 · exact facts_k w33 g33 k33_4
 · exact facts_5 w33 g33 k33_3 k33_4
 · exact facts_k w43 g43 k43_2
 · exact facts_k w43 g43 k43_3
 · exact facts_k w43 g43 k43_4
 · exact facts_5 w43 g43 k43_3 k43_4
 · exact facts_k w34 g34 k34_2
 · exact facts_k w34 g34 k34_3
 · exact facts_k w34 g34 k34_4
 · exact facts_5 w34 g34 k34_3 k34_4
 · exact facts_k w25 g25 k25_2
 · exact facts_k w25 g25 k25_3
 · exact facts_k w25 g25 k25_4
 · exact facts_5 w25 g25 k25_3 k25_4
structure Kp (σ σ' : Hp) : Prop where
 ex : ∀ i o, i ≠ 1 -> σ[i]? = some o -> σ'[i]? = some o
 tape : ∃ m, σ[1]? = some (.list [.ref 0, .int m])
section
variable {ns : List Int} {n : Nat} {σ σ0 σ1 σ2 τ : Hp} {Φ : CallF} {m m1 m2 : Frm} {g : List O} {v : V} {G : Geo}
theorem Kp.obj (K : Kp σ τ) {a : Nat} {o : O} (h : σ[a]? = some o) (hn : ∀ m, o ≠ .list [.ref 0, .int m]) : τ[a]? = some o := by
 refine K.ex a o (fun q => ?_) h
 obtain ⟨m, e⟩ := K.tape
 rw [q, e] at h
 exact hn m (by cases h; rfl)
theorem Kp.getO (K : Kp σ τ) {o : O} (h : getO g σ v = some o) (hn : ∀ m, o ≠ .list [.ref 0, .int m]) : getO g τ v = some o := by
 cases v with
 | ref a => exact K.obj h hn
 | gref k => exact h
 | _ => exact nn h
theorem ints_ne {l : List Int} : ∀ m, O.list (l.map V.int) ≠ .list [.ref 0, .int m] := by
 intro m h
 cases l with
 | nil => cases h
 | cons x r => cases h
theorem Kp.ints (K : Kp σ τ) {l : List Int} (h : IntsAt g σ v l) : IntsAt g τ v l := by
 have := K.getO (getO_of_list h) ints_ne
 simp only [IntsAt, listOf, this]
theorem Kp.shape (K : Kp σ τ) {F R : Int} (h : ShapeAt g σ v F R) : ShapeAt g τ v F R := ⟨K.getO h.at_ (fun _ q => by cases q), h.F1, h.F2, h.R1, h.R2⟩
theorem Kp.attr (K : Kp σ τ) {u : V} {k : Nat} (h : attr σ v k = some u) : attr τ v k = some u := by
 cases v with
 | ref a =>
   simp only [Mine.attr] at h ⊢
   split at h
   · rename_i d q
     rw [K.obj q (fun _ q => by cases q)]
     simp only
     split at h
     · rename_i fs q2
       rw [K.obj q2 (fun _ q => by cases q)]; exact h
     · exact nn h
   · exact nn h
 | _ => exact nn h
theorem Kp.geo (K : Kp σ τ) (W : G.Whole) (h : GeoAt σ v G) : GeoAt τ v G where
 size := K.attr h.size
 full := K.attr h.full
 king := let ⟨a, x, y⟩ := h.king; (i1_2 a (K.attr x) (K.obj y ints_ne))
 knight := let ⟨a, x, y⟩ := h.knight; (i1_2 a (K.attr x) (K.obj y ints_ne))
 rays := by
  refine x2_3 (h.rays) fun a bs x y z => ?_
  refine i2_3 a bs (K.attr x) (K.obj y (fun m q => ?_)) (fun d row q => ?_)
  · cases q
    have h1 : (1 : Nat) < G.rays.length := by rw [W.rays]; decide
    refine x1_2 (z 1 _ (List.getElem?_eq_getElem h1)) fun b h2 _ => ?_
    cases h2
  · refine x1_2 (z d row q) fun b r s => ?_
    exact i1_2 b r (K.obj s ints_ne)
theorem Kp.trans (K : Kp σ τ) (K2 : Kp τ σ2) : Kp σ σ2 := ⟨fun i o h e => K2.ex i o h (K.ex i o h e), K.tape⟩
theorem Kp.len (K : Kp σ τ) (h : σ.length <= τ.length) : True := trivial
theorem Kp.pre (K : Kp σ τ) (p : τ <+: σ2) : Kp σ σ2 := ⟨fun i o h e => pG p (K.ex i o h e), K.tape⟩
noncomputable abbrev Tp (σ : Hp) (xs : List Int) (a : Nat) : Prop := TapeAt [] σ 1 0 xs a
theorem Tp.up {xs : List Int} {a : Nat} (h : Tp σ xs a) : TapeAt g σ 1 0 xs a := ⟨h.tape, h.list, h.ne, h.short, h.low⟩
theorem Tp.pre {xs : List Int} {a : Nat} (h : Tp σ xs a) (p : σ <+: τ) : Tp τ xs a := ⟨pG p h.tape, pG p h.list, h.ne, h.short, h.low⟩
theorem Kp.of_pre {xs : List Int} {a : Nat} (h : Tp σ xs a) (p : σ <+: τ) : Kp σ τ := ⟨fun i o _ e => pG p e, _, h.tape⟩
theorem tk_take {xs : List Int} {a : Nat} {k : Int} (h : Tp σ xs a) (ha : a < 900) (hk : 0 < k) : ∃ τ, Phi (gobj ns) (n + 1) 25 [.ref 1, .int k] σ = some (.int (takeV xs a k), τ) /\ Kp σ τ /\ Tp τ xs (a + 1) /\ σ.length <= τ.length := by
 refine i1_4 _ (sp_take h.up hk) ⟨fun i o hi e => by rw [get_set_ne (Ne.symm hi)]; exact e, _, h.tape⟩ ⟨get_set h.tape, by rw [get_set_ne (Ne.symm h.ne)]; exact h.list, h.ne, h.short, by lia⟩ (by simp)
theorem e_filter {caps : List Nat} {e cond : E} {base : List V} {z c : Nat} {p : Nat -> Bool} (he : vE g Φ e m σ = some (.int (z : Nat), σ)) (hz : z < 1000) (hc : capsOf m caps = some base) (hb : ∀ b : V, ((base ++ [b]).map some)[c]? = some (some b))
 (hcond : ∀ (b : Nat) (τ : Hp), b < z -> σ <+: τ -> vE g Φ cond ((base ++ [V.int (b : Nat)]).map some) τ = some (.bool (p b), τ)) :
 ∃ a τ, vE g Φ (.compIf caps (.loc c) (.blt .range (.cons e .nil)) cond) m σ = some (.ref a, τ) /\ σ <+: τ /\ σ.length <= a /\ τ[a]? = some (.list ((((List.range z).filter p).map fun i : Nat => (i : Int)).map .int)) := by
 have p0 : σ <+: σ ++ [O.range 0 (z : Nat) 1] ++ [O.list []] := by rw [List.append_assoc]; exact pfa ..
 refine x1_3 (comp_range (g := g) (elt := fun m σ => vE g Φ (.loc c) m σ) (cond := fun m σ => vE g Φ cond m σ) (base := base) (acc := (σ ++ [O.range 0 (z : Nat) 1]).length)
  (fun i τ => σ <+: τ /\ τ[(σ ++ [O.range 0 (z : Nat) 1]).length]? = some (.list ((((List.range i).filter p).map fun i : Nat => (i : Int)).map .int))) (n := z) (fuel := loopFuel) (fuel_lt (by lia)) (σ := σ ++ [O.range 0 (z : Nat) 1] ++ [O.list []]) ⟨p0, gP _ _⟩ (by
   rintro i τ hi ⟨q1, q2⟩
   refine i3_4 _ τ (p i) (hcond i τ hi q1) rfl (fun ht => ?_) (fun ht => ⟨q1, ?_⟩)
   · have hl : ((((List.range i).filter p).map fun i : Nat => (i : Int)).map V.int).length < 100000 := by
      have := List.length_filter_le p (List.range i)
      simp at this ⊢; lia
     refine i3_4 _ τ _ (eL (hb _)) (push_at q2 hl) (pre_set q1 (by simp) _) ?_
     rw [get_set q2, List.range_succ, List.filter_append]
     simp [ht]
   · rw [q2, List.range_succ, List.filter_append]
     simp [ht])) fun τ e2 p1 x1 => ?_
 exact i2_4 _ τ (e_compIf (e_range1 he (by omega)) (iter_range (by simp [rangeLen])) hc e2) p1 (by simp) x1
theorem e_item {e i : E} {l : List Int} {k : Int} {v : V} (h1 : vE g Φ e m σ = some (v, σ)) (h2 : vE g Φ i m σ = some (.int k, σ1)) (hk : 0 <= k /\ k < l.length) (hl : l.length < 100000) (h3 : IntsAt g σ1 v l) : ∃ x ∈ l, vE g Φ (.idx e i) m σ = some (.int x, σ1) := by
 obtain ⟨k, rfl⟩ : ∃ j : Nat, k = j := ⟨k.toNat, by lia⟩
 have hlt : k < l.length := by omega
 refine i1_2 (l[k]) (List.getElem_mem hlt) (eX h1 h2 (idx_list (getO_of_list h3) ?_ (by lia)))
 rw [List.getElem?_map, List.getElem?_eq_getElem hlt]; rfl
theorem sp_drawn {sh zone : V} {F R : Int} {z : Nat} {zl xs : List Int} {a : Nat} (T : Tp σ xs a) (ha : a < 800) (S : ShapeAt (gobj ns) σ sh F R) (hz : F * R = z) (hz6 : 6 <= z /\ z <= 12) (Z : IntsAt (gobj ns) σ zone zl) (hzl : zl ≠ []) (hzl2 : zl.length < 100) (hzr : ∀ s ∈ zl, 0 <= s /\ s < z) :
 ∃ pr τ pl, Phi (gobj ns) (n + 2) 35 [.ref 1, sh, zone] σ = some (.ref pr, τ) /\ Kp σ τ /\ Tp τ xs (a + 4) /\ PlaceAt (gobj ns) τ (.ref pr) pl /\ InR z pl := by
 have hF := S.F1
 have hF2 := S.F2
 have hR := S.R1
 have hR2 := S.R2
 have hlen0 : 0 < zl.length := by cases zl with | nil => exact absurd rfl hzl | cons _ _ => simp
 have K0 : Kp σ σ := Kp.of_pre T (List.prefix_refl _)
 let fr (u3 u4 u5 u6 u7 u8 : Option V) : Frm := [some (.ref 1), some sh, some zone, u3, u4, u5, u6, u7, u8]
 have st3 : execS (gobj ns) (Phi (gobj ns) (n + 1)) (.asg 3 (.bin .mul (.idx (.loc 1) (.lit (.int 0))) (.idx (.loc 1) (.lit (.int 1))))) (fr none none none none none none) σ = some (.next, fr (some (.int (z : Nat))) none none none none none, σ) := by
  rw [<- hz]
  exact sA (e_bin (S.e0 (i := 1) rfl) (S.e1 (i := 1) rfl) (ar_mul (by omega) (by lia))) (lb rfl)
 -- the strong king
 refine cps fun _ zk => ?_
 refine x1_4 (tk_take (ns := ns) (n := n) (k := (zl.length : Int)) T (by lia) (by lia)) fun σa ea Ka Ta _ => ?_
 have ta := takeV_range (xs := xs) (at_ := a) (k := (zl.length : Int)) (by lia)
 have lz : vE (gobj ns) (Phi (gobj ns) (n + 1)) (.blt .len (.cons (.loc 2) .nil)) (fr (some (.int (z : Nat))) none none none none none) σ = some (.int (zl.length : Nat), σ) := by
  have := e_len (Φ := Phi (gobj ns) (n + 1)) (m := fr (some (.int (z : Nat))) none none none none none) (e := .loc 2) (eL rfl) Z (by simp; lia)
  rw [this]; simp
 refine x1_2 (e_item (l := zl) (eL (g := gobj ns) (Φ := Phi (gobj ns) (n + 1)) (i := 2) (m := fr (some (.int (z : Nat))) none none none none none) rfl) (e_call (eC (eL (i := 0) rfl) (eC lz eN)) ea) ta (by lia) (Ka.ints Z)) fun s hs es => ?_
 have hsr := hzr s hs
 have Sa := Ka.shape S
 refine zk ?_; clear zk
 -- apart
 refine x2_4 (e_filter (g := gobj ns) (Φ := Phi (gobj ns) (n + 1)) (m := fr (some (.int (z : Nat))) (some (.int s)) none none none none) (σ := σa) (caps := [1, 4]) (e := .loc 3) (cond := .not (.call 28 (.cons (.loc 0) (.cons (.loc 1) (.cons (.loc 2) .nil))))) (base := [sh, .int s]) (z := z) (c := 2) (p := fun b => !closeA F s b) (eL rfl) (by lia) rfl (fun _ => rfl)
  (fun b τ _ p => e_not (e_call (eC (eL rfl) (eC (eL rfl) (eC (eL rfl) eN))) (sp_close (Sa.pre p))) rfl)) fun r5 σb eb pb _ xb => ?_
 have Kb := Ka.pre pb
 have Tb := Ta.pre pb
 generalize hap : ((List.range z).filter fun b : Nat => !closeA F s b).map (fun i : Nat => (i : Int)) = ap at xb
 have hapr : ∀ x ∈ ap, 0 <= x /\ x < z := fun x hx => by
  rw [<- hap] at hx
  refine x1_2 (List.mem_map.mp hx) fun i hi y2 => ?_
  subst y2
  have := List.mem_range.mp (List.mem_filter.mp hi).1
  lia
 have hapl : ap.length <= 12 := by
  rw [<- hap, List.length_map]
  have := List.length_filter_le (fun b : Nat => !closeA F s b) (List.range z)
  rw [List.length_range] at this
  lia
 have Ib : IntsAt (gobj ns) σb (.ref r5) ap := by simp [IntsAt, listOf, getO, xb]
 have c5 := e_eqE (Φ := Phi (gobj ns) (n + 1)) (m := fr (some (.int (z : Nat))) (some (.int s)) (some (.ref r5)) none none none) (e := .loc 5) (eL rfl) Ib
 -- apart, or the king's own square
 have g5 : ∃ r6 σc ap', execS (gobj ns) (Phi (gobj ns) (n + 1)) (.ife (.cmp .eq (.loc 5) (.list .nil)) (.cons (.asg 5 (.list (.cons (.loc 4) .nil))) .nil) .nil) (fr (some (.int (z : Nat))) (some (.int s)) (some (.ref r5)) none none none) σb = some (.next, fr (some (.int (z : Nat))) (some (.int s)) (some (.ref r6)) none none none, σc) /\ σb <+: σc /\ IntsAt (gobj ns) σc (.ref r6) ap' /\ ap' ≠ [] /\ ap'.length <= 12 /\ ∀ x ∈ ap', 0 <= x /\ x < z := by
  have p1 : σb <+: σb ++ [O.list []] := pfa ..
  cases hap2 : ap with
  | nil =>
    rw [hap2] at c5
    refine i3_1 ((σb ++ [O.list []]).length) (σb ++ [O.list []] ++ [O.list [.int s]]) ([s]) ⟨(s_if_t c5 rfl (sC (sA (e_list (eC (eL rfl) eN) (lb rfl)) (lb rfl)) sN)), (p1.trans (pfa ..)), ?_, (by simp), (by simp), (fun x hx => by rw [List.mem_singleton.mp hx]; exact hsr)⟩
    simp [IntsAt, listOf, getO]
  | cons x r =>
    rw [hap2] at c5
    exact i3_1 r5 (σb ++ [O.list []]) ap ⟨(s_if_f c5 rfl sN), p1, (Ib.pre p1), (by rw [hap2]; simp), hapl, hapr⟩
 refine cps fun _ zk => ?_
 refine x3_6 g5 fun r6 σc ap' e5 pc Ic hne hal har => ?_
 clear g5
 have Kc := Kb.pre pc
 have Tc := Tb.pre pc
 have hap0 : 0 < ap'.length := List.length_pos_iff.mpr hne
 refine x1_4 (tk_take (ns := ns) (n := n) (k := (ap'.length : Int)) Tc (by lia) (by lia)) fun σd ed Kd Td _ => ?_
 have td := takeV_range (xs := xs) (at_ := a + 1) (k := (ap'.length : Int)) (by lia)
 have l5 : vE (gobj ns) (Phi (gobj ns) (n + 1)) (.blt .len (.cons (.loc 5) .nil)) (fr (some (.int (z : Nat))) (some (.int s)) (some (.ref r6)) none none none) σc = some (.int (ap'.length : Nat), σc) := by
  have := e_len (Φ := Phi (gobj ns) (n + 1)) (m := fr (some (.int (z : Nat))) (some (.int s)) (some (.ref r6)) none none none) (e := .loc 5) (eL rfl) Ic (by simp; lia)
  rw [this]; simp
 refine x1_2 (e_item (l := ap') (eL (g := gobj ns) (Φ := Phi (gobj ns) (n + 1)) (i := 5) (m := fr (some (.int (z : Nat))) (some (.int s)) (some (.ref r6)) none none none) rfl) (e_call (eC (eL (i := 0) rfl) (eC l5 eN)) ed) td (by lia) (Kd.ints Ic)) fun w hw ew => ?_
 have hwr := har w hw
 refine zk ?_; clear zk
 -- the rest
 refine cps fun _ zk => ?_
 refine x2_4 (e_filter (g := gobj ns) (Φ := Phi (gobj ns) (n + 1)) (m := fr (some (.int (z : Nat))) (some (.int s)) (some (.ref r6)) (some (.int w)) none none) (σ := σd) (caps := [4, 6]) (e := .loc 3) (cond := .and (.cmp .ne (.loc 2) (.loc 0)) (.cmp .ne (.loc 2) (.loc 1))) (base := [.int s, .int w]) (z := z) (c := 2) (p := fun b => decide ((b : Int) ≠ s) && decide ((b : Int) ≠ w)) (eL rfl) (by lia) rfl (fun _ => rfl)
  (fun b τ _ p => e_and_b (e_cmp (eL rfl) (eL rfl) cmp_neI) (e_cmp (eL rfl) (eL rfl) cmp_neI))) fun r7 σe ee pe _ xe => ?_
 have Ke := (Kc.trans Kd).pre pe
 have Te := Td.pre pe
 have hre0 : ∃ b : Nat, b < z /\ (b : Int) ≠ s /\ (b : Int) ≠ w := by
  by_cases h0 : (0 : Int) ≠ s /\ (0 : Int) ≠ w
  · exact ⟨0, by lia, h0.1, h0.2⟩
  · by_cases h1 : (1 : Int) ≠ s /\ (1 : Int) ≠ w
    · exact ⟨1, by lia, h1.1, h1.2⟩
    · exact ⟨2, by lia, by lia, by lia⟩
 generalize hre : ((List.range z).filter fun b : Nat => decide ((b : Int) ≠ s) && decide ((b : Int) ≠ w)).map (fun i : Nat => (i : Int)) = re at xe
 have hrer : ∀ x ∈ re, 0 <= x /\ x < z := fun x hx => by
  rw [<- hre] at hx
  refine x1_2 (List.mem_map.mp hx) fun i hi y3 => ?_
  subst y3
  have := List.mem_range.mp (List.mem_filter.mp hi).1
  lia
 have hrel : re.length <= 12 := by
  rw [<- hre, List.length_map]
  have := List.length_filter_le (fun b : Nat => decide ((b : Int) ≠ s) && decide ((b : Int) ≠ w)) (List.range z)
  rw [List.length_range] at this
  lia
 have hrep : 0 < re.length := by
  refine x1_3 hre0 fun b h1 h2 h3 => ?_
  clear hre0
  refine List.length_pos_of_mem (a := (b : Int)) ?_
  rw [<- hre]
  exact List.mem_map.mpr (i1_2 b (List.mem_filter.mpr ⟨List.mem_range.mpr h1, by simp [h2, h3]⟩) rfl)
 have Ie : IntsAt (gobj ns) σe (.ref r7) re := by simp [IntsAt, listOf, getO, xe]
 refine x1_4 (tk_take (ns := ns) (n := n) (k := (re.length : Int)) Te (by lia) (by lia)) fun σf ef Kf Tf _ => ?_
 have tf := takeV_range (xs := xs) (at_ := a + 1 + 1) (k := (re.length : Int)) (by lia)
 have l7 : vE (gobj ns) (Phi (gobj ns) (n + 1)) (.blt .len (.cons (.loc 7) .nil)) (fr (some (.int (z : Nat))) (some (.int s)) (some (.ref r6)) (some (.int w)) (some (.ref r7)) none) σe = some (.int (re.length : Nat), σe) := by
  have := e_len (Φ := Phi (gobj ns) (n + 1)) (m := fr (some (.int (z : Nat))) (some (.int s)) (some (.ref r6)) (some (.int w)) (some (.ref r7)) none) (e := .loc 7) (eL rfl) Ie (by simp; lia)
  rw [this]; simp
 refine x1_2 (e_item (l := re) (eL (g := gobj ns) (Φ := Phi (gobj ns) (n + 1)) (i := 7) (m := fr (some (.int (z : Nat))) (some (.int s)) (some (.ref r6)) (some (.int w)) (some (.ref r7)) none) rfl) (e_call (eC (eL (i := 0) rfl) (eC l7 eN)) ef) tf (by lia) (Kf.ints Ie)) fun p hp ep => ?_
 have hpr := hrer p hp
 refine x1_4 (tk_take (ns := ns) (n := n) (k := 2) Tf (by lia) (by decide)) fun σg eg Kg Tg _ => ?_
 have tg := takeV_range (xs := xs) (at_ := a + 1 + 1 + 1) (k := 2) (by decide)
 refine zk ?_; clear zk
 refine i3_5 σg.length (σg ++ [O.tup [.int (takeV xs (a + 1 + 1 + 1) 2), .int s, .int p, .int w]]) (takeV xs (a + 1 + 1 + 1) 2, s, p, w) ((phi_eq (fn := f_law_drawn) rfl _ _).trans (run_ret (m := fr none none none none none none) rfl rfl (sC st3 (sC (sA es (lb rfl)) (sC (sA eb (lb rfl)) (sC e5 (sC (sA ew (lb rfl)) (sC (sA ee (lb rfl)) (sC (sA ep (lb rfl)) (ss_ret (e_tup (eC (e_call (eC (eL (i := 0) rfl) (eC eI eN)) eg) (eC (eL (i := 4) rfl) (eC (eL (i := 8) rfl) (eC (eL (i := 6) rfl) eN)))) (lb rfl)))))))))))) (((Ke.trans Kf).trans Kg).pre (pfa ..)) (Tg.pre (pfa ..)) (gP _ _) ⟨by dsimp only; lia, hsr, hpr, hwr⟩
end
noncomputable def maskZ (zl : List Int) : Int := (zl.map fun s => (2 : Int) ^ s.toNat).sum
noncomputable def chkZ : Bool := allN 12 fun a => (allN 12 fun s => bit (maskZ [(a : Int)]) s == decide (s = a)) && allN 12 fun b => decide (a = b) || allN 12 fun s => bit (maskZ [(a : Int), (b : Int)]) s == (decide (s = a) || decide (s = b))
theorem chkZ_ok : chkZ = true := by decide +kernel
theorem zone_one {G : Geo} (hz : G.z <= 12) {a : Int} (h : 0 <= a /\ a < G.z) : ZoneOk G (maskZ [a]) [a] := by
 refine x1_2 (natOf h) fun a y1 h2 => ?_
 subst y1
 refine ⟨fun s hs => ?_⟩
 have h1 := allN_at chkZ_ok a (by lia)
 rw [Bool.and_eq_true] at h1
 have h3 := allN_at h1.1 s (by exact Nat.lt_of_lt_of_le (by assumption) (by assumption))
 rw [beq_iff_eq] at h3
 rw [h3, decide_eq_true_iff, List.mem_singleton]
 lia
theorem zone_two {G : Geo} (hz : G.z <= 12) {a b : Int} (h : 0 <= a /\ a < G.z) (h' : 0 <= b /\ b < G.z) (hab : a ≠ b) : ZoneOk G (maskZ [a, b]) [a, b] := by
 refine x1_2 (natOf h) fun a y2 h2 => ?_
 subst y2
 refine x1_2 (natOf h') fun b y3 h3 => ?_
 subst y3
 refine ⟨fun s hs => ?_⟩
 have h1 := allN_at chkZ_ok a (by lia)
 rw [Bool.and_eq_true] at h1
 have h4 := allN_at h1.2 b (by lia)
 rw [Bool.or_eq_true, decide_eq_true_iff] at h4
 have h5 := allN_at (h4.resolve_left (by lia)) s (by exact Nat.lt_of_lt_of_le (by assumption) (by assumption))
 rw [beq_iff_eq] at h5
 rw [h5, Bool.or_eq_true, decide_eq_true_iff, decide_eq_true_iff, List.mem_cons, List.mem_singleton]
 lia
theorem zone_six {G : Geo} (hz : G.z = 6) (hf : G.full = 63) : ZoneOk G G.full [0, 1, 2, 3, 4, 5] := by
 refine ⟨fun s hs => ?_⟩
 rw [hf]
 have : s = 0 \/ s = 1 \/ s = 2 \/ s = 3 \/ s = 4 \/ s = 5 := by lia
 rcases this with rfl | rfl | rfl | rfl | rfl | rfl <;> decide
section
variable {ns : List Int} {n : Nat} {σ σ0 σ1 σ2 τ : Hp} {Φ : CallF} {m m1 m2 : Frm} {g : List O} {v : V} {G : Geo} {geo zone : V} {k : Nat}
theorem ar_pow {b : Int} (h : 0 <= b /\ b <= 1000) : arith .pow 2 b = some (2 ^ b.toNat) := if_pos ⟨h.1, h.2, by decide⟩
theorem e_mask {zl : List Int} {e : E} (he : vE g Φ e m σ = some (zone, σ)) (hl : zl.length < 1000) (hr : ∀ s ∈ zl, 0 <= s /\ s <= 1000) (Z : IntsAt g σ zone zl) : ∃ τ, vE g Φ (.blt .sum (.cons (.comp [] (.bin .pow (.lit (.int 2)) (.loc 0)) e) .nil)) m σ = some (.int (maskZ zl), τ) /\ σ <+: τ := by
 refine x1_3 (comp_list (g := g) (elt := fun m σ => vE g Φ (.bin .pow (.lit (.int 2)) (.loc 0)) m σ) (cond := fun _ σ => some (.bool true, σ)) (base := []) (acc := σ.length) (l := zone) (xs := zl.map .int) (fuel := loopFuel)
  (fun i τ => σ <+: τ /\ τ[σ.length]? = some (.list (((zl.take i).map fun s => (2 : Int) ^ s.toNat).map .int))) (fuel_lt (by simp; lia)) (σ := σ ++ [O.list []]) ⟨pfa .., by simp⟩ (fun i τ h => Z.pre h.1) (by
   rintro i x τ hix ⟨q1, q2⟩
   rw [List.getElem?_map, Option.map_eq_some_iff] at hix
   refine x1_2 hix fun x _ zz1 => ?_
   clear hix; rename_i hix
   subst zz1
   refine i3_4 (.bool true) τ true rfl rfl (fun _ => i3_4 (.int (2 ^ x.toNat)) τ _ (e_bin eI (eL rfl) (ar_pow (hr x (List.mem_of_getElem? hix)))) (push_at q2 (by simp; lia)) (pre_set q1 (Nat.le_refl _) _) ?_) (fun h => by exact nt h)
   rw [get_set q2, List.take_succ, hix]
   simp)) fun τ ec p1 x1 => ?_
 rw [List.length_map, List.take_length] at x1
 refine i1_2 τ (e_blt (eC (e_comp he (iter_list Z) rfl ec) eN) ?_) p1
 have I : listOf g τ (.ref σ.length) = some (((zl.map fun s => (2 : Int) ^ s.toNat)).map .int) := by simp only [listOf, Mine.getO, x1]
 simp only [blt, oneV, intsAt, b1, I, intsOf_map]
 rfl
theorem table_of {t : Nat} {f : Nat -> Int} (h : σ[t]? = some (.list (lf (2 * G.z * G.z * G.z) f))) : TableAt g σ (.ref t) ((List.range (2 * G.z * G.z * G.z)).map f) G.z := by
 refine ⟨?_, by simp⟩
 have e : lf (2 * G.z * G.z * G.z) f = ((List.range (2 * G.z * G.z * G.z)).map f).map V.int := by simp
 rw [e] at h
 simp only [IntsAt, listOf, Mine.getO, h]
noncomputable def lwFrm (script shape : V) (k : Nat) (z : Nat) (zone : V) (more : Int) (geo : V) (u8 u9 u10 u11 u12 u13 : Option V) : Frm := [some script, some (.ref 1), some shape, some (.int (k : Nat)), some (.int (z : Nat)), some zone, some (.int more), some geo, u8, u9, u10, u11, u12, u13]
noncomputable def lwBuild : S := .ife (.cmp .eq (.loc 4) (.lit (.int 6))) (.cons (.asg 5 (.blt .list (.cons (.blt .range (.cons (.lit (.int 6)) .nil)) .nil)))
 (.cons (.asg 8 (.call 22 (.cons (.loc 7) (.cons (.loc 3) .nil))))
 .nil)) (.cons (.asg 8 (.call 21 (.cons (.loc 7) (.cons (.loc 3) (.cons (.blt .sum (.cons (.comp [] (.bin .pow (.lit (.int 2)) (.loc 0)) (.loc 5)) .nil)) .nil)))))
 .nil)
theorem lw_build {script shape : V} {more : Int} {zl : List Int} (H : Facts G k) (GA : GeoAt σ geo G) (hk : 2 <= k /\ k <= 5) (hf : G.z = 6 -> G.full = 63) (hz6 : 6 <= G.z) (Z : IntsAt (gobj ns) σ zone zl) (hne : zl ≠ []) (hl : zl.length < 10) (hr : ∀ s ∈ zl, 0 <= s /\ s < G.z) (hok : ZoneOk G (maskZ zl) zl) :
 ∃ zone' zl' t T τ, execS (gobj ns) (Phi (gobj ns) (n + 10)) lwBuild (lwFrm script shape k G.z zone more geo none none none none none none) σ = some (.next, lwFrm script shape k G.z zone' more geo (some (.ref t)) none none none none none, τ) /\ σ <+: τ /\ IntsAt (gobj ns) τ zone' zl' /\ zl' ≠ [] /\ zl'.length < 10 /\ (∀ s ∈ zl', 0 <= s /\ s < G.z) /\
   TableAt (gobj ns) τ (.ref t) T G.z /\ ∀ pl, InR G.z pl -> rightA G T k zl' pl = true := by
 have hz := H.W.z
 have c : vE (gobj ns) (Phi (gobj ns) (n + 10)) (.cmp .eq (.loc 4) (.lit (.int 6))) (lwFrm script shape k G.z zone more geo none none none none none none) σ = some (.bool (decide ((G.z : Int) = 6)), σ) := e_cmp (eL rfl) eI cmp_eqI
 by_cases h6 : G.z = 6
 · rw [decide_eq_true (by and_intros)] at c
   have e5 : vE (gobj ns) (Phi (gobj ns) (n + 10)) (.blt .list (.cons (.blt .range (.cons (.lit (.int 6)) .nil)) .nil)) (lwFrm script shape k G.z zone more geo none none none none none none) σ = some (.ref (σ.length + 1), σ ++ [O.range 0 6 1] ++ [O.list (([0, 1, 2, 3, 4, 5] : List Int).map .int)]) := by
    refine e_blt (eC (e_range1 eI (by decide)) eN) ?_
    have : getO (gobj ns) (σ ++ [O.range 0 6 1]) (.ref σ.length) = some (.range 0 6 1) := gP _ _
    simp only [blt, oneV, b1, this, rangeIn]
    simp
    rfl
   have p1 : σ <+: σ ++ [O.range 0 6 1] ++ [O.list (([0, 1, 2, 3, 4, 5] : List Int).map .int)] := by rw [List.append_assoc]; exact pfa ..
   have x5 : (σ ++ [O.range 0 6 1] ++ [O.list (([0, 1, 2, 3, 4, 5] : List Int).map .int)])[σ.length + 1]? = some (.list (([0, 1, 2, 3, 4, 5] : List Int).map .int)) := by
    have := gP (σ ++ [O.range 0 6 1]) (O.list (([0, 1, 2, 3, 4, 5] : List Int).map .int))
    rwa [show (σ ++ [O.range 0 6 1]).length = σ.length + 1 by simp] at this
   refine x3_4 (sp_table (ns := ns) (n := n) (k := k) H.W (GA.pre p1) hk (fun pl h => pls_in h) pls_nodup) fun t τ f p2 e8 xt B => ?_
   have Z5 : IntsAt (gobj ns) τ (.ref (σ.length + 1)) [0, 1, 2, 3, 4, 5] := by
    have := pG p2 x5
    simp only [IntsAt, listOf, Mine.getO, this]
   exact ⟨.ref (σ.length + 1), [0, 1, 2, 3, 4, 5], t, _, τ, s_if_t c rfl (sC (sA e5 (lb rfl)) (sC (sA (e_call (eC (eL (i := 7) rfl) (eC (eL (i := 3) rfl) eN)) e8) (lb rfl)) sN)), p1.trans p2, Z5, by simp, by decide, by
    intro s hs
    simp at hs
    lia, table_of xt, fun pl h => right_of H (zone_six h6 (hf h6)) B h⟩
 · rw [decide_eq_false (by lia)] at c
   refine cps fun _ zk => ?_
   refine x1_2 (e_mask (g := gobj ns) (Φ := Phi (gobj ns) (n + 10)) (m := lwFrm script shape k G.z zone more geo none none none none none none) (e := .loc 5) (eL rfl) (by lia) (fun s hs => by have := hr s hs; lia) Z) fun τ1 em p1 => ?_
   refine x3_4 (sp_zone (ns := ns) (n := n + 1) (k := k) (zone := maskZ zl) H.W (GA.pre p1) hk (fun pl h => pls_in h) pls_nodup) fun t τ f p2 e8 xt B => ?_
   refine zk ?_; clear zk
   exact i5_1 zone zl t _ τ ⟨(s_if_f c rfl (sC (sA (e_call (eC (eL (i := 7) rfl) (eC (eL (i := 3) rfl) (eC em eN))) e8) (lb rfl)) sN)), (p1.trans p2), (Z.pre (p1.trans p2)), hne, hl, hr, (table_of xt), (fun pl h => right_of H hok B h)⟩
end
section
variable {ns : List Int} {n : Nat} {σ σ0 σ1 σ2 τ : Hp} {Φ : CallF} {m m1 m2 : Frm} {g : List O} {v : V} {G : Geo} {geo shape zone script : V} {k t a : Nat} {zl T xs : List Int}
theorem phi39 {args : List V} : Phi g 11 39 args σ = refused g args σ := rfl
theorem phi40 {args : List V} : Phi g 11 40 args σ = unbuilt args σ := rfl
theorem refused_true {tb pr : V} {vs : List V} {kd s x y w : Int} (hz : G.z <= 12) (GA : GeoAt σ geo G) (TL : listOf g σ tb = some vs) (hv : vs.length < 1000000) (P : getO g σ pr = some (.tup [.int s, .int x, .int y, .int w]))
 (hb : (kd < 2 \/ 5 < kd) \/ (vs.length : Int) ≠ 2 * G.z * G.z * G.z \/ (s ≠ 0 /\ s ≠ 1) \/ (x < 0 \/ (G.z : Int) <= x) \/ (y < 0 \/ (G.z : Int) <= y) \/ (w < 0 \/ (G.z : Int) <= w)) : refused g [geo, tb, .int kd, pr] σ = some (.bool true, σ) := by
 have t : tupOf g σ pr = some [.int s, .int x, .int y, .int w] := by unfold tupOf; rw [P]
 refine b1_of t ?_
 show b1 (attr σ geo 2) _ = _
 refine b1_of GA.size ?_
 show b1 (listOf g σ tb) _ = _
 refine b1_of TL ?_
 exact if_pos ⟨hv, by and_intros, by lia, hb⟩
structure LwAt (σ : Hp) (g : List O) (geo shape zone : V) (t : Nat) (G : Geo) (zl T : List Int) : Prop where
 GA : GeoAt σ geo G
 S : ShapeAt g σ shape G.F G.R
 Z : IntsAt g σ zone zl
 T : TableAt g σ (.ref t) T G.z
theorem LwAt.kp (X : LwAt σ g geo shape zone t G zl T) (W : G.Whole) (K : Kp σ τ) : LwAt τ g geo shape zone t G zl T := ⟨K.geo W X.GA, K.shape X.S, K.ints X.Z, K.ints X.T.at_, X.T.len⟩
theorem Kp.set {a : Nat} {o : O} (K : Kp σ τ) (h : σ.length <= a) : Kp σ (τ.set a o) := ⟨fun i o' hi e => by
 have := lt_of_get e
 rw [get_set_ne (by lia)]; exact K.ex i o' hi e, K.tape⟩
theorem lw_right {pr : Nat} {pl : Place} (X : LwAt σ (gobj ns) geo shape zone t G zl T) (hz : G.z <= 12) (hk : 2 <= k /\ k <= 5) (P : PlaceAt (gobj ns) σ (.ref pr) pl) (hr : InR G.z pl) (hR : ∀ pl, InR G.z pl -> rightA G T k zl pl = true) : ∃ τ, σ <+: τ /\ Phi (gobj ns) 11 34 [geo, shape, .ref t, .int (k : Nat), zone, .ref pr] σ = some (.bool true, τ) := by
 refine x1_2 (sp_right (ns := ns) (n := 5) (k := (k : Int)) X.GA X.S X.T X.Z P hz (by lia) hr) fun τ p e => ?_
 rw [hR pl hr] at e
 exact i1_2 τ p e
noncomputable def lwLoop : S := .for_ 9 (.blt .range (.cons (.lit (.int 2)) .nil)) (.cons (.ife (.not (.call 34 (.cons (.loc 7) (.cons (.loc 2) (.cons (.loc 8) (.cons (.loc 3) (.cons (.loc 5) (.cons (.call 35 (.cons (.loc 1) (.cons (.loc 2) (.cons (.loc 5) .nil)))) .nil)))))))) (.cons (.ret (.lit (.bool false)))
 .nil) .nil)
 .nil)
theorem lw_loop {more : Int} (W : G.Whole) (hz6 : 6 <= G.z) (hk : 2 <= k /\ k <= 5) (X : LwAt σ (gobj ns) geo shape zone t G zl T) (Tt : Tp σ xs a) (ha : a < 100) (hne : zl ≠ []) (hl : zl.length < 10) (hr : ∀ s ∈ zl, 0 <= s /\ s < G.z) (hR : ∀ pl, InR G.z pl -> rightA G T k zl pl = true) :
 ∃ u9 τ, execS (gobj ns) (Phi (gobj ns) 11) lwLoop (lwFrm script shape k G.z zone more geo (some (.ref t)) none none none none none) σ = some (.next, lwFrm script shape k G.z zone more geo (some (.ref t)) u9 none none none none, τ) /\ Kp σ τ /\ Tp τ xs (a + 8) := by
 have hz := W.z
 have hzz : (G.F : Int) * G.R = (G.z : Nat) := by simp [Geo.z]
 refine cps fun _ zk => ?_
 refine x2_2 (for_range (g := gobj ns) (set := fun v m _ => setLoc 9 v m) (body := fun m σ => execSs (gobj ns) (Phi (gobj ns) 11) (.cons (.ife (.not (.call 34 (.cons (.loc 7) (.cons (.loc 2) (.cons (.loc 8) (.cons (.loc 3) (.cons (.loc 5) (.cons (.call 35 (.cons (.loc 1) (.cons (.loc 2) (.cons (.loc 5) .nil)))) .nil)))))))) (.cons (.ret (.lit (.bool false))) .nil) .nil) .nil) m σ)
  (fun i fr τ => ∃ u9, fr = lwFrm script shape k G.z zone more geo (some (.ref t)) u9 none none none none /\ Kp σ τ /\ Tp τ xs (a + 4 * i)) (a := 0) (st := 1) (n := 2) (fuel := loopFuel) (by decide) (m := lwFrm script shape k G.z zone more geo (some (.ref t)) none none none none none) (σ := σ ++ [O.range 0 2 1])
  (i1_3 none rfl (Kp.of_pre Tt (pfa ..)) (Tt.pre (pfa ..))) (by
   rintro i fr τ hi ⟨u9, rfl, K, Tt'⟩
   have X1 := X.kp W K
   refine cps fun _ zk => ?_
   refine x3_5 (sp_drawn (ns := ns) (n := 9) (z := G.z) Tt' (by lia) X1.S hzz ⟨hz6, hz⟩ X1.Z hne (by lia) hr) fun pr τ1 pl ed K1 T1 P1 hin => ?_
   refine x1_2 (lw_right (X1.kp W K1) hz hk P1 hin hR) fun τ2 p2 er => ?_
   refine zk ?_; clear zk
   exact i4_4 _ (.next) _ τ2 rfl (sC (s_if_f (e_not (e_call (eC (eL (i := 7) rfl) (eC (eL (i := 2) rfl) (eC (eL (i := 8) rfl) (eC (eL (i := 3) rfl) (eC (eL (i := 5) rfl) (eC (e_call (eC (eL (i := 1) rfl) (eC (eL (i := 2) rfl) (eC (eL (i := 5) rfl) eN))) ed) eN)))))) er) rfl) rfl sN) sN) (.inl rfl) (i1_3 _ rfl ((K.trans K1).pre p2) (T1.pre p2)))) fun m' τ e y1 => ?_
 refine x1_3 y1 fun u9 y2 K Tt' => ?_
 refine zk ?_; clear zk
 subst y2
 exact i2_3 u9 τ (s_for (e_range1 eI (by decide)) (iter_range rfl) e) K Tt'
noncomputable def lwO1 : S := .asg 10 (.bin .sub (.call 25 (.cons (.loc 1) (.cons (.lit (.int 40)) .nil))) (.lit (.int 20)))
noncomputable def lwO2 : S := .ife (.and (.not (.chain (.lit (.int 2)) .le (.loc 10) .le (.lit (.int 5)))) (.not (.and (.call 40 (.cons (.loc 7) (.cons (.loc 10) .nil))) (.call 39 (.cons (.loc 7) (.cons (.loc 8) (.cons (.loc 10) (.cons (.tup (.cons (.lit (.int 0)) (.cons (.lit (.int 0)) (.cons (.lit (.int 1)) (.cons (.lit (.int 2)) .nil))))) .nil)))))))) (.cons (.ret (.lit (.bool false)))
 .nil) .nil
theorem lw_other {more : Int} {u9 : Option V} (W : G.Whole) (X : LwAt σ (gobj ns) geo shape zone t G zl T) (Tt : Tp σ xs a) (ha : a < 200) :
 ∃ o τ1 τ, execS (gobj ns) (Phi (gobj ns) 11) lwO1 (lwFrm script shape k G.z zone more geo (some (.ref t)) u9 none none none none) σ = some (.next, lwFrm script shape k G.z zone more geo (some (.ref t)) u9 (some (.int o)) none none none, τ1) /\ execS (gobj ns) (Phi (gobj ns) 11) lwO2 (lwFrm script shape k G.z zone more geo (some (.ref t)) u9 (some (.int o)) none none none) τ1 = some (.next, lwFrm script shape k G.z zone more geo (some (.ref t)) u9 (some (.int o)) none none none, τ) /\ Kp σ τ /\ Tp τ xs (a + 1) := by
 have hz := W.z
 refine x1_4 (tk_take (ns := ns) (n := 10) (k := 40) Tt (by lia) (by decide)) fun τ et K Tt' _ => ?_
 have X1 := X.kp W K
 generalize takeV xs a 40 = x at et
 have st : execS (gobj ns) (Phi (gobj ns) 11) (.asg 10 (.bin .sub (.call 25 (.cons (.loc 1) (.cons (.lit (.int 40)) .nil))) (.lit (.int 20)))) (lwFrm script shape k G.z zone more geo (some (.ref t)) u9 none none none none) σ = some (.next, lwFrm script shape k G.z zone more geo (some (.ref t)) u9 (some (.int (x - 20))) none none none, τ) :=
  sA (e_bin (e_call (eC (eL (i := 1) rfl) (eC eI eN)) et) eI ar_sub) (lb rfl)
 have c : vE (gobj ns) (Phi (gobj ns) 11) (.not (.chain (.lit (.int 2)) .le (.loc 10) .le (.lit (.int 5)))) (lwFrm script shape k G.z zone more geo (some (.ref t)) u9 (some (.int (x - 20))) none none none) τ = some (.bool (!(decide ((2 : Int) <= x - 20) && decide (x - 20 <= (5 : Int)))), τ) :=
  e_not (e_chain_le eI (eL rfl) eI) rfl
 by_cases h : 2 <= x - 20 /\ x - 20 <= 5
 · rw [decide_eq_true h.1, decide_eq_true h.2] at c
   exact i3_4 _ τ τ st (s_if_f (e_and_f c rfl) rfl sN) K Tt'
 · rw [show (!(decide ((2 : Int) <= x - 20) && decide (x - 20 <= (5 : Int)))) = true by simp; omega] at c
   have hk : x - 20 < 2 \/ 5 < x - 20 := by omega
   have p1 : τ <+: τ ++ [O.tup [.int 0, .int 0, .int 1, .int 2]] := pfa ..
   have hlen := X1.T.len
   have hcu := cube_le hz
   have e39 := refused_true (g := gobj ns) (tb := .ref t) (pr := .ref τ.length) (kd := x - 20) hz (X1.GA.pre p1) (pre_listOf p1 X1.T.at_) (by rw [List.length_map]; omega) (gP _ _) (.inl hk)
   have e40 : Phi (gobj ns) 11 40 [geo, .int (x - 20)] τ = some (.bool true, τ) := by
    rw [phi40]
    exact if_pos hk
   exact i3_4 _ τ _ st (s_if_f (e_and_t c rfl (e_not (e_and_t (e_call (eC (eL (i := 7) rfl) (eC (eL (i := 10) rfl) eN)) e40) rfl (e_call (eC (eL (i := 7) rfl) (eC (eL (i := 8) rfl) (eC (eL (i := 10) rfl) (eC (e_tup (eC eI (eC eI (eC eI (eC eI eN)))) (lb rfl)) eN)))) (phi39.trans e39))) rfl)) rfl sN) (K.pre p1) (Tt'.pre p1)
theorem lw_men {more : Int} {u9 u10 u11 : Option V} (hz : G.z <= 12) (Tt : Tp σ xs a) (ha : a < 200) :
 ∃ (r : Nat) (l : List Int) (τ : Hp), vE (gobj ns) (Phi (gobj ns) 11) (.comp [1, 4] (.bin .sub (.call 25 (.cons (.loc 0) (.cons (.bin .add (.loc 1) (.lit (.int 2))) .nil))) (.lit (.int 1))) (.blt .range (.cons (.lit (.int 3)) .nil))) (lwFrm script shape k G.z zone more geo (some (.ref t)) u9 u10 u11 none none) σ = some (.ref r, τ) /\ Kp σ τ /\ Tp τ xs (a + 3) /\ l.length = 3 /\ τ[r]? = some (.list (l.map .int)) := by
 have p0 : σ <+: σ ++ [O.range 0 3 1] ++ [O.list []] := by rw [List.append_assoc]; exact pfa ..
 refine cps fun _ zk => ?_
 refine x1_4 (comp_range (g := gobj ns) (elt := fun m σ => vE (gobj ns) (Phi (gobj ns) 11) (.bin .sub (.call 25 (.cons (.loc 0) (.cons (.bin .add (.loc 1) (.lit (.int 2))) .nil))) (.lit (.int 1))) m σ) (cond := fun _ σ => some (.bool true, σ)) (base := [.ref 1, .int (G.z : Nat)]) (acc := (σ ++ [O.range 0 3 1]).length)
  (fun i τ => Kp σ τ /\ Tp τ xs (a + i) /\ ∃ l : List Int, l.length = i /\ τ[(σ ++ [O.range 0 3 1]).length]? = some (.list (l.map .int))) (n := 3) (fuel := loopFuel) (by decide) (σ := σ ++ [O.range 0 3 1] ++ [O.list []]) ⟨Kp.of_pre Tt p0, Tt.pre p0, [], rfl, gP _ _⟩ (by
   rintro i τ hi ⟨K, Tt', l, hl, hx⟩
   refine x1_4 (tk_take (ns := ns) (n := 10) (k := (G.z : Int) + 2) Tt' (by lia) (by lia)) fun τ1 et K1 T1 _ => ?_
   have h1 := lt_of_get Tt.tape
   have hn1 : (σ ++ [O.range 0 3 1]).length = σ.length + 1 := by simp
   have hne : (σ ++ [O.range 0 3 1]).length ≠ 1 := by lia
   have h0 := lt_of_get Tt.list
   have hx1 := K1.ex _ _ hne hx
   refine i3_4 (.bool true) τ true rfl rfl (fun _ => i3_5 _ τ1 _ (e_bin (e_call (eC (eL (i := 0) rfl) (eC (e_bin (eL (i := 1) rfl) eI ar_add) eN)) et) eI ar_sub) (push_at hx1 (by simp; lia)) ((K.trans K1).set (by simp)) ?_ (i1_2 (l ++ [takeV xs (a + i) ((G.z : Int) + 2) - 1]) (by simp [hl]) ?_)) (fun h => by exact nt h)
   · exact ⟨by rw [get_set_ne hne]; exact T1.tape, by rw [get_set_ne (by lia)]; exact T1.list, T1.ne, T1.short, T1.low⟩
   · rw [get_set hx1]; simp)) fun τ ec K Tt' y3 => ?_
 refine x1_2 y3 fun l hl hx => ?_
 refine zk ?_; clear zk
 exact i3_5 _ l τ (e_comp (e_range1 eI (by decide)) (iter_range rfl) rfl ec) K Tt' hl hx
end
section
variable {ns : List Int} {n : Nat} {σ σ0 σ1 σ2 τ : Hp} {Φ : CallF} {m m1 m2 : Frm} {g : List O} {v : V} {G : Geo} {geo shape zone script : V} {k t a : Nat} {zl T xs : List Int}
noncomputable def lwEnd : Ss := (.cons (.asg 11 (.bin .sub (.call 25 (.cons (.loc 1) (.cons (.lit (.int 4)) .nil))) (.lit (.int 1))))
 (.cons (.asg 12 (.comp [1, 4] (.bin .sub (.call 25 (.cons (.loc 0) (.cons (.bin .add (.loc 1) (.lit (.int 2))) .nil))) (.lit (.int 1))) (.blt .range (.cons (.lit (.int 3)) .nil))))
 (.cons (.asg 13 (.tup (.cons (.loc 11) (.cons (.idx (.loc 12) (.lit (.int 0))) (.cons (.idx (.loc 12) (.lit (.int 1))) (.cons (.idx (.loc 12) (.lit (.int 2))) .nil))))))
 (.cons (.ife (.and (.chain (.lit (.int 0)) .le (.loc 11) .le (.lit (.int 1))) (.and (.cmp .ge (.blt .min (.cons (.loc 12) .nil)) (.lit (.int 0))) (.cmp .lt (.blt .max (.cons (.loc 12) .nil)) (.loc 4)))) (.cons (.ret (.call 34 (.cons (.loc 7) (.cons (.loc 2) (.cons (.loc 8) (.cons (.loc 3) (.cons (.loc 5) (.cons (.loc 13) .nil))))))))
 .nil) .nil)
 (.cons (.ret (.and (.call 39 (.cons (.loc 7) (.cons (.loc 8) (.cons (.loc 3) (.cons (.loc 13) .nil))))) (.call 39 (.cons (.loc 7) (.cons (.sfrom (.loc 8) (.lit (.int 1))) (.cons (.loc 3) (.cons (.tup (.cons (.lit (.int 0)) (.cons (.lit (.int 0)) (.cons (.lit (.int 1)) (.cons (.lit (.int 2)) .nil))))) .nil)))))))
 .nil)))))
theorem lw_end {more : Int} {u9 u10 : Option V} (W : G.Whole) (hk : 2 <= k /\ k <= 5) (hz6 : 6 <= G.z) (X : LwAt σ (gobj ns) geo shape zone t G zl T) (Tt : Tp σ xs a) (ha : a < 100) (hR : ∀ pl, InR G.z pl -> rightA G T k zl pl = true) :
 ∃ fr τ, execSs (gobj ns) (Phi (gobj ns) 11) lwEnd (lwFrm script shape k G.z zone more geo (some (.ref t)) u9 u10 none none none) σ = some (.ret (.bool true), fr, τ) := by
 have hz := W.z
 have hcu := cube_le hz
 refine cps fun _ zk => ?_
 refine x1_4 (tk_take (ns := ns) (n := 10) (k := 4) Tt (by lia) (by decide)) fun τ1 e1 K1 T1 _ => ?_
 generalize takeV xs a 4 - 1 = side at *
 generalize hside : takeV xs a 4 = sd at e1
 have st11 : execS (gobj ns) (Phi (gobj ns) 11) (.asg 11 (.bin .sub (.call 25 (.cons (.loc 1) (.cons (.lit (.int 4)) .nil))) (.lit (.int 1)))) (lwFrm script shape k G.z zone more geo (some (.ref t)) u9 u10 none none none) σ = some (.next, lwFrm script shape k G.z zone more geo (some (.ref t)) u9 u10 (some (.int (sd - 1))) none none, τ1) :=
  sA (e_bin (e_call (eC (eL (i := 1) rfl) (eC eI eN)) e1) eI ar_sub) (lb rfl)
 generalize sd - 1 = s at st11
 refine x3_5 (lw_men (ns := ns) (script := script) (shape := shape) (k := k) (zone := zone) (geo := geo) (t := t) (more := more) (u9 := u9) (u10 := u10) (u11 := some (.int s)) (G := G) hz T1 (by lia)) fun r l τ2 e2 K2 T2 hl hx => ?_
 have X2 := X.kp W (K1.trans K2)
 refine x3_1 (by
  match l, hl with
  | [x, y, w], _ => exact i3_1 x y w rfl : ∃ x y w, l = [x, y, w]) fun x y w y1 => ?_
 refine zk ?_; clear zk
 subst y1
 have I2 : IntsAt (gobj ns) τ2 (.ref r) [x, y, w] := by simp only [IntsAt, listOf, Mine.getO, hx]
 have gx : getO (gobj ns) τ2 (.ref r) = some (.list [.int x, .int y, .int w]) := hx
 have st13 : execS (gobj ns) (Phi (gobj ns) 11) (.asg 13 (.tup (.cons (.loc 11) (.cons (.idx (.loc 12) (.lit (.int 0))) (.cons (.idx (.loc 12) (.lit (.int 1))) (.cons (.idx (.loc 12) (.lit (.int 2))) .nil)))))) (lwFrm script shape k G.z zone more geo (some (.ref t)) u9 u10 (some (.int s)) (some (.ref r)) none) τ2 = some (.next, lwFrm script shape k G.z zone more geo (some (.ref t)) u9 u10 (some (.int s)) (some (.ref r)) (some (.ref τ2.length)), τ2 ++ [O.tup [.int s, .int x, .int y, .int w]]) :=
  sA (e_tup (eC (eL rfl) (eC (eX (eL rfl) eI (idx_list (i := 0) gx rfl (by decide))) (eC (eX (eL rfl) eI (idx_list (i := 1) gx rfl (by decide))) (eC (eX (eL rfl) eI (idx_list (i := 2) gx rfl (by decide))) eN)))) (lb rfl)) (lb rfl)
 have p3 : τ2 <+: τ2 ++ [O.tup [.int s, .int x, .int y, .int w]] := pfa ..
 have P3 : PlaceAt (gobj ns) (τ2 ++ [O.tup [.int s, .int x, .int y, .int w]]) (.ref τ2.length) (s, x, y, w) := gP _ _
 have X3 : LwAt (τ2 ++ [O.tup [.int s, .int x, .int y, .int w]]) (gobj ns) geo shape zone t G zl T := X2.kp W (Kp.of_pre T2 p3)
 generalize τ2 ++ [O.tup [.int s, .int x, .int y, .int w]] = τ3 at st13 p3 P3 X3
 have c : vE (gobj ns) (Phi (gobj ns) 11) (.and (.chain (.lit (.int 0)) .le (.loc 11) .le (.lit (.int 1))) (.and (.cmp .ge (.blt .min (.cons (.loc 12) .nil)) (.lit (.int 0))) (.cmp .lt (.blt .max (.cons (.loc 12) .nil)) (.loc 4)))) (lwFrm script shape k G.z zone more geo (some (.ref t)) u9 u10 (some (.int s)) (some (.ref r)) (some (.ref τ2.length))) τ3 =
  some (.bool ((decide ((0 : Int) <= s) && decide (s <= (1 : Int))) && (decide ((0 : Int) <= minI x [y, w]) && decide (maxI x [y, w] < (G.z : Int)))), τ3) :=
  e_and_b (e_chain_le eI (eL rfl) eI) (e_and_b (e_cmp (e_min (eL rfl) (I2.pre p3)) eI cmp_geI) (e_cmp (e_max (eL rfl) (I2.pre p3)) (eL rfl) cmp_ltI))
 have hmin := minI_is [y, w] x
 have hmax := maxI_is [y, w] x
 simp only [List.mem_cons, List.not_mem_nil, or_false, forall_eq_or_imp, forall_eq] at hmin hmax
 by_cases h : (0 <= s /\ s <= 1) /\ 0 <= minI x [y, w] /\ maxI x [y, w] < G.z
 · rw [decide_eq_true h.1.1, decide_eq_true h.1.2, decide_eq_true h.2.1, decide_eq_true h.2.2] at c
   refine x1_2 (lw_right X3 hz hk P3 ⟨by dsimp only; lia, by dsimp only; lia, by dsimp only; lia, by dsimp only; lia⟩ hR) fun τ4 p4 e4 => ?_
   exact i2_1 _ τ4 (sC st11 (sC (sA e2 (lb rfl)) (sC st13 (ss_stop (s_if_t c rfl (ss_ret (e_call (eC (eL (i := 7) rfl) (eC (eL (i := 2) rfl) (eC (eL (i := 8) rfl) (eC (eL (i := 3) rfl) (eC (eL (i := 5) rfl) (eC (eL (i := 13) rfl) eN)))))) e4))) (fun h => by cases h)))))
 · have hc : ((decide ((0 : Int) <= s) && decide (s <= (1 : Int))) && (decide ((0 : Int) <= minI x [y, w]) && decide (maxI x [y, w] < (G.z : Int)))) = false := by
    cases q : ((decide ((0 : Int) <= s) && decide (s <= (1 : Int))) && (decide ((0 : Int) <= minI x [y, w]) && decide (maxI x [y, w] < (G.z : Int)))) with
    | false => rfl
    | true =>
      simp only [Bool.and_eq_true, decide_eq_true_iff] at q
      exact absurd q h
   rw [hc] at c
   have hlen := X3.T.len
   have e39 := refused_true (g := gobj ns) (tb := .ref t) (pr := .ref τ2.length) (kd := (k : Int)) hz X3.GA X3.T.at_ (by rw [List.length_map]; lia) P3 (by
    refine .inr (.inr ?_)
    dsimp only
    lia)
   have gt : getO (gobj ns) τ3 (.ref t) = some (.list (T.map .int)) := getO_of_list X3.T.at_
   have esf : sfrom (gobj ns) τ3 (.ref t) (.int 1) = some (.ref τ3.length, τ3 ++ [O.list ((T.map V.int).drop 1)]) := by
    unfold sfrom
    simp only [gt]
    rw [if_pos ⟨by decide, by decide, by rw [List.length_map]; lia⟩]
    rfl
   have esf2 : vE (gobj ns) (Phi (gobj ns) 11) (.sfrom (.loc 8) (.lit (.int 1))) (lwFrm script shape k G.z zone more geo (some (.ref t)) u9 u10 (some (.int s)) (some (.ref r)) (some (.ref τ2.length))) τ3 = some (.ref τ3.length, τ3 ++ [O.list ((T.map V.int).drop 1)]) := by
    have h8 : slot? (lwFrm script shape k G.z zone more geo (some (.ref t)) u9 u10 (some (.int s)) (some (.ref r)) (some (.ref τ2.length))) 8 = some (.ref t) := rfl
    exact e_sfrom (eL rfl) eI esf
   have p4 : τ3 <+: τ3 ++ [O.list ((T.map V.int).drop 1)] := pfa ..
   have p5 : τ3 ++ [O.list ((T.map V.int).drop 1)] <+: τ3 ++ [O.list ((T.map V.int).drop 1)] ++ [O.tup [.int 0, .int 0, .int 1, .int 2]] := pfa ..
   have l4 : listOf (gobj ns) (τ3 ++ [O.list ((T.map V.int).drop 1)]) (.ref τ3.length) = some ((T.map V.int).drop 1) := by simp [listOf, Mine.getO]
   have e39b := refused_true (g := gobj ns) (tb := .ref τ3.length) (pr := .ref (τ3 ++ [O.list ((T.map V.int).drop 1)]).length) (kd := (k : Int)) (s := 0) (x := 0) (y := 1) (w := 2) hz (X3.GA.pre (p4.trans p5)) (pre_listOf p5 l4) (by simp; omega) (gP _ _) (by
    refine .inr (.inl ?_)
    rw [List.length_drop, List.length_map]
    have ic : (2 * (G.z : Int) * G.z * G.z) = ((2 * G.z * G.z * G.z : Nat) : Int) := by simp
    have h1 : 0 < 2 * G.z * G.z * G.z := Nat.mul_pos (Nat.mul_pos (Nat.mul_pos (by decide) (by and_intros)) (by and_intros)) (by and_intros)
    lia)
   exact i2_1 _ _ (sC st11 (sC (sA e2 (lb rfl)) (sC st13 (sC (s_if_f c rfl sN) (ss_ret (e_and_t (e_call (eC (eL (i := 7) rfl) (eC (eL (i := 8) rfl) (eC (eL (i := 3) rfl) (eC (eL (i := 13) rfl) eN)))) (phi39.trans e39)) rfl (e_call (eC (eL (i := 7) rfl) (eC esf2 (eC (eL (i := 3) rfl) (eC (e_tup (eC eI (eC eI (eC eI (eC eI eN)))) (lb rfl)) eN)))) (phi39.trans e39b))))))))
end
noncomputable def shG : Nat -> Geo
 | 0 => geo23
 | 1 => geo24
 | 2 => geo33
 | 3 => geo43
 | 4 => geo34
 | _ => geo25
noncomputable def shT : Nat -> Hp
 | 0 => geoT23
 | 1 => geoT24
 | 2 => geoT33
 | 3 => geoT43
 | 4 => geoT34
 | _ => geoT25
noncomputable def shL : Hp := [.tup [.int 2, .int 3], .tup [.int 2, .int 4], .tup [.int 3, .int 3], .tup [.int 4, .int 3], .tup [.int 3, .int 4], .tup [.int 2, .int 5], .list [.ref 2, .ref 3, .ref 4, .ref 5, .ref 6, .ref 7]]
noncomputable def kdO : O := .list [.int 4, .int 5, .int 3, .int 2]
noncomputable def HH (xs : List Int) (a : Nat) (r : Hp) : Hp := .list (xs.map .int) :: .list [.ref 0, .int (a : Nat)] :: r
theorem six {i : Nat} (h : i < 6) : i = 0 \/ i = 1 \/ i = 2 \/ i = 3 \/ i = 4 \/ i = 5 := by lia
theorem shG_one {i : Nat} (h : i < 6) : shG i = geo23 \/ shG i = geo24 \/ shG i = geo33 \/ shG i = geo43 \/ shG i = geo34 \/ shG i = geo25 := by
 rcases six h with rfl | rfl | rfl | rfl | rfl | rfl <;> simp [shG]
theorem shG_z {i : Nat} (h : i < 6) : 6 <= (shG i).z /\ (shG i).z <= 12 /\ ((shG i).z = 6 -> (shG i).full = 63) := by
 rcases six h with rfl | rfl | rfl | rfl | rfl | rfl <;> refine ⟨by decide, by decide, ?_⟩
 · intro _; rfl
 all_goals exact fun h => absurd h (by decide)
theorem geo_i (ns xs : List Int) (a : Nat) (zo : O) {i : Nat} (h : i < 6) : Phi (gobj ns) 11 7 [.int (shG i).F, .int (shG i).R, .bool false, .bool false] (HH xs a (shL ++ [kdO, zo])) = some (.ref 12, HH xs a (shL ++ [kdO, zo]) ++ shT i) := by
 rcases six h with rfl | rfl | rfl | rfl | rfl | rfl <;> kernel_rfl
theorem rays_of {σ : Hp} {bs : List V} {rays : List (List Int)} (hl : rays.length = 8) (h : ∀ d, d < 8 -> ∃ row, rays[d]? = some row /\ ∃ b, bs[d]? = some (.ref b) /\ σ[b]? = some (.list (row.map .int))) : ∀ (d : Nat) (row : List Int), rays[d]? = some row -> ∃ b, bs[d]? = some (.ref b) /\ σ[b]? = some (.list (row.map .int)) := by
 intro d row q
 have hd : d < 8 := by rw [<- hl]; exact (gsm q).1
 refine cps fun _ zk => ?_
 refine x1_2 (h d hd) fun row' h1 y1 => ?_
 refine x1_2 y1 fun b h2 h3 => ?_
 rw [q] at h1
 refine zk ?_; clear zk
 cases h1
 exact i1_2 b h2 h3
theorem eight {P : Nat -> Prop} (h0 : P 0) (h1 : P 1) (h2 : P 2) (h3 : P 3) (h4 : P 4) (h5 : P 5) (h6 : P 6) (h7 : P 7) : ∀ d, d < 8 -> P d := by
 intro d hd
 have : d = 0 \/ d = 1 \/ d = 2 \/ d = 3 \/ d = 4 \/ d = 5 \/ d = 6 \/ d = 7 := by lia
 rcases this with rfl | rfl | rfl | rfl | rfl | rfl | rfl | rfl <;> assumption
theorem geo_at (xs : List Int) (a : Nat) (zo : O) {i : Nat} (h : i < 6) : GeoAt (HH xs a (shL ++ [kdO, zo]) ++ shT i) (.ref 12) (shG i) := by
 rcases six h with rfl | rfl | rfl | rfl | rfl | rfl <;>
  exact ⟨rfl, rfl, i1_2 _ rfl rfl, i1_2 _ rfl rfl, i2_3 _ _ rfl rfl (rays_of rfl (eight (i1_2 _ rfl (i1_2 _ rfl rfl)) (i1_2 _ rfl (i1_2 _ rfl rfl)) (i1_2 _ rfl (i1_2 _ rfl rfl)) (i1_2 _ rfl (i1_2 _ rfl rfl)) (i1_2 _ rfl (i1_2 _ rfl rfl)) (i1_2 _ rfl (i1_2 _ rfl rfl)) (i1_2 _ rfl (i1_2 _ rfl rfl)) (i1_2 _ rfl (i1_2 _ rfl rfl))))⟩
theorem shape_i (ns xs : List Int) (a : Nat) (r : Hp) {i : Nat} (h : i < 6) : ShapeAt (gobj ns) (HH xs a (shL ++ r)) (.ref (2 + i)) (shG i).F (shG i).R := by
 rcases six h with rfl | rfl | rfl | rfl | rfl | rfl <;> exact ⟨rfl, by decide, by decide, by decide, by decide⟩
theorem tk_hh {ns xs : List Int} {a : Nat} {r : Hp} {k : Int} (hx : xs.length <= 100) (ha : a < 900) (hk : 0 < k) : Phi (gobj ns) 11 25 [.ref 1, .int k] (HH xs a r) = some (.int (takeV xs a k), HH xs (a + 1) r) :=
 sp_take (ns := ns) (n := 10) (t := 1) (sl := 0) (xs := xs) (at_ := a) ⟨rfl, rfl, by decide, hx, by lia⟩ hk
noncomputable def lw0 (ns : List Int) (u1 u2 u3 u4 u5 u6 : Option V) : Frm := [some (.gref 20), u1, u2, u3, u4, u5, u6, none, none, none, none, none, none, none]
theorem lw_start (ns : List Int) (hns : ns.length <= 63) : ∃ (i k : Nat) (zl : List Int) (more : Int), i < 6 /\ (k = 2 \/ k = 3 \/ k = 4 \/ k = 5) /\ zl ≠ [] /\ zl.length < 10 /\ (∀ s ∈ zl, 0 <= s /\ s < (shG i).z) /\ ZoneOk (shG i) (maskZ zl) zl /\
 ∀ (r : Ss) (res : Option (Fl × Frm × Hp)), execSs (gobj ns) (Phi (gobj ns) 11) r (lwFrm (.gref 20) (.ref (2 + i)) k (shG i).z (.ref 10) more (.ref 12) none none none none none none) (HH (ns.take 20) 4 (shL ++ [kdO, .list (zl.map .int)]) ++ shT i) = res ->
   execSs (gobj ns) (Phi (gobj ns) 11) (.cons (.asg 1 (.list (.cons (.sto (.loc 0) (.lit (.int 20))) (.cons (.lit (.int 0)) .nil))))
 (.cons (.asg 2 (.idx (.call 24 .nil) (.call 25 (.cons (.loc 1) (.cons (.lit (.int 6)) .nil)))))
 (.cons (.asg 3 (.idx (.list (.cons (.lit (.int 4)) (.cons (.lit (.int 5)) (.cons (.lit (.int 3)) (.cons (.lit (.int 2)) .nil))))) (.call 25 (.cons (.loc 1) (.cons (.lit (.int 4)) .nil)))))
 (.cons (.asg 4 (.bin .mul (.idx (.loc 2) (.lit (.int 0))) (.idx (.loc 2) (.lit (.int 1)))))
 (.cons (.asg 5 (.list (.cons (.call 25 (.cons (.loc 1) (.cons (.loc 4) .nil))) .nil)))
 (.cons (.asg 6 (.call 25 (.cons (.loc 1) (.cons (.bin .mul (.lit (.int 2)) (.loc 4)) .nil))))
 (.cons (.ife (.and (.cmp .lt (.loc 4) (.lit (.int 10))) (.and (.cmp .lt (.loc 6) (.loc 4)) (.cmp .ne (.loc 6) (.idx (.loc 5) (.lit (.int 0)))))) (.cons (.expr (.append (.loc 5) (.loc 6)))
 .nil) .nil)
 (.cons (.asg 7 (.call 7 (.cons (.idx (.loc 2) (.lit (.int 0))) (.cons (.idx (.loc 2) (.lit (.int 1))) (.cons (.lit (.bool false)) (.cons (.lit (.bool false)) .nil)))))) r)))))))) (lw0 ns none none none none none none) [] = res := by
 generalize hxs : ns.take 20 = xs
 have hxl : xs.length <= 100 := by rw [<- hxs, List.length_take]; lia
 have g20 : getO (gobj ns) [] (.gref 20) = some (.list (ns.map .int)) := rfl
 have st1 : execS (gobj ns) (Phi (gobj ns) 11) (.asg 1 (.list (.cons (.sto (.loc 0) (.lit (.int 20))) (.cons (.lit (.int 0)) .nil)))) (lw0 ns none none none none none none) [] = some (.next, lw0 ns (some (.ref 1)) none none none none none, HH xs 0 []) := by
  have e1 : sto (gobj ns) [] (.gref 20) (.int 20) = some (.ref 0, [O.list ((ns.map V.int).take 20)]) := by
   unfold sto
   simp only [g20]
   rw [if_pos ⟨by decide, by decide, by rw [List.length_map]; lia⟩]
   rfl
  have e2 : vE (gobj ns) (Phi (gobj ns) 11) (.sto (.loc 0) (.lit (.int 20))) (lw0 ns none none none none none none) [] = some (.ref 0, [O.list ((ns.map V.int).take 20)]) := by
   have h0 : slot? (lw0 ns none none none none none none) 0 = some (.gref 20) := rfl
   exact e_sto (eL rfl) eI e1
  rw [<- List.map_take, hxs] at e2
  exact sA (e_list (eC e2 (eC eI eN)) (lb rfl)) (lb rfl)
 -- the shape
 have t2 := takeV_range (xs := xs) (at_ := 0) (k := 6) (by decide)
 refine x1_2 (natOf t2) fun i hi hi6 => ?_
 have hi6 : i < 6 := by lia
 have e24 : Phi (gobj ns) 11 24 [] (HH xs 0 []) = some (.ref 8, HH xs 0 shL) := by kernel_rfl
 have x2 : idx (gobj ns) (HH xs 1 shL) (.ref 8) (.int (takeV xs 0 6)) = some (.ref (2 + i)) := by
  rw [hi]
  refine idx_list (xs := [.ref 2, .ref 3, .ref 4, .ref 5, .ref 6, .ref 7]) rfl ?_ (by lia)
  rcases six hi6 with rfl | rfl | rfl | rfl | rfl | rfl <;> rfl
 have st2 : execS (gobj ns) (Phi (gobj ns) 11) (.asg 2 (.idx (.call 24 .nil) (.call 25 (.cons (.loc 1) (.cons (.lit (.int 6)) .nil))))) (lw0 ns (some (.ref 1)) none none none none none) (HH xs 0 []) = some (.next, lw0 ns (some (.ref 1)) (some (.ref (2 + i))) none none none none, HH xs 1 shL) :=
  sA (eX (e_call eN e24) (e_call (eC (eL (i := 1) rfl) (eC eI eN)) (tk_hh hxl (by decide) (by decide))) x2) (lb rfl)
 -- the kind
 have t3 := takeV_range (xs := xs) (at_ := 1) (k := 4) (by decide)
 refine cps fun _ zk => ?_
 refine x1_2 (natOf t3) fun j hj hj4 => ?_
 refine x1_2 (by
  rw [hj]
  have : j = 0 \/ j = 1 \/ j = 2 \/ j = 3 := by lia
  rcases this with rfl | rfl | rfl | rfl
  · exact i1_2 4 (by decide) (idx_list (xs := [.int 4, .int 5, .int 3, .int 2]) rfl rfl (by decide))
  · exact i1_2 5 (by decide) (idx_list (xs := [.int 4, .int 5, .int 3, .int 2]) rfl rfl (by decide))
  · exact i1_2 3 (by decide) (idx_list (xs := [.int 4, .int 5, .int 3, .int 2]) rfl rfl (by decide))
  · exact i1_2 2 (by decide) (idx_list (xs := [.int 4, .int 5, .int 3, .int 2]) rfl rfl (by decide)) : ∃ k : Nat, (k = 2 \/ k = 3 \/ k = 4 \/ k = 5) /\ idx (gobj ns) (HH xs 2 (shL ++ [kdO])) (.ref 9) (.int (takeV xs 1 4)) = some (.int (k : Nat))) fun k hk xk => ?_
 have st3 : execS (gobj ns) (Phi (gobj ns) 11) (.asg 3 (.idx (.list (.cons (.lit (.int 4)) (.cons (.lit (.int 5)) (.cons (.lit (.int 3)) (.cons (.lit (.int 2)) .nil))))) (.call 25 (.cons (.loc 1) (.cons (.lit (.int 4)) .nil))))) (lw0 ns (some (.ref 1)) (some (.ref (2 + i))) none none none none) (HH xs 1 shL) = some (.next, lw0 ns (some (.ref 1)) (some (.ref (2 + i))) (some (.int (k : Nat))) none none none, HH xs 2 (shL ++ [kdO])) :=
  sA (eX (e_list (eC eI (eC eI (eC eI (eC eI eN)))) (lb rfl)) (e_call (eC (eL (i := 1) rfl) (eC eI eN)) (tk_hh (r := shL ++ [kdO]) hxl (by decide) (by decide))) xk) (lb rfl)
 refine zk ?_; clear zk
 -- the size
 refine x0_3 (shG_z hi6) fun hz6 hz12 _ => ?_
 have S3 := shape_i ns xs 2 [kdO] hi6
 have hF := S3.F1
 have hF2 := S3.F2
 have hR := S3.R1
 have hR2 := S3.R2
 have hzz : ((shG i).F : Int) * (shG i).R = ((shG i).z : Nat) := by simp [Geo.z]
 have st4 : execS (gobj ns) (Phi (gobj ns) 11) (.asg 4 (.bin .mul (.idx (.loc 2) (.lit (.int 0))) (.idx (.loc 2) (.lit (.int 1))))) (lw0 ns (some (.ref 1)) (some (.ref (2 + i))) (some (.int (k : Nat))) none none none) (HH xs 2 (shL ++ [kdO])) = some (.next, lw0 ns (some (.ref 1)) (some (.ref (2 + i))) (some (.int (k : Nat))) (some (.int ((shG i).z : Nat))) none none, HH xs 2 (shL ++ [kdO])) := by
  rw [<- hzz]
  exact sA (e_bin (S3.e0 (i := 2) rfl) (S3.e1 (i := 2) rfl) (ar_mul (by lia) (by lia))) (lb rfl)
 -- the squares
 have t5 := takeV_range (xs := xs) (at_ := 2) (k := ((shG i).z : Nat)) (by lia)
 have e5 := tk_hh (ns := ns) (xs := xs) (a := 2) (r := shL ++ [kdO]) (k := ((shG i).z : Nat)) hxl (by decide) (by lia)
 generalize takeV xs 2 ((shG i).z : Nat) = z0 at t5 e5
 have st5 : execS (gobj ns) (Phi (gobj ns) 11) (.asg 5 (.list (.cons (.call 25 (.cons (.loc 1) (.cons (.loc 4) .nil))) .nil))) (lw0 ns (some (.ref 1)) (some (.ref (2 + i))) (some (.int (k : Nat))) (some (.int ((shG i).z : Nat))) none none) (HH xs 2 (shL ++ [kdO])) = some (.next, lw0 ns (some (.ref 1)) (some (.ref (2 + i))) (some (.int (k : Nat))) (some (.int ((shG i).z : Nat))) (some (.ref 10)) none, HH xs 3 (shL ++ [kdO, .list [.int z0]])) :=
  sA (e_list (eC (e_call (eC (eL (i := 1) rfl) (eC (eL (i := 4) rfl) eN)) e5) eN) (lb rfl)) (lb rfl)
 have t6 := takeV_range (xs := xs) (at_ := 3) (k := 2 * ((shG i).z : Nat)) (by lia)
 have e6 := tk_hh (ns := ns) (xs := xs) (a := 3) (r := shL ++ [kdO, .list [.int z0]]) (k := 2 * ((shG i).z : Nat)) hxl (by decide) (by lia)
 generalize takeV xs 3 (2 * ((shG i).z : Nat)) = more at t6 e6
 have st6 : execS (gobj ns) (Phi (gobj ns) 11) (.asg 6 (.call 25 (.cons (.loc 1) (.cons (.bin .mul (.lit (.int 2)) (.loc 4)) .nil)))) (lw0 ns (some (.ref 1)) (some (.ref (2 + i))) (some (.int (k : Nat))) (some (.int ((shG i).z : Nat))) (some (.ref 10)) none) (HH xs 3 (shL ++ [kdO, .list [.int z0]])) = some (.next, lw0 ns (some (.ref 1)) (some (.ref (2 + i))) (some (.int (k : Nat))) (some (.int ((shG i).z : Nat))) (some (.ref 10)) (some (.int more)), HH xs 4 (shL ++ [kdO, .list [.int z0]])) :=
  sA (e_call (eC (eL (i := 1) rfl) (eC (e_bin eI (eL (i := 4) rfl) (ar_mul (by decide) (by lia))) eN)) e6) (lb rfl)
 have c7 : vE (gobj ns) (Phi (gobj ns) 11) (.and (.cmp .lt (.loc 4) (.lit (.int 10))) (.and (.cmp .lt (.loc 6) (.loc 4)) (.cmp .ne (.loc 6) (.idx (.loc 5) (.lit (.int 0)))))) (lw0 ns (some (.ref 1)) (some (.ref (2 + i))) (some (.int (k : Nat))) (some (.int ((shG i).z : Nat))) (some (.ref 10)) (some (.int more))) (HH xs 4 (shL ++ [kdO, .list [.int z0]])) = some (.bool (decide (((shG i).z : Int) < 10) && (decide (more < ((shG i).z : Int)) && decide (more ≠ z0))), HH xs 4 (shL ++ [kdO, .list [.int z0]])) :=
  e_and_b (e_cmp (eL rfl) eI cmp_ltI) (e_and_b (e_cmp (eL rfl) (eL rfl) cmp_ltI) (e_cmp (eL rfl) (eX (eL rfl) eI (idx_list (i := 0) (xs := [.int z0]) rfl rfl (by decide))) cmp_neI))
 -- one square or two
 have g7 : ∃ zl : List Int, zl ≠ [] /\ zl.length < 10 /\ (∀ s ∈ zl, 0 <= s /\ s < (shG i).z) /\ ZoneOk (shG i) (maskZ zl) zl /\
  execS (gobj ns) (Phi (gobj ns) 11) (.ife (.and (.cmp .lt (.loc 4) (.lit (.int 10))) (.and (.cmp .lt (.loc 6) (.loc 4)) (.cmp .ne (.loc 6) (.idx (.loc 5) (.lit (.int 0)))))) (.cons (.expr (.append (.loc 5) (.loc 6))) .nil) .nil) (lw0 ns (some (.ref 1)) (some (.ref (2 + i))) (some (.int (k : Nat))) (some (.int ((shG i).z : Nat))) (some (.ref 10)) (some (.int more))) (HH xs 4 (shL ++ [kdO, .list [.int z0]])) =
   some (.next, lw0 ns (some (.ref 1)) (some (.ref (2 + i))) (some (.int (k : Nat))) (some (.int ((shG i).z : Nat))) (some (.ref 10)) (some (.int more)), HH xs 4 (shL ++ [kdO, .list (zl.map .int)])) := by
  by_cases h : ((shG i).z : Int) < 10 /\ more < ((shG i).z : Int) /\ more ≠ z0
  · rw [decide_eq_true h.1, decide_eq_true h.2.1, decide_eq_true h.2.2] at c7
    refine i1_5 ([z0, more]) (by simp) (by simp) ?_ (zone_two hz12 t5 ⟨t6.1, h.2.1⟩ (Ne.symm h.2.2)) ?_
    · intro s hs
      simp at hs
      lia
    · exact s_if_t c7 rfl (sC (s_expr (e_append (eL rfl) ⟨[.int z0], rfl⟩ (eL rfl) (xs := [.int z0]) rfl (by simp))) sN)
  · have hc : (decide (((shG i).z : Int) < 10) && (decide (more < ((shG i).z : Int)) && decide (more ≠ z0))) = false := by
     cases q : (decide (((shG i).z : Int) < 10) && (decide (more < ((shG i).z : Int)) && decide (more ≠ z0))) with
     | false => rfl
     | true => exact absurd (by simpa using q) h
    rw [hc] at c7
    refine i1_5 ([z0]) (by simp) (by simp) ?_ (zone_one hz12 t5) (s_if_f c7 rfl sN)
    intro s hs
    simp at hs
    lia
 refine x1_5 g7 fun zl h1 h2 h3 h4 st7 => ?_
 clear g7
 have S7 := shape_i ns xs 4 [kdO, .list (zl.map .int)] hi6
 refine i4_1 i k zl more ⟨hi6, hk, h1, h2, h3, h4, (fun r res hres => sC st1 (sC st2 (sC st3 (sC st4 (sC st5 (sC st6 (sC st7 (sC (sA (e_call (eC (S7.e0 (i := 2) rfl) (eC (S7.e1 (i := 2) rfl) (eC eI (eC eI eN)))) (geo_i ns xs 4 _ hi6)) (lb rfl)) hres))))))))⟩
theorem law_true (ns : List Int) (hns : ns.length <= 63) : ∃ σ', Phi (gobj ns) 12 36 [.gref 20] [] = some (.bool true, σ') := by
 refine cps fun _ zk => ?_
 refine x4_1 (lw_start ns hns) fun i k zl more zq => x0_7 zq fun hi hk h1 h2 h3 h4 run => ?_
 refine x0_3 (shG_z hi) fun hz6 hz12 hfull => ?_
 have H := facts_all (shG_one hi) hk
 have hk2 : 2 <= k /\ k <= 5 := by lia
 have GA := geo_at (ns.take 20) 4 (.list (zl.map .int)) hi
 have hxl : (ns.take 20).length <= 100 := by rw [List.length_take]; lia
 have T0 : Tp (HH (ns.take 20) 4 (shL ++ [kdO, .list (zl.map .int)]) ++ shT i) (ns.take 20) 4 := ⟨rfl, rfl, by decide, hxl, by decide⟩
 have S0 := (shape_i ns (ns.take 20) 4 [kdO, .list (zl.map .int)] hi).pre (pfa _ (shT i))
 have Z0 : IntsAt (gobj ns) (HH (ns.take 20) 4 (shL ++ [kdO, .list (zl.map .int)]) ++ shT i) (.ref 10) zl := rfl
 generalize HH (ns.take 20) 4 (shL ++ [kdO, .list (zl.map .int)]) ++ shT i = σ at *
 refine x5_1 (lw_build (ns := ns) (n := 1) (script := .gref 20) (shape := .ref (2 + i)) (more := more) H GA hk2 hfull hz6 Z0 h1 h2 h3 h4) fun zone' zl' t T σ1 zq => x0_8 zq fun e1 p1 Z1 q1 q2 q3 TA hR => ?_
 have T1 := T0.pre p1
 have X1 : LwAt σ1 (gobj ns) (.ref 12) (.ref (2 + i)) zone' t (shG i) zl' T := ⟨GA.pre p1, S0.pre p1, Z1, TA⟩
 refine x2_3 (lw_loop (script := .gref 20) (more := more) H.W hz6 hk2 X1 T1 (by decide) q1 q2 q3 hR) fun u9 σ2 e2 K2 T2 => ?_
 have X2 := X1.kp H.W K2
 refine x3_4 (lw_other (script := .gref 20) (more := more) (k := k) (u9 := u9) H.W X2 T2 (by decide)) fun o σ3 σ4 e3 e4 K4 T4 => ?_
 have X4 := X2.kp H.W K4
 refine x2_1 (lw_end (script := .gref 20) (more := more) (u9 := u9) (u10 := some (.int o)) H.W hk2 hz6 X4 T4 (by decide) hR) fun fr σ5 e5 => ?_
 refine zk ?_; clear zk
 exact ⟨σ5, (phi_eq (fn := f_law) rfl _ _).trans (run_ret (m := lw0 ns none none none none none none) rfl rfl (run _ _ (sC e1 (sC e2 (sC e3 (sC e4 e5))))))⟩
end MineP
end
theorem PySem.Challenge.cw_nt0439_01_holds : PySem.Challenge.rw_nt0439_01.Holds :=
  Mine.holds_of MineP.law_true
