import PyProof.Rows.All
import Wide.All
import OpenK.KCell
import Wide.FinOn
import Open.Seg
import Open.Boot
import Lean
import PySem.Challenge.RW_pf0100_01
open PySem PySem.W PyProof.Rows PySem.Calls
set_option Elab.async false
set_option linter.unusedVariables false
set_option linter.unusedSimpArgs false
set_option maxRecDepth 100000
set_option maxHeartbeats 8000000
set_option compiler.extract_closed false
set_option bootstrap.genMatcherCode false
open PySem PySem.W PyProof.Rows
namespace Mine.Internal
noncomputable def kh (P : Params) (s : String) (t : Nat) (v : Value) : DictEntry := ⟨PyData.keyHash P (Str.ofString s), .str (Str.ofString s) t, v⟩
noncomputable def kc (a : Nat) (n q : String) (t l np tt : Nat) (b : Bool) : Obj := ⟨.type "code", none, .fields (#[.str (Str.ofString n) t, .str (Str.ofString q) (t + 1), .str (Str.ofString "/claim/cut.py") (t + 2), .int l 0, .int np 0, .int 0 0, .int 0 0, .int 3 0, .ref (match b with | true => a - 5 | false => a - 3), .bool true, .int 181 0, .ref (match b with | true => a - 4 | false => a - 2), .none, match b with | true => .ref (a - 3) | false => .none, match b with | true => .ref (a - 2) | false => .none, .ref (a - 1), .int tt 0, .int l 0, .str (Str.ofString "/claim/cut.py") (tt + 1)]), #[]⟩
noncomputable def kDef (n : String) : Option (Arguments × List Stmt × Scope) := PySem.Challenge.pw_pf0100_01.theDef (Str.ofString n)
noncomputable def kInit : Option (Arguments × List Stmt × Scope) := match PySem.Challenge.pw_pf0100_01.main.body.filterMap (fun st => match st with | .ClassDef n _ _ b .. => if n == Str.ofString "Geometry" then some b else none | _ => none) with
  | [b] => theDefIn b (Str.ofString "__init__")
  | _ => none
noncomputable def kf (d : Option (Arguments × List Stmt × Scope)) (n q m : String) (t c : Nat) : Obj := match d with
  | some (ps, b, sc) => ⟨.type "function", none, .func { name := Str.ofString n, qualname := Str.ofString q, params := ps, body := .stmts b, scope := sc, globals := 3, closure := [], defaults := .none, kwdefaults := .none, pyModule := .str (Str.ofString m) t, code := .ref c }, #[]⟩
  | none => ⟨.none, none, .cell none, #[]⟩
noncomputable def kHeap (P : Params) : Frag := [
  (3, ⟨.type "dict", none, .dict #[kh P "__name__" 165 (.str (Str.ofString "law_pf0100_01") 657), kh P "__doc__" 166 .none, kh P "__package__" 167 .none, kh P "__loader__" 168 (.builtin "__main__.__loader__#opaque"), kh P "__spec__" 169 .none, kh P "__annotations__" 170 (.ref 6), kh P "__builtins__" 171 (.ref 4), kh P "__file__" 173 (.str (Str.ofString "/claim/cut.py") 172), kh P "__cached__" 174 .none, kh P "ChessError" 217 (.ref 31), kh P "BadTable" 233 (.ref 44), kh P "WHITE" 235 (.int 0 234), kh P "PAWN" 237 (.int 1 236), kh P "KNIGHT" 239 (.int 2 238), kh P "BISHOP" 241 (.int 3 240), kh P "ROOK" 243 (.int 4 242), kh P "QUEEN" 245 (.int 5 244), kh P "KING" 247 (.int 6 246), kh P "STEP_FILES" 261 (.ref 47), kh P "STEP_RANKS" 273 (.ref 48), kh P "Geometry" 318 (.ref 65), kh P "is_growing" 325 (.ref 76), kh P "add_masks" 336 (.ref 83), kh P "inner_squares" 345 (.ref 90), kh P "add_rays" 359 (.ref 97), kh P "add_pawns" 367 (.ref 104), kh P "add_knights" 384 (.ref 111), kh P "add_castles" 397 (.ref 118), kh P "make_geometry" 408 (.ref 125), kh P "ray_attacks" 423 (.ref 132), kh P "rook_attacks" 434 (.ref 139), kh P "bishop_attacks" 445 (.ref 146), kh P "queen_attacks" 454 (.ref 153), kh P "slider_attacks" 464 (.ref 160), kh P "piece_attacks" 475 (.ref 167), kh P "NOT_A_PLACE" 480 (.int (-2) 479), kh P "NO_MATE" 483 (.int (-1) 482), kh P "OUTSIDE" 486 (.int (-1) 485), kh P "STRONG_MOVES" 488 (.int 0 487), kh P "WEAK_MOVES" 490 (.int 1 489), kh P "solve" 496 (.ref 172), kh P "index_of" 507 (.ref 179), kh P "parts_of" 515 (.ref 186), kh P "mark_places" 533 (.ref 193), kh P "weak_moves" 548 (.ref 200), kh P "strong_moves" 565 (.ref 207), kh P "moves_at" 578 (.ref 214), kh P "build_zone" 605 (.ref 221), kh P "probe" 620 (.ref 228), kh P "best_move" 639 (.ref 235), kh P "mate_line" 656 (.ref 242), kh P "_law_figure" 666 (.ref 249), kh P "_law_corner" 674 (.ref 256), kh P "_law_reached" 694 (.ref 263), kh P "_law_round" 700 (.ref 268), kh P "_law_told" 708 (.ref 275), kh P "_law_choices" 722 (.ref 282), kh P "_law_pick" 728 (.ref 287), kh P "_law_right" 742 (.ref 294), kh P "_law_place" 750 (.ref 301), kh P "law" 756 (.ref 306)] 61, #[]⟩),
  (47, ⟨.type "tuple", none, .seq #[.int 0 250, .int 1 251, .int 0 252, .int (-1) 254, .int 1 255, .int 1 256, .int (-1) 258, .int (-1) 260] 0, #[]⟩),
  (48, ⟨.type "tuple", none, .seq #[.int 1 262, .int 0 263, .int (-1) 265, .int 0 266, .int 1 267, .int (-1) 269, .int (-1) 271, .int 1 272] 0, #[]⟩),
  (61, kc 61 "__init__" "Geometry.__init__" 286 21 5 294 true),
  (62, kf kInit "__init__" "Geometry.__init__" "chess.geometry" 248 61),
  (64, ⟨.type "dict", none, .dict #[kh P "__module__" 281 (.str (Str.ofString "chess.geometry") 248), kh P "__firstlineno__" 285 (.int 19 284), kh P "__init__" 296 (.ref 62), kh P "__static_attributes__" 311 (.ref 63), kh P "__dict__" 313 (.ref 66), kh P "__weakref__" 315 (.ref 67), kh P "__doc__" 316 (.none)] 4, #[]⟩),
  (65, ⟨.type "type", none, .cls { name := Str.ofString "Geometry", bases := [.type "object"], mro := [.ref 65, .type "object"], ns := 64, qualname := Str.ofString "Geometry" }, #[none, none, some (.str (Str.ofString "Geometry") 274), some (.str (Str.ofString "Geometry") 282), some (.builtin "object.__new__"), some (.bool true)]⟩),
  (66, ⟨.type "getset_descriptor", none, .fields #[.str (Str.ofString "__dict__") 312, .ref 65, .builtin "function.__dict__", .builtin "function.__dict__#set"], #[]⟩),
  (67, ⟨.type "getset_descriptor", none, .fields #[.str (Str.ofString "__weakref__") 314, .ref 65, .builtin "ExceptionGroup.__weakref__", .none], #[]⟩),
  (75, kc 75 "is_growing" "is_growing" 319 36 1 323 true),
  (76, kf (kDef "is_growing") "is_growing" "is_growing" "chess.geometry" 248 75),
  (82, kc 82 "add_masks" "add_masks" 326 38 1 334 true),
  (83, kf (kDef "add_masks") "add_masks" "add_masks" "chess.geometry" 248 82),
  (89, kc 89 "inner_squares" "inner_squares" 337 46 2 343 true),
  (90, kf (kDef "inner_squares") "inner_squares" "inner_squares" "chess.geometry" 248 89),
  (96, kc 96 "add_rays" "add_rays" 346 57 1 357 true),
  (97, kf (kDef "add_rays") "add_rays" "add_rays" "chess.geometry" 248 96),
  (103, kc 103 "add_pawns" "add_pawns" 360 72 1 365 true),
  (104, kf (kDef "add_pawns") "add_pawns" "add_pawns" "chess.geometry" 248 103),
  (110, kc 110 "add_knights" "add_knights" 368 76 1 382 true),
  (111, kf (kDef "add_knights") "add_knights" "add_knights" "chess.geometry" 248 110),
  (117, kc 117 "add_castles" "add_castles" 385 88 1 395 true),
  (118, kf (kDef "add_castles") "add_castles" "add_castles" "chess.geometry" 248 117),
  (124, kc 124 "make_geometry" "make_geometry" 398 105 4 406 true),
  (125, kf (kDef "make_geometry") "make_geometry" "make_geometry" "chess.geometry" 248 124),
  (131, kc 131 "ray_attacks" "ray_attacks" 411 116 4 421 true),
  (132, kf (kDef "ray_attacks") "ray_attacks" "ray_attacks" "chess.sliders" 409 131),
  (138, kc 138 "rook_attacks" "rook_attacks" 424 131 3 432 true),
  (139, kf (kDef "rook_attacks") "rook_attacks" "rook_attacks" "chess.sliders" 409 138),
  (145, kc 145 "bishop_attacks" "bishop_attacks" 435 136 3 443 true),
  (146, kf (kDef "bishop_attacks") "bishop_attacks" "bishop_attacks" "chess.sliders" 409 145),
  (152, kc 152 "queen_attacks" "queen_attacks" 446 141 3 452 true),
  (153, kf (kDef "queen_attacks") "queen_attacks" "queen_attacks" "chess.sliders" 409 152),
  (159, kc 159 "slider_attacks" "slider_attacks" 455 143 4 462 true),
  (160, kf (kDef "slider_attacks") "slider_attacks" "slider_attacks" "chess.sliders" 409 159),
  (166, kc 166 "piece_attacks" "piece_attacks" 465 151 5 473 true),
  (167, kf (kDef "piece_attacks") "piece_attacks" "piece_attacks" "chess.sliders" 409 166),
  (171, kc 171 "solve" "solve" 491 165 3 494 false),
  (172, kf (kDef "solve") "solve" "solve" "chess.retro" 476 171),
  (178, kc 178 "index_of" "index_of" 497 188 5 505 true),
  (179, kf (kDef "index_of") "index_of" "index_of" "chess.retro" 476 178),
  (185, kc 185 "parts_of" "parts_of" 508 190 2 513 true),
  (186, kf (kDef "parts_of") "parts_of" "parts_of" "chess.retro" 476 185),
  (192, kc 192 "mark_places" "mark_places" 516 192 4 531 true),
  (193, kf (kDef "mark_places") "mark_places" "mark_places" "chess.retro" 476 192),
  (199, kc 199 "weak_moves" "weak_moves" 534 209 5 546 true),
  (200, kf (kDef "weak_moves") "weak_moves" "weak_moves" "chess.retro" 476 199),
  (206, kc 206 "strong_moves" "strong_moves" 549 223 6 563 true),
  (207, kf (kDef "strong_moves") "strong_moves" "strong_moves" "chess.retro" 476 206),
  (213, kc 213 "moves_at" "moves_at" 566 238 7 576 true),
  (214, kf (kDef "moves_at") "moves_at" "moves_at" "chess.retro" 476 213),
  (220, kc 220 "build_zone" "build_zone" 579 242 3 603 true),
  (221, kf (kDef "build_zone") "build_zone" "build_zone" "chess.retro" 476 220),
  (227, kc 227 "probe" "probe" 606 266 7 618 true),
  (228, kf (kDef "probe") "probe" "probe" "chess.retro" 476 227),
  (234, kc 234 "best_move" "best_move" 621 278 7 637 true),
  (235, kf (kDef "best_move") "best_move" "best_move" "chess.retro" 476 234),
  (241, kc 241 "mate_line" "mate_line" 640 293 7 654 true),
  (242, kf (kDef "mate_line") "mate_line" "mate_line" "chess.retro" 476 241),
  (248, kc 248 "_law_figure" "_law_figure" 659 309 2 664 true),
  (249, kf (kDef "_law_figure") "_law_figure" "_law_figure" "law_pf0100_01" 657 248),
  (255, kc 255 "_law_corner" "_law_corner" 667 311 2 672 true),
  (256, kf (kDef "_law_corner") "_law_corner" "_law_corner" "law_pf0100_01" 657 255),
  (262, kc 262 "_law_reached" "_law_reached" 675 313 5 692 true),
  (263, kf (kDef "_law_reached") "_law_reached" "_law_reached" "law_pf0100_01" 657 262),
  (267, kc 267 "_law_round" "_law_round" 695 333 3 698 false),
  (268, kf (kDef "_law_round") "_law_round" "_law_round" "law_pf0100_01" 657 267),
  (274, kc 274 "_law_told" "_law_told" 701 337 2 706 true),
  (275, kf (kDef "_law_told") "_law_told" "_law_told" "law_pf0100_01" 657 274),
  (281, kc 281 "_law_choices" "_law_choices" 709 339 2 720 true),
  (282, kf (kDef "_law_choices") "_law_choices" "_law_choices" "law_pf0100_01" 657 281),
  (286, kc 286 "_law_pick" "_law_pick" 723 356 2 726 false),
  (287, kf (kDef "_law_pick") "_law_pick" "_law_pick" "law_pf0100_01" 657 286),
  (293, kc 293 "_law_right" "_law_right" 729 366 2 740 true),
  (294, kf (kDef "_law_right") "_law_right" "_law_right" "law_pf0100_01" 657 293),
  (300, kc 300 "_law_place" "_law_place" 743 381 2 748 true),
  (301, kf (kDef "_law_place") "_law_place" "_law_place" "law_pf0100_01" 657 300),
  (305, kc 305 "law" "law" 751 383 1 754 false),
  (306, kf (kDef "law") "law" "law" "law_pf0100_01" 657 305)]
noncomputable def kAs : List Nat := [3, 47, 48, 61, 62, 64, 65, 66, 67, 75, 76, 82, 83, 89, 90, 96, 97, 103, 104, 110, 111, 117, 118, 124, 125, 131, 132, 138, 139, 145, 146, 152, 153, 159, 160, 166, 167, 171, 172, 178, 179, 185, 186, 192, 193, 199, 200, 206, 207, 213, 214, 220, 221, 227, 228, 234, 235, 241, 242, 248, 249, 255, 256, 262, 263, 267, 268, 274, 275, 281, 282, 286, 287, 293, 294, 300, 301, 305, 306]

open PySem PySem.W PyProof.Rows
noncomputable def kP : Program := PySem.Challenge.pw_pf0100_01
noncomputable def kFn (i : Nat) : Option (Arguments × List Stmt × Scope) := match kP.main.body[i]? with
  | some (.FunctionDef _ ps b [] _ [] sc _ _ _) => some (ps, b, sc)
  | _ => none
noncomputable def kCi (i : Nat) : Option (Arguments × List Stmt × Scope) := match kP.main.body[i]? with
  | some (.ClassDef _ _ _ b ..) => theDefIn b (Str.ofString "__init__")
  | _ => none
noncomputable def kf0 (d : Option (Arguments × List Stmt × Scope)) (n q : String) : Obj := match d with
  | some (ps, b, sc) => ⟨.none, none, .func { name := Str.ofString n, qualname := Str.ofString q, params := ps, body := .stmts b, scope := sc, globals := 0, closure := [], defaults := .none, kwdefaults := .none }, #[]⟩
  | none => ⟨.none, none, .cell none, #[]⟩
noncomputable def kTu (t : Nat) : List String → List Value
  | [] => []
  | n :: r => .str (Str.ofString n) t :: kTu (t + 1) r
noncomputable def kTup (l : List Value) : Obj := ⟨.type "tuple", none, .seq ⟨l⟩ 0, #[]⟩
noncomputable def kFi (l : List Value) : Obj := ⟨.none, none, .fields ⟨l⟩, #[]⟩
noncomputable def kcc (a : Nat) (n : String) (t l : Nat) : Obj := ⟨.type "code", none, .fields #[.str (Str.ofString n) t, .str (Str.ofString n) (t + 1), .str (Str.ofString "/claim/cut.py") (t + 2), .int l 0, .int 0 0, .int 0 0, .int 0 0, .int 0 0, .ref (a - 2), .bool false, .int 181 0, .ref (a - 1), .none, .none, .none, .none, .int (t + 3 : Nat) 0, .int l 0, .str (Str.ofString "/claim/cut.py") (t + 4)], #[]⟩
noncomputable def kFr (c l : Nat) (m : String) (t : Nat) : Obj := ⟨.type "frame", none, .plain, #[some (.ref c), some (.ref 3), some (.ref l), none, some (.str (Str.ofString m) t), none, some (.ref 0)]⟩
noncomputable def kdo (d : Option (Arguments × List Stmt × Scope)) (n q m : String) (c t l np mt : Nat) (ns : List String) : List Obj :=
  kTup [] :: kFi [] :: ((match ns with | [] => [] | _ => [kTup (kTu (t + 3) ns), kTup []]) ++ [kf0 d n q, kc c n q t l np (t + 3 + ns.length) (match ns with | [] => false | _ => true), kf d n q m mt c])
noncomputable def kg (P : Params) : List Obj :=
  [kTup [.type "Exception"], ⟨.type "builtin_function_or_method", none, .fields #[.builtin "type.__prepare__", .type "type"], #[]⟩, ⟨.type "dict", none, .dict #[kh P "__module__" 196 (.str (Str.ofString "chess.errors") 187), kh P "__qualname__" 198 (.str (Str.ofString "ChessError") 197), kh P "__firstlineno__" 200 (.int 2 199), kh P "__init__" 208 (.ref 28), kh P "__static_attributes__" 210 (.ref 29)] 5, #[]⟩, kTup [], kFi [.int 4 0, .int 4 0, .ref 27], kcc 20 "ChessError" 191 2, kFr 20 17 "chess.errors" 187] ++
  kdo (kCi 1) "__init__" "ChessError.__init__" "chess.errors" 27 201 4 2 187 ["self", "text"] ++
  [kTup [.str (Str.ofString "text") 209], ⟨.type "dict", none, .dict #[kh P "__module__" 196 (.str (Str.ofString "chess.errors") 187), kh P "__firstlineno__" 200 (.int 2 199), kh P "__init__" 208 (.ref 28), kh P "__static_attributes__" 210 (.ref 29), kh P "__weakref__" 212 (.ref 32), kh P "__doc__" 213 (.none)] 3, #[]⟩, ⟨.type "type", none, .cls { name := Str.ofString "ChessError", bases := [.type "Exception"], mro := [.ref 31, .type "Exception", .type "BaseException", .type "object"], ns := 30, qualname := Str.ofString "ChessError", subclasses := [.ref 44] }, #[some (.ref 15), none, some (.str (Str.ofString "ChessError") 189), some (.str (Str.ofString "ChessError") 197), some (.builtin "Exception.__new__"), some (.bool true)]⟩, ⟨.type "getset_descriptor", none, .fields #[.str (Str.ofString "__weakref__") 211, .ref 31, .builtin "ExceptionGroup.__weakref__", .none], #[]⟩, ⟨.type "super", none, .fields #[.ref 31, .ref 31, .ref 31], #[]⟩, ⟨.type "builtin_function_or_method", none, .fields #[.builtin "object.__init_subclass__", .ref 31], #[]⟩, kTup [.ref 31], ⟨.type "builtin_function_or_method", none, .fields #[.builtin "type.__prepare__", .type "type"], #[]⟩, ⟨.type "dict", none, .dict #[kh P "__module__" 225 (.str (Str.ofString "chess.errors") 187), kh P "__qualname__" 227 (.str (Str.ofString "BadTable") 226), kh P "__firstlineno__" 229 (.int 7 228), kh P "__static_attributes__" 230 (.ref 42)] 4, #[]⟩, kTup [], kFi [], kcc 40 "BadTable" 220 7, kFr 40 37 "chess.errors" 187, kTup [], ⟨.type "dict", none, .dict #[kh P "__module__" 225 (.str (Str.ofString "chess.errors") 187), kh P "__firstlineno__" 229 (.int 7 228), kh P "__static_attributes__" 230 (.ref 42), kh P "__doc__" 231 (.none)] 2, #[]⟩, ⟨.type "type", none, .cls { name := Str.ofString "BadTable", bases := [.ref 31], mro := [.ref 44, .ref 31, .type "Exception", .type "BaseException", .type "object"], ns := 43, qualname := Str.ofString "BadTable" }, #[some (.ref 35), none, some (.str (Str.ofString "BadTable") 218), some (.str (Str.ofString "BadTable") 226), some (.builtin "Exception.__new__"), some (.bool true)]⟩, ⟨.type "super", none, .fields #[.ref 44, .ref 44, .ref 44], #[]⟩, ⟨.type "builtin_function_or_method", none, .fields #[.builtin "object.__init_subclass__", .ref 44], #[]⟩, kTup [.int 0 250, .int 1 251, .int 0 252, .int (-1) 254, .int 1 255, .int 1 256, .int (-1) 258, .int (-1) 260], kTup [.int 1 262, .int 0 263, .int (-1) 265, .int 0 266, .int 1 267, .int (-1) 269, .int (-1) 271, .int 1 272], kTup [], ⟨.type "builtin_function_or_method", none, .fields #[.builtin "type.__prepare__", .type "type"], #[]⟩, ⟨.type "dict", none, .dict #[kh P "__module__" 281 (.str (Str.ofString "chess.geometry") 248), kh P "__qualname__" 283 (.str (Str.ofString "Geometry") 282), kh P "__firstlineno__" 285 (.int 19 284), kh P "__init__" 296 (.ref 62), kh P "__static_attributes__" 311 (.ref 63)] 5, #[]⟩, kTup [], kFi [.int 21 0, .int 4 0, .ref 61], kcc 54 "Geometry" 276 19, kFr 54 51 "chess.geometry" 248] ++
  kdo (kCi 13) "__init__" "Geometry.__init__" "chess.geometry" 61 286 21 5 248 ["self", "files", "ranks", "has_double", "has_castling"] ++
  [kTup [.str (Str.ofString "castles") 297, .str (Str.ofString "file_masks") 298, .str (Str.ofString "files") 299, .str (Str.ofString "full") 300, .str (Str.ofString "has_castling") 301, .str (Str.ofString "has_double") 302, .str (Str.ofString "king") 303, .str (Str.ofString "knight") 304, .str (Str.ofString "pawn") 305, .str (Str.ofString "rank_masks") 306, .str (Str.ofString "ranks") 307, .str (Str.ofString "rays") 308, .str (Str.ofString "rights_lost") 309, .str (Str.ofString "size") 310], ⟨.type "dict", none, .dict #[kh P "__module__" 281 (.str (Str.ofString "chess.geometry") 248), kh P "__firstlineno__" 285 (.int 19 284), kh P "__init__" 296 (.ref 62), kh P "__static_attributes__" 311 (.ref 63), kh P "__dict__" 313 (.ref 66), kh P "__weakref__" 315 (.ref 67), kh P "__doc__" 316 (.none)] 4, #[]⟩, ⟨.type "type", none, .cls { name := Str.ofString "Geometry", bases := [.type "object"], mro := [.ref 65, .type "object"], ns := 64, qualname := Str.ofString "Geometry" }, #[none, none, some (.str (Str.ofString "Geometry") 274), some (.str (Str.ofString "Geometry") 282), some (.builtin "object.__new__"), some (.bool true)]⟩, ⟨.type "getset_descriptor", none, .fields #[.str (Str.ofString "__dict__") 312, .ref 65, .builtin "function.__dict__", .builtin "function.__dict__#set"], #[]⟩, ⟨.type "getset_descriptor", none, .fields #[.str (Str.ofString "__weakref__") 314, .ref 65, .builtin "ExceptionGroup.__weakref__", .none], #[]⟩, ⟨.type "super", none, .fields #[.ref 65, .ref 65, .ref 65], #[]⟩, ⟨.type "builtin_function_or_method", none, .fields #[.builtin "object.__init_subclass__", .ref 65], #[]⟩] ++
  kdo (kFn 14) "is_growing" "is_growing" "chess.geometry" 75 319 36 1 248 ["d"] ++
  kdo (kFn 15) "add_masks" "add_masks" "chess.geometry" 82 326 38 1 248 ["geo", "row", "column", "r", "f"] ++
  kdo (kFn 16) "inner_squares" "inner_squares" "chess.geometry" 89 337 46 2 248 ["geo", "d", "edge"] ++
  kdo (kFn 17) "add_rays" "add_rays" "chess.geometry" 96 346 57 1 248 ["geo", "d", "inner", "delta", "ray", "order", "square", "goal"] ++
  kdo (kFn 18) "add_pawns" "add_pawns" "chess.geometry" 103 360 72 1 248 ["geo", "square"] ++
  kdo (kFn 19) "add_knights" "add_knights" "chess.geometry" 110 368 76 1 248 ["geo", "files", "not_first", "not_last", "not_first_two", "not_last_two", "square", "b", "near", "far", "found"] ++
  kdo (kFn 20) "add_castles" "add_castles" "chess.geometry" 117 385 88 1 248 ["geo", "start", "index", "base", "corner", "way", "goal"] ++
  kdo (kFn 21) "make_geometry" "make_geometry" "chess.geometry" 124 398 105 4 248 ["files", "ranks", "has_double", "has_castling", "geo"] ++
  kdo (kFn 23) "ray_attacks" "ray_attacks" "chess.sliders" 131 411 116 4 409 ["geo", "d", "square", "occupied", "ray", "stop", "behind"] ++
  kdo (kFn 24) "rook_attacks" "rook_attacks" "chess.sliders" 138 424 131 3 409 ["geo", "square", "occupied", "found", "d"] ++
  kdo (kFn 25) "bishop_attacks" "bishop_attacks" "chess.sliders" 145 435 136 3 409 ["geo", "square", "occupied", "found", "d"] ++
  kdo (kFn 26) "queen_attacks" "queen_attacks" "chess.sliders" 152 446 141 3 409 ["geo", "square", "occupied"] ++
  kdo (kFn 27) "slider_attacks" "slider_attacks" "chess.sliders" 159 455 143 4 409 ["geo", "kind", "square", "occupied"] ++
  kdo (kFn 28) "piece_attacks" "piece_attacks" "chess.sliders" 166 465 151 5 409 ["geo", "side", "kind", "square", "occupied"] ++
  kdo (kFn 35) "solve" "solve" "chess.retro" 171 491 165 3 476 [] ++
  kdo (kFn 36) "index_of" "index_of" "chess.retro" 178 497 188 5 476 ["size", "side", "strong", "piece", "weak"] ++
  kdo (kFn 37) "parts_of" "parts_of" "chess.retro" 185 508 190 2 476 ["size", "n"] ++
  kdo (kFn 38) "mark_places" "mark_places" "chess.retro" 192 516 192 4 476 ["geo", "kind", "zone", "table", "size", "places", "strong", "piece", "free", "checked", "weak", "n"] ++
  kdo (kFn 39) "weak_moves" "weak_moves" "chess.retro" 199 534 209 5 476 ["geo", "table", "strong", "piece", "weak", "out", "steps", "goal", "place"] ++
  kdo (kFn 40) "strong_moves" "strong_moves" "chess.retro" 206 549 223 6 476 ["geo", "table", "kind", "strong", "piece", "weak", "out", "steps", "slides", "goal", "place"] ++
  kdo (kFn 41) "moves_at" "moves_at" "chess.retro" 213 566 238 7 476 ["geo", "table", "kind", "side", "strong", "piece", "weak"] ++
  kdo (kFn 42) "build_zone" "build_zone" "chess.retro" 220 579 242 3 476 ["geo", "kind", "zone", "half", "table", "places", "where", "k", "sides", "after", "lost", "n", "side", "strong", "piece", "weak", "row", "origin", "goal", "place", "values"] ++
  kdo (kFn 43) "probe" "probe" "chess.retro" 227 606 266 7 476 ["geo", "table", "kind", "side", "strong", "piece", "weak", "size", "square"] ++
  kdo (kFn 44) "best_move" "best_move" "chess.retro" 234 621 278 7 476 ["geo", "table", "kind", "side", "strong", "piece", "weak", "best", "top", "origin", "goal", "place", "worth"] ++
  kdo (kFn 45) "mate_line" "mate_line" "chess.retro" 241 640 293 7 476 ["geo", "table", "kind", "side", "strong", "piece", "weak", "out", "plies", "origin", "goal"] ++
  kdo (kFn 47) "_law_figure" "_law_figure" "law_pf0100_01" 248 659 309 2 657 ["script", "spot"] ++
  kdo (kFn 48) "_law_corner" "_law_corner" "law_pf0100_01" 255 667 311 2 657 ["wide", "square"] ++
  kdo (kFn 49) "_law_reached" "_law_reached" "law_pf0100_01" 262 675 313 5 657 ["wide", "high", "kind", "square", "walls", "x", "y", "found", "right", "up", "span", "far", "length", "spot"] ++
  kdo (kFn 50) "_law_round" "_law_round" "law_pf0100_01" 267 695 333 3 657 [] ++
  kdo (kFn 51) "_law_told" "_law_told" "law_pf0100_01" 274 701 337 2 657 ["game", "place"] ++
  kdo (kFn 52) "_law_choices" "_law_choices" "law_pf0100_01" 281 709 339 2 657 ["game", "place", "side", "king", "man", "bare", "rows", "goal"] ++
  kdo (kFn 53) "_law_pick" "_law_pick" "law_pf0100_01" 286 723 356 2 657 [] ++
  kdo (kFn 54) "_law_right" "_law_right" "law_pf0100_01" 293 729 366 2 657 ["game", "place", "told", "chosen", "heard", "due", "here", "turn"] ++
  kdo (kFn 55) "_law_place" "_law_place" "law_pf0100_01" 300 743 381 2 657 ["size", "number"] ++
  kdo (kFn 56) "law" "law" "law_pf0100_01" 305 751 383 1 657 []
noncomputable def kCo : List Value := [.int 2 0, .int 0 0, .ref 20, .int 7 0, .int 0 0, .ref 40, .int 19 0, .int 0 0, .ref 54, .int 36 0, .int 0 0, .ref 75, .int 38 0, .int 0 0, .ref 82, .int 46 0, .int 0 0, .ref 89, .int 57 0, .int 0 0, .ref 96, .int 72 0, .int 0 0, .ref 103, .int 76 0, .int 0 0, .ref 110, .int 88 0, .int 0 0, .ref 117, .int 105 0, .int 0 0, .ref 124, .int 116 0, .int 0 0, .ref 131, .int 131 0, .int 0 0, .ref 138, .int 136 0, .int 0 0, .ref 145, .int 141 0, .int 0 0, .ref 152, .int 143 0, .int 0 0, .ref 159, .int 151 0, .int 0 0, .ref 166, .int 165 0, .int 0 0, .ref 171, .int 188 0, .int 0 0, .ref 178, .int 190 0, .int 0 0, .ref 185, .int 192 0, .int 0 0, .ref 192, .int 209 0, .int 0 0, .ref 199, .int 223 0, .int 0 0, .ref 206, .int 238 0, .int 0 0, .ref 213, .int 242 0, .int 0 0, .ref 220, .int 266 0, .int 0 0, .ref 227, .int 278 0, .int 0 0, .ref 234, .int 293 0, .int 0 0, .ref 241, .int 309 0, .int 0 0, .ref 248, .int 311 0, .int 0 0, .ref 255, .int 313 0, .int 0 0, .ref 262, .int 333 0, .int 0 0, .ref 267, .int 337 0, .int 0 0, .ref 274, .int 339 0, .int 0 0, .ref 281, .int 356 0, .int 0 0, .ref 286, .int 366 0, .int 0 0, .ref 293, .int 381 0, .int 0 0, .ref 300, .int 383 0, .int 0 0, .ref 305]
noncomputable def kEs (P : Params) : List DictEntry := match kHeap P with
  | (_, ⟨_, _, .dict es _, _⟩) :: _ => es.toList.tail
  | _ => []
noncomputable def kHp (o2 o3 : Obj) (P : Params) (c : Nat) (l : List Obj) : Heap := ⟨⟨boot_o_0 P :: boot_o_1 P :: o2 :: o3 :: boot_o_4 P :: boot_o_5 P :: boot_o_6 P :: boot_o_7 P :: boot_o_8 P :: boot_o_9 P :: boot_o_10 P :: kTup [] :: kFi (kCo.take c) :: ⟨.type "code", none, .fields #[.str (Str.ofString "<module>") 182, .str (Str.ofString "<module>") 183, .str (Str.ofString "/claim/cut.py") 184, .int 1 0, .int 0 0, .int 0 0, .int 0 0, .int 0 0, .ref 11, .bool false, .int 181 0, .ref 12, .none, .none, .none, .none, .int 185 0, .int 1 0, .str (Str.ofString "/claim/cut.py") 186], #[]⟩ :: kFr 13 3 "__main__" 164 :: l⟩, (boot_heap P).life⟩
noncomputable def kH (P : Params) (e g c : Nat) (m : String) (mt : Nat) : Heap := kHp (⟨.none, none, .dict #[kh P "type.__subclasses__.Exception.0" 214 (.int 31 0), kh P "type.__subclasses__.Exception.n" 215 (.int 1 0)] 2, #[]⟩) ⟨.type "dict", none, .dict ⟨kh P "__name__" 165 (.str (Str.ofString m) mt) :: (kEs P).take (e - 1)⟩ e, #[]⟩ P c ((kg P).take g)
noncomputable def kSt (P : Params) (os : OsState) (e g c tk : Nat) (m : String) (mt : Nat) : Shared := ⟨kH P e g c m mt, #[], boot_drawn, tk, os⟩
noncomputable def kSa (P : Params) (os : OsState) : Shared := ⟨kHp (boot_o_2 P) (boot_o_3 P) P 0 [], #[], boot_drawn, 187, os⟩
noncomputable def kb : List Stmt := behindTheImports kP
noncomputable def kEnv : Env := { scope := kP.main.scope, locals := mainNs, globals := mainNs, cells := [], code := .ref 13, frame := some 14 }
noncomputable abbrev kC : Code := .body kb kEnv
noncomputable def kR (w : World) (n : Nat) (s : Shared) (i k : Nat) (pos : Pos) : Option (Flow × Shared × Code × Pos) := segRun treeTable kP w 11 (some (.ref 6)) 1 n s (piecesOf ((kb.drop i).take k) kEnv kC pos [topFrame default])
theorem k_pre (w : World) (os : OsState) : topGo treeTable kP w 11 (some (.ref 6)) 12 ⟨boot_heap w.params, Array.mk [], boot_drawn, boot_toks, os⟩ (topStub kP) = some (kSa w.params os, ⟨denote treeTable kC, kC, default, [topFrame default]⟩) := by kernel_rfl
theorem k_block (w : World) (os : OsState) : segRun treeTable kP w 11 (some (.ref 6)) 1 2 (kSa w.params os) (blockOf kb kEnv kC default [topFrame default]) = some (.next, kSa w.params os, kC, default) := by kernel_rfl
theorem k_s2 (w : World) (os : OsState) : kR w 451 (kSa w.params os) 0 3 default = some (.next, kSt w.params os 11 32 6 234 "chess.errors" 187, kC, ⟨7, 0, 8, 8⟩) := by kernel_rfl
theorem k_s12 (w : World) (os : OsState) : kR w 139 (kSt w.params os 11 32 6 234 "chess.errors" 187) 3 10 ⟨7, 0, 8, 8⟩ = some (.next, kSt w.params os 20 34 6 274 "chess.geometry" 248, kC, ⟨18, 0, 18, 10⟩) := by kernel_rfl
theorem k_s13 (w : World) (os : OsState) : kR w 239 (kSt w.params os 20 34 6 274 "chess.geometry" 248) 13 1 ⟨18, 0, 18, 10⟩ = some (.next, kSt w.params os 21 55 9 319 "chess.geometry" 248, kC, ⟨19, 0, 35, 29⟩) := by kernel_rfl
theorem k_s28 (w : World) (os : OsState) : kR w 473 (kSt w.params os 21 55 9 319 "chess.geometry" 248) 14 15 ⟨19, 0, 35, 29⟩ = some (.next, kSt w.params os 35 153 51 476 "chess.sliders" 409, kC, ⟨151, 0, 158, 54⟩) := by kernel_rfl
theorem k_s44 (w : World) (os : OsState) : kR w 437 (kSt w.params os 35 153 51 476 "chess.sliders" 409) 29 16 ⟨151, 0, 158, 54⟩ = some (.next, kSt w.params os 50 221 81 640 "chess.retro" 476, kC, ⟨278, 0, 292, 15⟩) := by kernel_rfl
theorem k_s56 (w : World) (os : OsState) : kR w 361 (kSt w.params os 50 221 81 640 "chess.retro" 476) 45 12 ⟨278, 0, 292, 15⟩ = some (.next, kSt w.params os 61 292 114 757 "law_pf0100_01" 657, kC, ⟨383, 0, 399, 85⟩) := by kernel_rfl
open PySem PySem.W PyProof.Rows
noncomputable abbrev kF (w : World) (os : OsState) : Shared := kSt w.params os 61 292 114 757 "law_pf0100_01" 657
theorem k_fin (w : World) (os : OsState) : topRun treeTable kP w 11 (some (.ref 6)) 2 (kF w os) ⟨doneF .next, kC, ⟨383, 0, 399, 85⟩, [topFrame default]⟩ = some (kF w os) := by kernel_rfl
theorem k_go {w : World} {n N i k : Nat} {s s' r : Shared} {pos p' : Pos} (h : kR w n s i k pos = some (.next, s', kC, p')) (q : topRun treeTable kP w 11 (some (.ref 6)) N s' (restOf (kb.drop (i + k)) kEnv kC p' [topFrame default]) = some r) : topRun treeTable kP w 11 (some (.ref 6)) (n + N) s (restOf (kb.drop i) kEnv kC pos [topFrame default]) = some r := by
  rw [← List.take_append_drop k (kb.drop i)]
  exact piece_app h (by rw [List.drop_drop]; exact q)
theorem k_end : kb.drop (45 + 12) = [] := by kernel_rfl
theorem k_run (w : World) (os : OsState) : topRun treeTable kP w 11 (some (.ref 6)) (12 + (2 + (451 + (139 + (239 + (473 + (437 + (361 + 2)))))))) ⟨boot_heap w.params, Array.mk [], boot_drawn, boot_toks, os⟩ (topStub kP) = some (kF w os) :=
  go_top (k_pre w os) (piece_block (k_block w os) (k_go (i := 0) (k := 3) (k_s2 w os) (k_go (i := 3) (k := 10) (k_s12 w os) (k_go (i := 13) (k := 1) (k_s13 w os) (k_go (i := 14) (k := 15) (k_s28 w os) (k_go (i := 29) (k := 16) (k_s44 w os) (k_go (i := 45) (k := 12) (k_s56 w os) (by rw [k_end]; exact piece_nil (k_fin w os)))))))))
open PySem PySem.W PyProof.Rows
noncomputable def kView : Program := view PySem.Challenge.pw_pf0100_01 [1, 2, 3, 4, 5, 6, 7, 8, 9, 11, 12, 13, 14, 15, 16, 17, 18, 19, 20, 21, 23, 24, 25, 26, 27, 28, 30, 31, 32, 33, 34, 35, 36, 37, 38, 39, 40, 41, 42, 43, 44, 45, 47, 48, 49, 50, 51, 52, 53, 54, 55, 56]
noncomputable def kLaw : DefRec := match defOf kView (Str.ofString "law") with
  | some x => x.1
  | none => ⟨Str.ofString "", ⟨[], [], none, [], [], none, []⟩, [], { kind := .module, names := [], isGenerator := false, isCoroutine := false, more := [] }, default⟩
theorem kAs_ok : ∀ P, kAs = (kHeap P).map (·.1) := fun _ => by kernel_rfl
noncomputable abbrev kHk : Hook := kHook kHeap kAs kAs_ok
theorem kLaw_name : kLaw.name = Str.ofString "law" := by kernel_rfl
noncomputable abbrev kMods : List Str := importedModules kP.main.body
noncomputable abbrev kXt (s : Shared) : Bool := xlAt kView [] s && recOk (RowW.records PySem.Challenge.rw_pf0100_01.row.toRowW) s
theorem k_la (w : World) (os : OsState) : (staticsOk kMods (boot_heap w.params) (kF w os).heap && namesBound kP (kF w os).heap && gensDone (kF w os) && laidKept (boot_heap w.params) (kF w os).heap, Hook.obs kHk (kF w os)) = (true, Hook.val kHk w) := by kernel_rfl
theorem k_lb (w : World) (os : OsState) : openSeen kView [] kMods kXt true (kF w os) = openGood kView [] := by kernel_rfl
theorem k_plain : opening kP = plainProg kP.main.scope.names := by kernel_rfl
theorem k_fence (s : Shared) : fenceModules? kP s = some s := by kernel_rfl
theorem k_size (w : World) : ((boot_heap w.params).isNs mainGlobals && (Array.mk ([] : List GenState)).size == 0, (boot_heap w.params).objs.size, (boot_heap w.params).nsMap mainGlobals "__annotations__") = (true, 11, some (.ref 6)) := by kernel_rfl
theorem k_pair {α β : Type} {a a' : α} {b b' : β} (x : a = a') (y : b = b') : (a, b) = (a', b') := by rw [x, y]
theorem k_looks (w : World) : (fun os => ((staticsOk kMods (boot_heap w.params) (kF w os).heap && namesBound kP (kF w os).heap && gensDone (kF w os) && laidKept (boot_heap w.params) (kF w os).heap), openSeen kView [] kMods kXt true (kF w os), Hook.obs kHk (kF w os))) = fun _ => (true, openGood kView [], Hook.val kHk w) :=
  funext fun os => k_pair (congrArg Prod.fst (k_la w os)) (k_pair (k_lb w os) (congrArg Prod.snd (k_la w os)))
theorem k_left : LeftO kP kView [] kXt (Hook.obs kHk) (Hook.val kHk) 4314 :=
  LeftO.of_pieces (H₀ := boot_heap) (H₁ := fun P => kH P 61 292 114 "law_pf0100_01" 657) (gs₀ := Array.mk []) (gs₁ := #[]) (d₀ := boot_drawn) (d₁ := boot_drawn) (k₀ := boot_toks) (k₁ := 757) (m₀ := 11) (ann := some (.ref 6)) (M := 12 + (2 + (451 + (139 + (239 + (473 + (437 + (361 + 2))))))))
    (boot_open k_plain rfl k_fence) k_size k_run rfl k_looks
open PySem PySem.W PyProof.Rows
theorem k_said : PySem.Challenge.rw_pf0100_01.wellSaid = true := by
  delta OpenLaw.wellSaid
  repeat' (with_reducible apply look_both)
  · delta OpenRow.wellSaid
    repeat' (with_reducible apply look_both)
    · delta OpenRow.partSaid
      repeat' (with_reducible apply look_both)
      all_goals (try (delta looksOpen; repeat' (with_reducible apply look_both)))
      all_goals (decide +kernel)
    all_goals (decide +kernel)
  all_goals (decide +kernel)
theorem k_top (walk : WalkO kView [] (XL kView []) (Hook.says kHk) PySem.Challenge.rw_pf0100_01.row.toRowW kLaw [] fun f vs => PySem.call f vs) : PySem.Challenge.rw_pf0100_01.Holds := by
  w_on
  refine holds_law k_said fun said => ?_
  refine holds_open (q := kView) (loose := []) (Xt := kXt) (XP := XL kView []) (Yf := Hook.obs kHk) (Ya := Hook.val kHk) (YP := Hook.says kHk) (N := 4314) k_left (Hook.of kHk) (Hook.keeps kHk) (fun s e => xl_of s (Bool.and_eq_true_iff.mp e).1) XL.keeps (d := kLaw) (kwd := []) (by kernel_rfl) (by kernel_rfl) (by kernel_rfl) (fun s e => recFacts_of (Bool.and_eq_true_iff.mp e).2) (by rfl) said (by decide +kernel) ⟨rfl, rfl, rfl, rfl, rfl, by decide +kernel⟩ ?hw walk
  case hw => w_witness2
open PySem PySem.W PyProof.Rows

/-- clean values -/
inductive V where
  | int (i : Int) | bool (b : Bool) | none | str (s : Str) | ref (a : Nat) | tup (vs : List V) | rng (a b c : Int) | frz (vs : List V)
/-- clean objects -/
inductive CO where
  | list (vs : List V)
  | inst (dx : Nat)
  | attrs (n : Nat) (sl : List (Option V))
  | sdict (vs : List V)
  | idict (n : Nat) (f : Int → Option V)
noncomputable abbrev HH := Nat → Option CO
noncomputable def HH.set (H : HH) (a : Nat) (o : CO) : HH := fun b => if b = a then some o else H b
noncomputable abbrev Loc := List (Option V)
inductive Fl where
  | next | cont | brk | ret (v : V)
inductive BI where
  | len | range | abs | max | min | sorted | sum
noncomputable def BI.name : BI → Str
  | .len => "len" | .range => "range" | .abs => "abs" | .max => "max" | .min => "min" | .sorted => "sorted" | .sum => "sum"

noncomputable def fnm : List Str := [Str.ofString "is_growing", Str.ofString "add_masks", Str.ofString "inner_squares", Str.ofString "add_rays", Str.ofString "add_pawns", Str.ofString "add_knights", Str.ofString "add_castles", Str.ofString "make_geometry", Str.ofString "ray_attacks", Str.ofString "rook_attacks", Str.ofString "bishop_attacks", Str.ofString "queen_attacks", Str.ofString "slider_attacks", Str.ofString "piece_attacks", Str.ofString "solve", Str.ofString "index_of", Str.ofString "parts_of", Str.ofString "mark_places", Str.ofString "weak_moves", Str.ofString "strong_moves", Str.ofString "moves_at", Str.ofString "build_zone", Str.ofString "probe", Str.ofString "best_move", Str.ofString "mate_line", Str.ofString "_law_figure", Str.ofString "_law_corner", Str.ofString "_law_reached", Str.ofString "_law_round", Str.ofString "_law_told", Str.ofString "_law_choices", Str.ofString "_law_pick", Str.ofString "_law_right", Str.ofString "_law_place", Str.ofString "law"]
noncomputable def ginm : List Str := [Str.ofString "WHITE", Str.ofString "PAWN", Str.ofString "KNIGHT", Str.ofString "BISHOP", Str.ofString "ROOK", Str.ofString "QUEEN", Str.ofString "KING", Str.ofString "NOT_A_PLACE", Str.ofString "NO_MATE", Str.ofString "OUTSIDE", Str.ofString "STRONG_MOVES", Str.ofString "WEAK_MOVES"]
noncomputable def giv : List Int := [0, 1, 2, 3, 4, 5, 6, -2, -1, -1, 0, 1]
noncomputable def gtnm : List Str := [Str.ofString "STEP_FILES", Str.ofString "STEP_RANKS"]
noncomputable def gtv : List (List Int) := [[0, 1, 0, -1, 1, 1, -1, -1], [1, 0, -1, 0, 1, -1, -1, 1]]
noncomputable def attn : List Str := [Str.ofString "files", Str.ofString "ranks", Str.ofString "size", Str.ofString "full", Str.ofString "has_double", Str.ofString "has_castling", Str.ofString "file_masks", Str.ofString "rank_masks", Str.ofString "rays", Str.ofString "king", Str.ofString "knight", Str.ofString "pawn", Str.ofString "castles", Str.ofString "rights_lost"]
noncomputable def keyn : List Str := [Str.ofString "geo", Str.ofString "wide", Str.ofString "high", Str.ofString "kind", Str.ofString "table"]

set_option genInjectivity false in
set_option genSizeOfSpec false in
mutual
inductive CE where
  | int (i : Int) (p : Pos)
  | bool (b : Bool) (p : Pos)
  | none (p : Pos)
  | var (i : Nat) (p : Pos)
  | gint (g : Nat) (p : Pos)
  | gtup (g : Nat) (p : Pos)
  | bin (op : Operator) (a b : CE) (p : Pos)
  | un (op : UnaryOp) (a : CE) (p : Pos)
  | cmp (op : CmpOp) (a b : CE) (p : Pos)
  | cmp2 (o1 o2 : CmpOp) (a b c : CE) (p : Pos)
  | bop (op : BoolOp) (es : CEs) (p : Pos)
  | ife (c a b : CE) (p : Pos)
  | tup (es : CEs) (k : Nat) (p : Pos)
  | lst (es : CEs) (p : Pos)
  | sdict (kvs : List (Pos × Nat × Pos)) (p : Pos)
  | idict (g : Nat) (p1 p2 p : Pos)
  | sub (a i : CE) (p : Pos)
  | skey (i : Nat) (ip : Pos) (k : Nat) (kp p : Pos)
  | upto (i : Nat) (ip hp sp p : Pos)
  | attr (i : Nat) (ip : Pos) (n : Nat) (p : Pos)
  | call (g : Nat) (fp : Pos) (es : CEs) (p : Pos)
  | make (fp : Pos) (es : CEs) (p : Pos)
  | bi (b : BI) (fp : Pos) (es : CEs) (p : Pos)
  | index (i : Nat) (ip : Pos) (e : CE) (ap p : Pos)
  | comp1 (elt : CE) (x : Str) (xp : Pos) (it : CE) (cond : CEs) (caps : List Nat) (sc : Scope) (p : Pos)
  | comp2 (elt : CE) (x : Str) (xp : Pos) (it : CE) (y : Str) (yp : Pos) (it2 : CE) (cond : CEs) (caps : List Nat) (sc : Scope) (p : Pos)
inductive CEs where
  | nil
  | cons (e : CE) (r : CEs)
end

mutual
noncomputable def up (ns : List Str) : CE → Expr
  | .int i p => .Constant (.int i) 0 p
  | .bool b p => .Constant (.bool b) 0 p
  | .none p => .Constant .none 0 p
  | .var i p => .Name (ns.getD i "") p
  | .gint g p => .Name (ginm.getD g "") p
  | .gtup g p => .Name (gtnm.getD g "") p
  | .bin op a b p => .BinOp (up ns a) op (up ns b) p
  | .un op a p => .UnaryOp op (up ns a) p
  | .cmp op a b p => .Compare (up ns a) [op] [up ns b] p
  | .cmp2 o1 o2 a b c p => .Compare (up ns a) [o1, o2] [up ns b, up ns c] p
  | .bop op es p => .BoolOp op (ups ns es) p
  | .ife c a b p => .IfExp (up ns c) (up ns a) (up ns b) p
  | .tup es k p => .Tuple (ups ns es) k p
  | .lst es p => .List (ups ns es) p
  | .sdict kvs p => .Dict (List.zipWith (fun k (q : Pos × Nat × Pos) => some (.Constant (.str k) 0 q.1)) keyn kvs) (kvs.map fun q => .Name (ns.getD q.2.1 "") q.2.2) p
  | .idict g p1 p2 p => .Dict [some (.Name (ginm.getD g "") p1)] [.Name (ginm.getD g "") p2] p
  | .sub a i p => .Subscript (up ns a) (up ns i) p
  | .skey i ip k kp p => .Subscript (.Name (ns.getD i "") ip) (.Constant (.str (keyn.getD k "")) 0 kp) p
  | .upto i ip hp sp p => .Subscript (.Name (ns.getD i "") ip) (.Slice none (some (.Constant (.int 2) 0 hp)) none sp) p
  | .attr i ip n p => .Attribute (.Name (ns.getD i "") ip) (attn.getD n "") p
  | .call g fp es p => .Call (.Name (fnm.getD g "") fp) (ups ns es) [] p
  | .make fp es p => .Call (.Name "Geometry" fp) (ups ns es) [] p
  | .bi b fp es p => .Call (.Name b.name fp) (ups ns es) [] p
  | .index i ip e ap p => .Call (.Attribute (.Name (ns.getD i "") ip) "index" ap) [up ns e] [] p
  | .comp1 elt x xp it cond caps sc p =>
    .ListComp (up (x :: caps.map (ns.getD · "")) elt) [⟨.Name x xp, up ns it, ups (x :: caps.map (ns.getD · "")) cond, 0⟩] sc p
  | .comp2 elt x xp it y yp it2 cond caps sc p =>
    .ListComp (up (x :: y :: caps.map (ns.getD · "")) elt) [⟨.Name x xp, up ns it, [], 0⟩, ⟨.Name y yp, up (x :: y :: caps.map (ns.getD · "")) it2, ups (x :: y :: caps.map (ns.getD · "")) cond, 0⟩] sc p
noncomputable def ups (ns : List Str) : CEs → List Expr
  | .nil => []
  | .cons e r => up ns e :: ups ns r
end

set_option genInjectivity false in
set_option genSizeOfSpec false in
mutual
inductive CS where
  | asg (i : Nat) (xp : Pos) (e : CE) (p : Pos)
  | asgT (xs : List (Nat × Pos)) (k : Nat) (tp : Pos) (e : CE) (p : Pos)
  | asgA (i : Nat) (ip : Pos) (n : Nat) (ap : Pos) (e : CE) (p : Pos)
  | asgI (o i : CE) (sp : Pos) (e : CE) (p : Pos)
  | aug (i : Nat) (xp : Pos) (op : Operator) (e : CE) (p : Pos)
  | augI (o i : CE) (sp : Pos) (op : Operator) (e : CE) (p : Pos)
  | ifs (c : CE) (th el : CSs) (p : Pos)
  | whl (c : CE) (body : CSs) (p : Pos)
  | for1 (i : Nat) (xp : Pos) (it : CE) (body : CSs) (p : Pos)
  | forT (xs : List (Nat × Pos)) (k : Nat) (tp : Pos) (it : CE) (body : CSs) (p : Pos)
  | ret (e : CE) (p : Pos)
  | cont (p : Pos)
  | brk (p : Pos)
  | app (o e : CE) (ap cp p : Pos)
  | exp (e : CE) (p : Pos)
  | rais (x : Str) (xp : Pos) (m : Str) (mp cp p : Pos)
inductive CSs where
  | nil
  | cons (e : CS) (r : CSs)
end

noncomputable def upT (ns : List Str) (xs : List (Nat × Pos)) : List Expr := xs.map fun q => .Name (ns.getD q.1 "") q.2
mutual
noncomputable def upS (ns : List Str) : CS → Stmt
  | .asg i xp e p => .Assign [.Name (ns.getD i "") xp] (up ns e) p
  | .asgT xs k tp e p => .Assign [.Tuple (upT ns xs) k tp] (up ns e) p
  | .asgA i ip n ap e p => .Assign [.Attribute (.Name (ns.getD i "") ip) (attn.getD n "") ap] (up ns e) p
  | .asgI o i sp e p => .Assign [.Subscript (up ns o) (up ns i) sp] (up ns e) p
  | .aug i xp op e p => .AugAssign (.Name (ns.getD i "") xp) op (up ns e) p
  | .augI o i sp op e p => .AugAssign (.Subscript (up ns o) (up ns i) sp) op (up ns e) p
  | .ifs c th el p => .If (up ns c) (upSs ns th) (upSs ns el) p
  | .whl c body p => .While (up ns c) (upSs ns body) [] p
  | .for1 i xp it body p => .For (.Name (ns.getD i "") xp) (up ns it) (upSs ns body) [] p
  | .forT xs k tp it body p => .For (.Tuple (upT ns xs) k tp) (up ns it) (upSs ns body) [] p
  | .ret e p => .Return (some (up ns e)) p
  | .cont p => .Continue p
  | .brk p => .Break p
  | .app o e ap cp p => .Expr (.Call (.Attribute (up ns o) "append" ap) [up ns e] [] cp) p
  | .exp e p => .Expr (up ns e) p
  | .rais x xp m mp cp p => .Raise (some (.Call (.Name x xp) [.Constant (.str m) 0 mp] [] cp)) none p
noncomputable def upSs (ns : List Str) : CSs → List Stmt
  | .nil => []
  | .cons e r => upS ns e :: upSs ns r
end

-- the clean semantics
noncomputable def truth : V → Option Bool
  | .int i => some (decide (i ≠ 0))
  | .bool b => some b
  | _ => none
/-- a value in a test, or as it is -/
noncomputable def fin : Bool → V → (V → Prop) → Prop
  | false, v, Q => Q v
  | true, .int i, Q => Q (.bool (decide (i ≠ 0)))
  | true, .bool b, Q => Q (.bool b)
  | true, _, _ => False
noncomputable def tst : V → (Bool → Prop) → Prop
  | .int i, Q => Q (decide (i ≠ 0))
  | .bool b, Q => Q b
  | _, _ => False
noncomputable def isB : V → (Bool → Prop) → Prop
  | .bool b, Q => Q b
  | _, _ => False
noncomputable def isI : V → (Int → Prop) → Prop
  | .int i, Q => Q i
  | _, _ => False
noncomputable def isR : V → (Nat → Prop) → Prop
  | .ref i, Q => Q i
  | _, _ => False
noncomputable def isT : V → (List V → Prop) → Prop
  | .tup i, Q => Q i
  | _, _ => False
noncomputable def isN : V → Prop → Prop
  | .none, Q => Q
  | _, _ => False
noncomputable def isF : Bool → Prop → Prop
  | false, Q => Q
  | true, _ => False
noncomputable def iteB : Bool → Prop → Prop → Prop
  | true, A, _ => A
  | false, _, B => B
/-- a wrap that is not unfolded -/
structure Bx (P : Prop) : Prop where
  h : P
noncomputable def oget : Option V → (V → Prop) → Prop
  | some v, k => k v
  | none, _ => False
noncomputable def vget : Loc → Nat → (V → Prop) → Prop
  | [], _, _ => False
  | o :: _, 0, k => oget o k
  | _ :: l, n + 1, k => vget l n k
noncomputable def vset : Loc → Nat → V → (Loc → Prop) → Prop
  | [], _, _, _ => False
  | _ :: l, 0, v, k => k (some v :: l)
  | o :: l, n + 1, v, k => vset l n v fun l' => k (o :: l')
noncomputable def lenK : Nat → List V → Prop → Prop
  | _, [], k => k
  | 0, _ :: _, _ => False
  | n + 1, _ :: l, k => lenK n l k
noncomputable def igl : List Int → Nat → (Int → Prop) → Prop
  | [], _, _ => False
  | i :: _, 0, k => k i
  | _ :: l, n + 1, k => igl l n k
theorem vget_iff {k : V → Prop} : ∀ {loc : Loc} {i : Nat}, vget loc i k → ∃ v, loc[i]? = some (some v) ∧ k v
  | [], _, h => h.elim
  | some v :: _, 0, h => ⟨v, rfl, h⟩
  | none :: _, 0, h => h.elim
  | _ :: l, n + 1, h => vget_iff (loc := l) (i := n) h
theorem vset_iff {v : V} : ∀ {loc : Loc} {i : Nat} {k : Loc → Prop}, vset loc i v k → i < loc.length ∧ k (loc.set i (some v))
  | [], _, _, h => h.elim
  | _ :: _, 0, _, h => ⟨Nat.zero_lt_succ _, h⟩
  | o :: l, n + 1, k, h => have z := vset_iff (loc := l) (i := n) (k := fun l' => k (o :: l')) h; ⟨Nat.succ_lt_succ z.1, z.2⟩
theorem vset_mk {v : V} : ∀ {loc : Loc} {i : Nat} {k : Loc → Prop}, i < loc.length → k (loc.set i (some v)) → vset loc i v k
  | [], _, _, h, _ => nomatch h
  | _ :: _, 0, _, _, h => h
  | o :: l, n + 1, k, h, q => vset_mk (loc := l) (i := n) (k := fun l' => k (o :: l')) (Nat.lt_of_succ_lt_succ h) q
theorem lenK_iff {k : Prop} : ∀ {n : Nat} {l : List V}, lenK n l k → l.length ≤ n ∧ k
  | 0, [], h => ⟨Nat.zero_le _, h⟩
  | _ + 1, [], h => ⟨Nat.zero_le _, h⟩
  | 0, _ :: _, h => h.elim
  | n + 1, _ :: l, h => have z := lenK_iff (n := n) (l := l) h; ⟨Nat.succ_le_succ z.1, z.2⟩
theorem igl_iff {k : Int → Prop} : ∀ {l : List Int} {i : Nat}, igl l i k → ∃ v, l[i]? = some v ∧ k v
  | [], _, h => h.elim
  | v :: _, 0, h => ⟨v, rfl, h⟩
  | _ :: l, n + 1, h => igl_iff (l := l) (i := n) h
theorem fin_iff {v : V} {Q : V → Prop} (h : fin true v Q) : ∃ b, truth v = some b ∧ Q (.bool b) := by
  cases v with
  | int i => exact ⟨_, rfl, h⟩
  | bool b => exact ⟨b, rfl, h⟩
  | _ => exact h.elim
theorem tst_iff {v : V} {Q : Bool → Prop} (h : tst v Q) : ∃ b, truth v = some b ∧ Q b := by
  cases v with
  | int i => exact ⟨_, rfl, h⟩
  | bool b => exact ⟨b, rfl, h⟩
  | _ => exact h.elim
theorem isB_iff {v : V} {Q : Bool → Prop} (h : isB v Q) : ∃ b, v = .bool b ∧ Q b := by
  cases v with
  | bool b => exact ⟨b, rfl, h⟩
  | _ => exact h.elim
theorem isI_iff {v : V} {Q : Int → Prop} (h : isI v Q) : ∃ b, v = .int b ∧ Q b := by
  cases v with
  | int b => exact ⟨b, rfl, h⟩
  | _ => exact h.elim
theorem isR_iff {v : V} {Q : Nat → Prop} (h : isR v Q) : ∃ b, v = .ref b ∧ Q b := by
  cases v with
  | ref b => exact ⟨b, rfl, h⟩
  | _ => exact h.elim
theorem isT_iff {v : V} {Q : List V → Prop} (h : isT v Q) : ∃ b, v = .tup b ∧ Q b := by
  cases v with
  | tup b => exact ⟨b, rfl, h⟩
  | _ => exact h.elim
theorem isN_iff {v : V} {Q : Prop} (h : isN v Q) : v = .none ∧ Q := by
  cases v with
  | none => exact ⟨rfl, h⟩
  | _ => exact h.elim
theorem isF_iff {m : Bool} {Q : Prop} (h : isF m Q) : m = false ∧ Q := by
  cases m with
  | false => exact ⟨rfl, h⟩
  | true => exact h.elim

noncomputable def szl : Nat := 16000000
noncomputable def small (i : Int) : Prop := -1000000000 < i ∧ i < 1000000000

noncomputable def binI (op : Operator) (x y : Int) (Q : Int → Prop) : Prop := match op with
  | .Add => Q (x + y)
  | .Sub => Q (x - y)
  | .Mult => (small x ∨ small y) ∧ Q (x * y)
  | .FloorDiv => 0 < y ∧ small y ∧ Q (x.fdiv y)
  | .Mod => 0 < y ∧ Q (x.fmod y)
  | .Pow => 0 ≤ y ∧ y ≤ 1000000 ∧ x.natAbs < 2 ^ 64 ∧ Q (x ^ y.toNat)
  | .LShift => 0 ≤ y ∧ y ≤ 1000000 ∧ x.natAbs < 2 ^ 64 ∧ Q (x * 2 ^ y.toNat)
  | .RShift => 0 ≤ y ∧ Q (x.fdiv (2 ^ y.toNat))
  | .BitAnd => Q (Builtin.bitAnd x y)
  | .BitOr => Q (Builtin.bitOr x y)
  | .BitXor => Q (Builtin.bitXor x y)
  | _ => False
noncomputable def repV (op : Operator) (l : Nat) (n : Int) (H : HH) (Q : V → HH → Prop) : Prop := match op with
  | .Mult => ∃ x, H l = some (.list [x]) ∧ 0 ≤ n ∧ n ≤ szl ∧ ∀ c, H c = none → Q (.ref c) (H.set c (.list (List.replicate n.toNat x)))
  | _ => False
noncomputable def catV (op : Operator) (l r : Nat) (H : HH) (Q : V → HH → Prop) : Prop := match op with
  | .Add => ∃ vs ws, H l = some (.list vs) ∧ H r = some (.list ws) ∧ vs.length + ws.length ≤ szl ∧ ∀ c, H c = none → Q (.ref c) (H.set c (.list (vs ++ ws)))
  | _ => False
noncomputable def binV (op : Operator) (a b : V) (H : HH) (Q : V → HH → Prop) : Prop := match a, b with
  | .int x, .int y => binI op x y fun z => Q (.int z) H
  | .ref l, .int n => repV op l n H Q
  | .ref l, .ref r => catV op l r H Q
  | _, _ => False

noncomputable def unV (op : UnaryOp) (a : V) (H : HH) (Q : V → HH → Prop) : Prop := match op, a with
  | .USub, .int x => Q (.int (-x)) H
  | .Invert, .int x => Q (.int (Builtin.bitNot x)) H
  | _, _ => False

mutual
noncomputable def pd0 : V → Option PyData
  | .int i => some (.int i)
  | .bool b => some (.bool b)
  | .none => some .none
  | .tup vs => (pds0 vs).map .tuple
  | _ => none
noncomputable def pds0 : List V → Option (List PyData)
  | [] => some []
  | v :: r => match pd0 v, pds0 r with
    | some d, some ds => some (d :: ds)
    | _, _ => none
end
noncomputable def pd1 (H : HH) : V → Option PyData
  | .ref l => match H l with
    | some (.list vs) => (pds0 vs).map .list
    | _ => none
  | v => pd0 v

noncomputable def eqV (a b : V) (H : HH) (Q : Bool → Prop) : Prop := match a, b with
  | .int x, .int y => Q (decide (x = y))
  | a, b => ∃ da db, pd1 H a = some da ∧ pd1 H b = some db ∧ da.depth ≤ 8 ∧ db.depth ≤ 8 ∧ Q (PyData.eqv da db)
noncomputable def inV (a b : V) (H : HH) (Q : Bool → Prop) : Prop := match b with
  | .ref l => ∃ (vs : List V) (is : List Int) (i : Int), H l = some (.list vs) ∧ vs = is.map V.int ∧ a = .int i ∧ Q (decide (i ∈ is))
  | .tup vs => ∃ xs d, pds0 vs = some xs ∧ pd0 a = some d ∧ d.depth ≤ 8 ∧ Q (xs.any fun y => PyData.eqv y d)
  | _ => False
/-- is: none alone, or a tuple beside it -/
noncomputable def isV (a b : V) (Q : Bool → Prop) : Prop := match b with
  | .none => (match a with
    | .none => Q true
    | .tup _ => Q false
    | _ => False)
  | _ => False
noncomputable def cmpV (op : CmpOp) (a b : V) (H : HH) (Q : Bool → Prop) : Prop := match op with
  | .Lt => isI a fun x => isI b fun y => Q (decide (x < y))
  | .LtE => isI a fun x => isI b fun y => Q (decide (x ≤ y))
  | .Gt => isI a fun x => isI b fun y => Q (decide (y < x))
  | .GtE => isI a fun x => isI b fun y => Q (decide (y ≤ x))
  | .Eq => eqV a b H Q
  | .NotEq => eqV a b H fun r => Q (!r)
  | .In => inV a b H Q
  | .NotIn => inV a b H fun r => Q (!r)
  | .Is => isV a b Q
  | _ => False

noncomputable def subV (a i : V) (H : HH) (Q : V → Prop) : Prop := match a, i with
  | .ref l, .int k => match H l with
    | some (.list vs) => small k ∧ ∃ v, (if 0 ≤ k then vs[k.toNat]? else if 0 ≤ (vs.length : Int) + k then vs[((vs.length : Int) + k).toNat]? else none) = some v ∧ Q v
    | some (.idict _ f) => ∃ v, f k = some v ∧ Q v
    | _ => False
  | .tup vs, .int k => 0 ≤ k ∧ small k ∧ ∃ v, vs[k.toNat]? = some v ∧ Q v
  | .frz vs, .int k => 0 ≤ k ∧ small k ∧ ∃ v, vs[k.toNat]? = some v ∧ Q v
  | _, _ => False

noncomputable def rangeLen (a b c : Int) : Nat := (Builtin.Range.rangeSize a b c).toNat
noncomputable def rangeL (a b c : Int) : List V := (List.range (rangeLen a b c)).map fun (i : Nat) => V.int (a + (i : Int) * c)
noncomputable def items (H : HH) : V → Option (List V)
  | .ref l => match H l with
    | some (.list vs) => some vs
    | _ => none
  | .tup vs => some vs
  | .rng a b c => some (rangeL a b c)
  | _ => none

noncomputable def one : List V → (V → Prop) → Prop
  | [v], k => k v
  | _, _ => False
theorem one_iff {k : V → Prop} : ∀ {l : List V}, one l k → ∃ v, l = [v] ∧ k v
  | [], h => h.elim
  | [v], h => ⟨v, rfl, h⟩
  | _ :: _ :: _, h => h.elim
noncomputable def lenV (v : V) (H : HH) (Q : V → HH → Prop) : Prop := match v with
  | .ref l => ∃ vs, H l = some (.list vs) ∧ vs.length < 2 ^ 62 ∧ Q (.int vs.length) H
  | .frz vs => vs.length < 2 ^ 62 ∧ Q (.int vs.length) H
  | _ => False
noncomputable def rgV : List V → HH → (V → HH → Prop) → Prop
  | [n], H, Q => isI n fun n => small n ∧ Q (.rng 0 n 1) H
  | [a, n], H, Q => isI a fun a => isI n fun n => small a ∧ small n ∧ Q (.rng a n 1) H
  | [a, n, c], H, Q => isI a fun a => isI n fun n => isI c fun c => small a ∧ small n ∧ (c = 1 ∨ c = -1) ∧ Q (.rng a n c) H
  | _, _, _ => False
noncomputable def mxV : List V → HH → (V → HH → Prop) → Prop
  | [x, y], H, Q => isI x fun x => isI y fun y => Q (.int (max x y)) H
  | [l], H, Q => isR l fun l => ∃ is : List Int, H l = some (.list (is.map V.int)) ∧ is ≠ [] ∧ ∀ m, m ∈ is → (∀ x ∈ is, x ≤ m) → Q (.int m) H
  | _, _, _ => False
noncomputable def biV (b : BI) (as : List V) (H : HH) (Q : V → HH → Prop) : Prop := match b with
  | .len => one as fun v => lenV v H Q
  | .range => rgV as H Q
  | .abs => one as fun v => isI v fun x => Q (.int x.natAbs) H
  | .max => mxV as H Q
  | .min => one as fun v => isR v fun l => ∃ is : List Int, H l = some (.list (is.map V.int)) ∧ is ≠ [] ∧ ∀ m, m ∈ is → (∀ x ∈ is, m ≤ x) → Q (.int m) H
  | .sorted => one as fun v => isR v fun l => ∃ is : List Int, H l = some (.list (is.map V.int)) ∧ is.length < 64 ∧ ∀ (c : Nat) (js : List Int), js.Perm is → js.Pairwise (· ≤ ·) → H c = none → Q (.ref c) (H.set c (.list (js.map V.int)))
  | .sum => one as fun v => isR v fun l => ∃ is : List Int, H l = some (.list (is.map V.int)) ∧ Q (.int is.sum) H

noncomputable def capL (loc : Loc) (caps : List Nat) : Loc := caps.map fun i => loc.getD i none

/-- a loop of a comprehension: the source, all its items, those still to come -/
noncomputable def cLoop (src : V) (all : List V) (turn : V → HH → (HH → Prop) → Prop) (Q : HH → Prop) : List V → HH → Prop
  | [], H => items H src = some all ∧ Q H
  | v :: r, H => items H src = some all ∧ turn v H (cLoop src all turn Q r)
noncomputable def cPut (a : Nat) (x : V) (H : HH) (k : HH → Prop) : Prop := ∃ ws, H a = some (.list ws) ∧ ws.length ≤ szl ∧ k (H.set a (.list (ws ++ [x])))

noncomputable def bopGo (op : BoolOp) (b : Bool) (stop go : Prop) : Prop := match op, b with
  | .And, false => stop
  | .Or, true => stop
  | _, _ => go

noncomputable abbrev Calls := Nat → List V → HH → (V → HH → Prop) → Prop
noncomputable def gtK : Nat → (List Int → Prop) → Prop
  | 0, k => k [0, 1, 0, -1, 1, 1, -1, -1]
  | 1, k => k [1, 0, -1, 0, 1, -1, -1, 1]
  | _ + 2, _ => False
theorem gtK_iff {k : List Int → Prop} : ∀ {g : Nat}, gtK g k → ∃ is, gtv[g]? = some is ∧ k is
  | 0, h => ⟨_, rfl, h⟩
  | 1, h => ⟨_, rfl, h⟩
  | _ + 2, h => h.elim
/-- an attribute of a made object -/
def rdA (H : HH) (g n : Nat) (k : V → Prop) : Prop := ∃ dx c sl v, H g = some (.inst dx) ∧ H dx = some (.attrs c sl) ∧ sl[n]? = some (some v) ∧ k v
def rdK (H : HH) (l k : Nat) (q : V → Prop) : Prop := ∃ vs v, H l = some (.sdict vs) ∧ vs[k]? = some v ∧ q v
def two : List V → (V → V → Prop) → Prop
  | [a, b, _, _], k => k a b
  | _, _ => False
theorem two_iff {k : V → V → Prop} : ∀ {vs : List V}, two vs k → ∃ a b c d, vs = [a, b, c, d] ∧ k a b
  | [], h => h.elim
  | [_], h => h.elim
  | [_, _], h => h.elim
  | [_, _, _], h => h.elim
  | [a, b, c, d], h => ⟨a, b, c, d, rfl, h⟩
  | _ :: _ :: _ :: _ :: _ :: _, h => h.elim
/-- a store into a list or a dict of ints -/
def wrI (H : HH) (l : Nat) (k : Int) (v : V) (q : HH → Prop) : Prop := match H l with
    | some (.list vs) => 0 ≤ k ∧ k < vs.length ∧ small k ∧ q (H.set l (.list (vs.set k.toNat v)))
    | some (.idict n f) => n ≤ szl ∧ q (H.set l (.idict (n + 1) fun j => if j = k then some v else f j))
    | _ => False
def wrA (H : HH) (g n : Nat) (v : V) (q : HH → Prop) : Prop := ∃ dx c sl, H g = some (.inst dx) ∧ H dx = some (.attrs c sl) ∧ n < sl.length ∧ c < 1000 ∧ n < 14 ∧ q (H.set dx (.attrs (c + 1) (sl.set n (some v))))
def wrL (H : HH) (l : Nat) (k r : Int) (q : HH → Prop) : Prop := ∃ vs, H l = some (.list vs) ∧ k < vs.length ∧ q (H.set l (.list (vs.set k.toNat (.int r))))
def apL (H : HH) (l : Nat) (v : V) (q : HH → Prop) : Prop := ∃ vs, H l = some (.list vs) ∧ vs.length ≤ szl ∧ q (H.set l (.list (vs ++ [v])))
noncomputable def augK : Operator → Int → Int → (Int → Prop) → Prop
  | .Add, x, y, k => k (x + y)
  | .Sub, x, y, k => k (x - y)
  | .BitOr, x, y, k => k (Builtin.bitOr x y)
  | _, _, _, _ => False
noncomputable def putK : Loc → List (Nat × Pos) → List V → (Loc → Prop) → Prop
  | loc, [], [], k => k loc
  | loc, x :: xs, v :: vs, k => vset loc x.1 v fun l => putK l xs vs k
  | _, _, _, _ => False

mutual
noncomputable def wpE (Φ : Calls) : CE → Bool → Loc → HH → (V → HH → Prop) → Prop
  | .int i _, m, _, H, Q => fin m (.int i) (Q · H)
  | .bool b _, m, _, H, Q => fin m (.bool b) (Q · H)
  | .none _, m, _, H, Q => fin m .none (Q · H)
  | .var i _, m, loc, H, Q => vget loc i fun v => fin m v (Q · H)
  | .gint g _, m, _, H, Q => igl giv g fun i => fin m (.int i) (Q · H)
  | .gtup g _, m, _, H, Q => gtK g fun is => fin m (.tup (is.map V.int)) (Q · H)
  | .bin op a b _, m, loc, H, Q => wpE Φ a false loc H fun x H1 => wpE Φ b false loc H1 fun y H2 => binV op x y H2 fun v H3 => fin m v (Q · H3)
  | .un op a _, m, loc, H, Q => match op, m with
    | .Not, true => wpE Φ a true loc H fun x H1 => isB x fun b => Q (.bool !b) H1
    | .Not, false => False
    | op, m => wpE Φ a false loc H fun x H1 => unV op x H1 fun v H2 => fin m v (Q · H2)
  | .cmp op a b _, _, loc, H, Q => wpE Φ a false loc H fun x H1 => wpE Φ b false loc H1 fun y H2 => cmpV op x y H2 fun r => Q (.bool r) H2
  | .cmp2 o1 o2 a b c _, m, loc, H, Q => isF (!m) (wpE Φ a false loc H fun x H1 => wpE Φ b false loc H1 fun y H2 => cmpV o1 x y H2 fun r =>
      iteB r (wpE Φ c false loc H2 fun z H3 => cmpV o2 y z H3 fun r2 => Q (.bool r2) H3) (Q (.bool false) H2))
  | .bop op es _, m, loc, H, Q => wpB Φ op es m loc H Q
  | .ife c a b _, m, loc, H, Q => wpE Φ c true loc H fun x H1 => isB x fun r => iteB r (wpE Φ a m loc H1 Q) (wpE Φ b m loc H1 Q)
  | .tup es _ _, m, loc, H, Q => wpEs Φ es loc H fun vs H1 => isF m (lenK 20 vs (Q (.tup vs) H1))
  | .lst es _, m, loc, H, Q => wpEs Φ es loc H fun vs H1 => isF m (lenK 20 vs (∀ c, H1 c = none → Q (.ref c) (H1.set c (.list vs))))
  | .sdict kvs _, m, loc, H, Q => m = false ∧ ∃ vs, kvs.map (fun q => loc[q.2.1]?) = vs.map (fun v => some (some v)) ∧ vs.length = 5 ∧ ∀ c, H c = none → Q (.ref c) (H.set c (.sdict vs))
  | .idict g _ _ _, m, _, H, Q => m = false ∧ ∃ i, giv[g]? = some i ∧ ∀ c, H c = none → Q (.ref c) (H.set c (.idict 1 fun j => if j = i then some (.int i) else none))
  | .sub a i _, m, loc, H, Q => wpE Φ a false loc H fun x H1 => wpE Φ i false loc H1 fun y H2 => subV x y H2 fun v => fin m v (Q · H2)
  | .skey i _ k _ _, m, loc, H, Q => vget loc i fun u => isR u fun l => rdK H l k fun v => fin m v (Q · H)
  | .upto i _ _ _ _, m, loc, H, Q => isF m (vget loc i fun u => isT u fun vs => two vs fun a b => Q (.tup [a, b]) H)
  | .attr i _ n _, m, loc, H, Q => vget loc i fun u => isR u fun g => rdA H g n fun v => fin m v (Q · H)
  | .call g _ es _, m, loc, H, Q => wpEs Φ es loc H fun vs H1 => Bx (Φ g vs H1 fun v H2 => fin m v (Q · H2))
  | .make _ es _, m, loc, H, Q => m = false ∧ wpEs Φ es loc H fun vs H1 => ∀ x dx, x ≠ dx → H1 x = none → H1 dx = none → Φ 1000 (.ref x :: vs) ((H1.set dx (.attrs 0 (attn.map fun _ => none))).set x (.inst dx)) fun v H2 => v = .none ∧ Q (.ref x) H2
  | .bi b _ es _, m, loc, H, Q => wpEs Φ es loc H fun vs H1 => biV b vs H1 fun v H2 => fin m v (Q · H2)
  | .index v _ e _ _, m, loc, H, Q => ∃ (l : Nat) (vs : List V), loc[v]? = some (some (.ref l)) ∧ H l = some (.list vs) ∧ wpE Φ e false loc H fun y H1 => ∃ (is : List Int) (i : Int), y = .int i ∧ H1 l = some (.list (is.map V.int)) ∧ PyData.layable0 (.list (is.map PyData.int)) = true ∧ i ∈ is ∧ fin m (.int (is.idxOf i)) (Q · H1)
  | .comp1 elt _ _ it cond caps _ _, m, loc, H, Q => isF m (wpE Φ it false loc H fun src H1 => ∃ all, items H1 src = some all ∧ all.length ≤ szl ∧ ∀ c, H1 c = none →
      cLoop src all (fun v H2 k => wpB Φ .And cond true (some v :: capL loc caps) H2 fun r H3 => isB r fun b => iteB b
        (wpE Φ elt false (some v :: capL loc caps) H3 fun x H4 => cPut c x H4 k) (k H3)) (fun H5 => Q (.ref c) H5) all (H1.set c (.list [])))
  | .comp2 elt _ _ it _ _ it2 cond caps _ _, m, loc, H, Q => isF m (wpE Φ it false loc H fun src H1 => ∃ all, items H1 src = some all ∧ all.length ≤ 1000 ∧ ∀ c, H1 c = none →
      cLoop src all (fun u H2 k2 => wpE Φ it2 false (some u :: none :: capL loc caps) H2 fun src2 H3 => ∃ all2, items H3 src2 = some all2 ∧ all2.length ≤ 1000 ∧
        cLoop src2 all2 (fun v H4 k => wpB Φ .And cond true (some u :: some v :: capL loc caps) H4 fun r H5 => isB r fun b => iteB b
          (wpE Φ elt false (some u :: some v :: capL loc caps) H5 fun x H6 => cPut c x H6 k) (k H5)) k2 all2 H3) (fun H7 => Q (.ref c) H7) all (H1.set c (.list [])))
/-- and, or: in a test the bools alone, else the last value looked at -/
noncomputable def wpB (Φ : Calls) (op : BoolOp) : CEs → Bool → Loc → HH → (V → HH → Prop) → Prop
  | .nil, m, _, H, Q => isF (!m) (Q (.bool (match op with | .And => true | .Or => false)) H)
  | .cons e r, m, loc, H, Q => match m, r with
    | false, .nil => wpE Φ e false loc H Q
    | false, r => wpE Φ e false loc H fun v H1 => tst v fun b => bopGo op b (Q v H1) (wpB Φ op r false loc H1 Q)
    | true, r => wpE Φ e true loc H fun v H1 => isB v fun b => bopGo op b (Q (.bool b) H1) (wpB Φ op r true loc H1 Q)
noncomputable def wpEs (Φ : Calls) : CEs → Loc → HH → (List V → HH → Prop) → Prop
  | .nil, _, H, Q => Q [] H
  | .cons e r, loc, H, Q => wpE Φ e false loc H fun v H1 => wpEs Φ r loc H1 fun vs H2 => Q (v :: vs) H2
end

noncomputable def augV : Operator → Int → Int → Option Int
  | .Add, x, y => some (x + y)
  | .Sub, x, y => some (x - y)
  | .BitOr, x, y => some (Builtin.bitOr x y)
  | _, _, _ => none
noncomputable def putAll (loc : Loc) : List (Nat × Pos) → List V → Option Loc
  | [], [] => some loc
  | (i, _) :: xs, v :: vs => if i < loc.length then putAll (loc.set i (some v)) xs vs else none
  | _, _ => none

theorem augK_iff {op : Operator} {x y : Int} {k : Int → Prop} (h : augK op x y k) : ∃ r, augV op x y = some r ∧ k r := by
  cases op <;> first | exact ⟨_, rfl, h⟩ | exact h.elim
theorem putK_iff : ∀ {xs : List (Nat × Pos)} {vs : List V} {loc : Loc} {k : Loc → Prop}, putK loc xs vs k → ∃ loc1, putAll loc xs vs = some loc1 ∧ k loc1
  | [], [], loc, _, h => ⟨loc, rfl, h⟩
  | _ :: _, [], _, _, h => h.elim
  | [], _ :: _, _, _, h => h.elim
  | (i, _) :: xs, v :: vs, loc, k, h => by
    obtain ⟨h1, h2⟩ := vset_iff h
    obtain ⟨l, e, q⟩ := putK_iff h2
    exact ⟨l, by rw [putAll, if_pos h1, e], q⟩
/-- a for: the source, its items, those still to come -/
noncomputable def fLoop (src : V) (all : List V) (turn : V → Loc → HH → (Fl → Loc → HH → Prop) → Prop) (Q : Fl → Loc → HH → Prop) : List V → Loc → HH → Prop
  | [], loc, H => items H src = some all ∧ Q .next loc H
  | v :: r, loc, H => items H src = some all ∧ turn v loc H fun f loc1 H1 => match f with
    | .next => fLoop src all turn Q r loc1 H1
    | .cont => fLoop src all turn Q r loc1 H1
    | .brk => Q .next loc1 H1
    | .ret w => Q (.ret w) loc1 H1

mutual
noncomputable def wpS (Φ : Calls) : CS → Loc → HH → (Fl → Loc → HH → Prop) → Prop
  | .asg i _ e _, loc, H, Q => wpE Φ e false loc H fun v H1 => vset loc i v fun l => Q .next l H1
  | .asgT xs _ _ e _, loc, H, Q => wpE Φ e false loc H fun v H1 => isT v fun vs => putK loc xs vs fun l => Q .next l H1
  | .asgA i _ n _ e _, loc, H, Q => wpE Φ e false loc H fun v H1 => vget loc i fun u => isR u fun g => wrA H1 g n v fun H2 => Q .next loc H2
  | .asgI o i _ e _, loc, H, Q => wpE Φ e false loc H fun v H1 => wpE Φ o false loc H1 fun x H2 => wpE Φ i false loc H2 fun y H3 => isR x fun l => isI y fun k => wrI H3 l k v fun H4 => Q .next loc H4
  | .aug i _ op e _, loc, H, Q => vget loc i fun u => wpE Φ e false loc H fun v H1 => isI u fun x => isI v fun y => augK op x y fun r => vset loc i (.int r) fun l => Q .next l H1
  | .augI o i _ op e _, loc, H, Q => wpE Φ o false loc H fun x H1 => wpE Φ i false loc H1 fun y H2 => isR x fun l => isI y fun k => 0 ≤ k ∧ small k ∧ subV (.ref l) (.int k) H2 fun u => wpE Φ e false loc H2 fun v H3 => isI u fun a => isI v fun b => augK op a b fun r => wrL H3 l k r fun H4 => Q .next loc H4
  | .ifs c th el _, loc, H, Q => wpE Φ c true loc H fun x H1 => isB x fun b => iteB b (wpSs Φ th loc H1 Q) (wpSs Φ el loc H1 Q)
  | .whl c body _, loc, H, Q => ∃ (I : Nat → Loc → HH → Prop) (n : Nat), I n loc H ∧ ∀ n loc1 H1, I n loc1 H1 → wpE Φ c true loc1 H1 fun x H2 => isB x fun b => iteB b
    (wpSs Φ body loc1 H2 fun f loc3 H3 => match f with
      | .next => ∃ m, m < n ∧ I m loc3 H3
      | .cont => ∃ m, m < n ∧ I m loc3 H3
      | .brk => Q .next loc3 H3
      | .ret w => Q (.ret w) loc3 H3) (Q .next loc1 H2)
  | .for1 i _ it body _, loc, H, Q => wpE Φ it false loc H fun src H1 => ∃ all, items H1 src = some all ∧ fLoop src all (fun v loc2 H2 k => vset loc2 i v fun l => Bx (wpSs Φ body l H2 k)) Q all loc H1
  | .forT xs _ _ it body _, loc, H, Q => wpE Φ it false loc H fun src H1 => ∃ all, items H1 src = some all ∧ fLoop src all (fun v loc2 H2 k => isT v fun vs => putK loc2 xs vs fun l => Bx (wpSs Φ body l H2 k)) Q all loc H1
  | .ret e _, loc, H, Q => wpE Φ e false loc H fun v H1 => Q (.ret v) loc H1
  | .cont _, loc, H, Q => Q .cont loc H
  | .brk _, loc, H, Q => Q .brk loc H
  | .app o e _ _ _, loc, H, Q => wpE Φ o false loc H fun x H1 => isR x fun l => (∃ us, H1 l = some (.list us)) ∧ wpE Φ e false loc H1 fun v H2 => apL H2 l v fun H3 => Q .next loc H3
  | .exp e _, loc, H, Q => wpE Φ e false loc H fun v H1 => isN v (Q .next loc H1)
  | .rais .., _, _, _ => False
noncomputable def wpSs (Φ : Calls) : CSs → Loc → HH → (Fl → Loc → HH → Prop) → Prop
  | .nil, loc, H, Q => Q .next loc H
  | .cons e r, loc, H, Q => wpS Φ e loc H fun f loc1 H1 => match f with
    | .next => Bx (wpSs Φ r loc1 H1 Q)
    | f => Q f loc1 H1
end

open PySem PySem.W PyProof.Rows PySem.Calls

noncomputable abbrev PR : Program := PySem.Challenge.pw_pf0100_01
noncomputable def cGeo : Nat := 65

mutual
noncomputable def VR (H : HH) (h : Heap) : V → Value → Prop
  | .int i, x => ∃ t, x = .int i t
  | .bool b, x => x = .bool b
  | .none, x => x = .none
  | .str u, x => ∃ t, x = .str u t
  | .ref a, x => x = .ref a
  | .tup vs, x => ∃ a its, x = .ref a ∧ h.IsTuple a its ∧ H a = none ∧ VRs H h vs its.toList
  | .rng a b c, x => ∃ r t u z, x = .ref r ∧ IsRange h r a b c t u z ∧ H r = none ∧ Builtin.Range.small a b c = true
  | .frz vs, x => ∃ a its, x = .ref a ∧ h.IsList a its ∧ H a = none ∧ VRs H h vs its.toList
noncomputable def VRs (H : HH) (h : Heap) : List V → List Value → Prop
  | [], [] => True
  | v :: r, x :: y => VR H h v x ∧ VRs H h r y
  | _, _ => False
end

noncomputable def Evo (H : HH) (h : Heap) (H' : HH) (h' : Heap) : Prop := ∀ a o, h.get? a = some o → H a = none → h'.get? a = some o ∧ H' a = none

theorem Evo.refl (H : HH) (h : Heap) : Evo H h H h := fun _ _ e n => ⟨e, n⟩
theorem Evo.trans {H H' H'' : HH} {h h' h'' : Heap} (x : Evo H h H' h') (y : Evo H' h' H'' h'') : Evo H h H'' h'' :=
  fun a o e n => let ⟨e', n'⟩ := x a o e n; y a o e' n'

/-- what never changes: a tuple, a range, a list that is none of the clean heap's -/
noncomputable def fixd (o : Obj) : Prop := (o.cls = .type "tuple" ∧ ∃ xs n, o.data = .seq xs n) ∨ (o.cls = .type "range" ∧ ∃ xs, o.data = .fields xs) ∨ (o.cls = .type "list" ∧ ∃ xs n, o.data = .seq xs n)
noncomputable def EvoT (H : HH) (h : Heap) (H' : HH) (h' : Heap) : Prop := ∀ a o, h.get? a = some o → H a = none → fixd o → h'.get? a = some o ∧ H' a = none
theorem Evo.t {H H' : HH} {h h' : Heap} (x : Evo H h H' h') : EvoT H h H' h' := fun a o e n _ => x a o e n
noncomputable def EvoX (X : Nat → Prop) (H : HH) (h : Heap) (H' : HH) (h' : Heap) : Prop := ∀ a o, h.get? a = some o → H a = none → ¬ X a → h'.get? a = some o ∧ H' a = none
mutual
theorem VR.monoT {H H' : HH} {h h' : Heap} (E : EvoT H h H' h') : ∀ {v : V} {x : Value}, VR H h v x → VR H' h' v x
  | .int _, _, r => r
  | .bool _, _, r => r
  | .none, _, r => r
  | .str _, _, r => r
  | .ref _, _, r => r
  | .tup vs, _, r => by
    obtain ⟨a, its, rfl, ⟨o, ho, hc, n, hd⟩, hn, r⟩ := r
    obtain ⟨ho', hn'⟩ := E a o ho hn (.inl ⟨hc, _, _, hd⟩)
    exact ⟨a, its, rfl, ⟨o, ho', hc, n, hd⟩, hn', VRs.monoT E r⟩
  | .frz vs, _, r => by
    obtain ⟨a, its, rfl, ⟨o, ho, hc, n, hd⟩, hn, r⟩ := r
    obtain ⟨ho', hn'⟩ := E a o ho hn (.inr (.inr ⟨hc, _, _, hd⟩))
    exact ⟨a, its, rfl, ⟨o, ho', hc, n, hd⟩, hn', VRs.monoT E r⟩
  | .rng .., _, r => by
    obtain ⟨a, t, u, z, rfl, ho, hn, hs⟩ := r
    obtain ⟨ho', hn'⟩ := E a _ ho hn (.inr (.inl ⟨rfl, _, rfl⟩))
    exact ⟨a, t, u, z, rfl, ho', hn', hs⟩
theorem VRs.monoT {H H' : HH} {h h' : Heap} (E : EvoT H h H' h') : ∀ {vs : List V} {xs : List Value}, VRs H h vs xs → VRs H' h' vs xs
  | [], [], _ => trivial
  | _ :: _, _ :: _, ⟨a, b⟩ => ⟨VR.monoT E a, VRs.monoT E b⟩
  | [], _ :: _, r => r.elim
  | _ :: _, [], r => r.elim
end
theorem VR.mono {H H' : HH} {h h' : Heap} (E : Evo H h H' h') {v : V} {x : Value} (r : VR H h v x) : VR H' h' v x := r.monoT E.t
theorem VRs.mono {H H' : HH} {h h' : Heap} (E : Evo H h H' h') {v : List V} {x : List Value} (r : VRs H h v x) : VRs H' h' v x := r.monoT E.t

theorem VRs.length {H : HH} {h : Heap} : ∀ {vs : List V} {xs : List Value}, VRs H h vs xs → vs.length = xs.length
  | [], [], _ => rfl
  | _ :: r, _ :: y, ⟨_, b⟩ => by rw [List.length_cons, List.length_cons, VRs.length b]
  | [], _ :: _, r => r.elim
  | _ :: _, [], r => r.elim
theorem VRs.get {H : HH} {h : Heap} : ∀ {vs : List V} {xs : List Value} (i : Nat) {v : V}, VRs H h vs xs → vs[i]? = some v → ∃ x, xs[i]? = some x ∧ VR H h v x
  | _ :: r, _ :: y, 0, v, ⟨a, _⟩, e => by simp only [List.getElem?_cons_zero, Option.some.injEq] at e; subst e; exact ⟨_, rfl, a⟩
  | _ :: r, _ :: y, i + 1, v, ⟨_, b⟩, e => by rw [List.getElem?_cons_succ] at e ⊢; exact VRs.get i b e
  | [], [], _, _, _, e => by simp at e
  | [], _ :: _, _, _, r, _ => r.elim
  | _ :: _, [], _, _, r, _ => r.elim
theorem VRs.append {H : HH} {h : Heap} : ∀ {vs ws : List V} {xs ys : List Value}, VRs H h vs xs → VRs H h ws ys → VRs H h (vs ++ ws) (xs ++ ys)
  | [], _, [], _, _, r => r
  | _ :: _, _, _ :: _, _, ⟨a, b⟩, r => ⟨a, VRs.append b r⟩
  | [], _, _ :: _, _, r, _ => r.elim
  | _ :: _, _, [], _, r, _ => r.elim
theorem VRs.set {H : HH} {h : Heap} : ∀ {vs : List V} {xs : List Value} (i : Nat) {v : V} {x : Value}, VRs H h vs xs → VR H h v x → VRs H h (vs.set i v) (xs.set i x)
  | [], [], _, _, _, _, _ => trivial
  | _ :: _, _ :: _, 0, _, _, ⟨_, b⟩, r => ⟨r, b⟩
  | _ :: _, _ :: _, i + 1, _, _, ⟨a, b⟩, r => ⟨a, VRs.set i b r⟩
  | [], _ :: _, _, _, _, r, _ => r.elim
  | _ :: _, [], _, _, _, r, _ => r.elim
theorem VRs.replicate {H : HH} {h : Heap} {v : V} {x : Value} (r : VR H h v x) : ∀ n, VRs H h (List.replicate n v) (List.replicate n x)
  | 0 => trivial
  | n + 1 => ⟨r, VRs.replicate r n⟩
theorem VRs.nil_inv {H : HH} {h : Heap} {xs : List Value} (r : VRs H h [] xs) : xs = [] := by cases xs with | nil => rfl | cons _ _ => exact r.elim
theorem VRs.cons_inv {H : HH} {h : Heap} {v : V} {vs : List V} {xs : List Value} (r : VRs H h (v :: vs) xs) : ∃ x ys, xs = x :: ys ∧ VR H h v x ∧ VRs H h vs ys := by
  cases xs with | nil => exact r.elim | cons x ys => exact ⟨x, ys, rfl, r.1, r.2⟩

/-- an object as the clean heap says it -/
noncomputable def OR (w : World) (H : HH) (h : Heap) (a : Nat) : CO → Prop
  | .list vs => ∃ its, h.PlainList a its ∧ VRs H h vs its.toList
  | .inst dx => h.get? a = some (instObj cGeo dx)
  | .attrs n sl => ∃ (es : List DictEntry) (ep : Nat), h.get? a = some (dictOf es ep) ∧ (∀ e ∈ es, ∃ x t, e.key = .str x t) ∧ es.length ≤ n ∧ ∀ i v, sl[i]? = some (some v) → ∃ e, es.find? (·.key.isStr (attn.getD i "")) = some e ∧ VR H h v e.val
  | .sdict vs => ∃ xs, h.DictOf (strKind PR w) a (keyn.zip xs) ∧ VRs H h vs xs ∧ vs.length = 5
  | .idict n f => ∃ g, h.IntMap a g ∧ h.DictLe a n ∧ ∀ k v, f k = some v → ∃ x, g k = some x ∧ VR H h v x

structure HR (w : World) (h₀ : Heap) (H : HH) (h : Heap) : Prop where
  base : ∀ a o, h₀.get? a = some o → h.get? a = some o ∧ H a = none
  obj : ∀ a co, H a = some co → OR w H h a co

theorem OR.lt {w : World} {H : HH} {h : Heap} {a : Nat} {co : CO} (r : OR w H h a co) : ∃ o, h.get? a = some o := by
  cases co with
  | list _ => exact r.elim fun _ r => r.1.elim fun _ ho => ⟨_, ho⟩
  | inst _ => exact ⟨_, r⟩
  | attrs _ _ => exact r.elim fun _ r => r.elim fun _ r => ⟨_, r.1⟩
  | sdict _ => exact r.elim fun _ r => r.1.elim fun o r => r.elim fun _ r => r.elim fun _ r => ⟨o, r.1⟩
  | idict _ _ => exact r.elim fun _ r => r.1.elim fun o r => r.elim fun _ r => r.elim fun _ r => ⟨o, r.1⟩
/-- an object that stands as it stood, its contents seen from later on -/
theorem OR.keep {w : World} {H H' : HH} {h h' : Heap} {a : Nat} (E : EvoT H h H' h') (ha : ∀ o, h.get? a = some o → h'.get? a = some o) {co : CO} (r : OR w H h a co) : OR w H' h' a co := by
  cases co with
  | list _ => exact r.elim fun its r => ⟨its, r.1.at ha, r.2.monoT E⟩
  | inst _ => exact ha _ r
  | attrs _ _ =>
    obtain ⟨es, ep, ho, h1, h2, r⟩ := r
    refine ⟨es, ep, ha _ ho, h1, h2, fun i v e => ?_⟩
    obtain ⟨x, h6, h7⟩ := r i v e
    exact ⟨x, h6, h7.monoT E⟩
  | sdict _ =>
    obtain ⟨xs, D, r, l⟩ := r
    exact ⟨xs, D.at ha, r.monoT E, l⟩
  | idict _ _ =>
    obtain ⟨g, ⟨o, es, ep, ho, hr⟩, hl, r⟩ := r
    refine ⟨g, ⟨o, es, ep, ha o ho, hr⟩, fun o' es' ep' e d => hl o' es' ep' (by rw [ha o ho] at e; rw [ho]; exact e) d, fun k v e => ?_⟩
    obtain ⟨x, h6, h7⟩ := r k v e
    exact ⟨x, h6, h7.monoT E⟩

theorem HR.fresh {w : World} {h₀ : Heap} {H : HH} {h : Heap} (R : HR w h₀ H h) {a : Nat} (e : h.get? a = none) : H a = none := by
  cases q : H a with
  | none => rfl
  | some co => obtain ⟨o, ho⟩ := (R.obj a co q).lt; rw [e] at ho; cases ho
theorem HR.old {w : World} {h₀ : Heap} {H : HH} {h : Heap} (R : HR w h₀ H h) {a : Nat} (e : h.get? a = none) : h₀.get? a = none := by
  cases q : h₀.get? a with
  | none => rfl
  | some o => rw [(R.base a o q).1] at e; cases e
theorem get_size (h : Heap) : h.get? h.objs.size = none := by
  cases q : h.get? h.objs.size with
  | none => rfl
  | some o => exact absurd (Heap.lt_size q) (Nat.lt_irrefl _)

/-- the model's heap grows by what the clean one does not speak of -/
theorem HR.grow {w : World} {h₀ : Heap} {H : HH} {h h' : Heap} (R : HR w h₀ H h) (k : ∀ a o, h.get? a = some o → h'.get? a = some o) : HR w h₀ H h' ∧ Evo H h H h' :=
  have E : Evo H h H h' := fun a o e n => ⟨k a o e, n⟩
  ⟨⟨fun a o e => ⟨k a o (R.base a o e).1, (R.base a o e).2⟩, fun a co e => (R.obj a co e).keep E.t (k a)⟩, E⟩
theorem set_same (H : HH) (a : Nat) (co : CO) : H.set a co a = some co := if_pos rfl
theorem set_other (H : HH) {a b : Nat} (co : CO) (h : b ≠ a) : H.set a co b = H b := if_neg h
/-- a new object -/
theorem HR.new {w : World} {h₀ : Heap} {H : HH} {h h' : Heap} {c : Nat} {co : CO} (R : HR w h₀ H h) (hc : h.get? c = none) (k : ∀ a o, h.get? a = some o → h'.get? a = some o)
    (ho : Evo H h (H.set c co) h' → OR w (H.set c co) h' c co) : HR w h₀ (H.set c co) h' ∧ Evo H h (H.set c co) h' := by
  have E : Evo H h (H.set c co) h' := fun a o e n => ⟨k a o e, (set_other H co (fun q => by rw [q, hc] at e; cases e)).trans n⟩
  refine ⟨⟨fun a o e => ⟨k a o (R.base a o e).1, (E a o (R.base a o e).1 (R.base a o e).2).2⟩, fun a co' e => ?_⟩, E⟩
  by_cases q : a = c
  · subst q; rw [set_same] at e; cases e; exact ho E
  · rw [set_other H co q] at e; exact (R.obj a co' e).keep E.t (k a)
/-- an object of the clean heap changed -/
theorem HR.upd {w : World} {h₀ : Heap} {H : HH} {h h' : Heap} {c : Nat} {co co' : CO} (R : HR w h₀ H h) (hc : H c = some co) (k : ∀ a, a ≠ c → h'.get? a = h.get? a)
    (ho : Evo H h (H.set c co') h' → OR w (H.set c co') h' c co') : HR w h₀ (H.set c co') h' ∧ Evo H h (H.set c co') h' := by
  have ne : ∀ a, H a = none → a ≠ c := fun a n q => by rw [q, hc] at n; cases n
  have E : Evo H h (H.set c co') h' := fun a o e n => ⟨(k a (ne a n)).trans e, (set_other H co' (ne a n)).trans n⟩
  refine ⟨⟨fun a o e => E a o (R.base a o e).1 (R.base a o e).2, fun a co₁ e => ?_⟩, E⟩
  by_cases q : a = c
  · subst q; rw [set_same] at e; cases e; exact ho E
  · rw [set_other H co' q] at e; exact (R.obj a co₁ e).keep E.t fun o e' => (k a q).trans e'

/-- a thing of which the clean heap does not speak, changed: a frame, a cell, an iterator -/
theorem HR.poke {w : World} {h₀ : Heap} {H : HH} {h h' : Heap} {C : Nat} (R : HR w h₀ H h) (hC : H C = none) (h0 : h₀.get? C = none) (hf : ∀ o, h.get? C = some o → ¬ fixd o) (k : ∀ a o, a ≠ C → h.get? a = some o → h'.get? a = some o) :
    HR w h₀ H h' ∧ EvoT H h H h' ∧ EvoX (· = C) H h H h' := by
  have E : EvoT H h H h' := fun a o e n f => ⟨k a o (fun q => hf o (q ▸ e) f) e, n⟩
  refine ⟨⟨fun a o e => ⟨k a o (fun q => by rw [q, h0] at e; cases e) (R.base a o e).1, (R.base a o e).2⟩, fun a co e => ?_⟩, E, fun a o e n q => ⟨k a o q e, n⟩⟩
  exact (R.obj a co e).keep E fun o e' => k a o (fun q => by rw [q, hC] at e; cases e) e'
noncomputable def Nw (H : HH) (h : Heap) (a : Nat) : Prop := ∀ o, h.get? a = some o → H a ≠ none
theorem Nw.of {H : HH} {h : Heap} {a : Nat} (e : h.get? a = none) : Nw H h a := fun o q => by rw [e] at q; cases q
theorem Nw.back {H H' : HH} {h h' : Heap} {a : Nat} (E : Evo H h H' h') (e : h'.get? a = none) : Nw H h a := fun o q n => by have := (E a o q n).1; rw [e] at this; cases this
theorem Evo.poke' {H H' : HH} {h h' h'' : Heap} {C : Nat} (E : Evo H h H' h') (n : Nw H h C) (k : ∀ a o, a ≠ C → h'.get? a = some o → h''.get? a = some o) : Evo H h H' h'' :=
  fun a o e m => have z := E a o e m; ⟨k a o (fun q => n o (q ▸ e) (q ▸ m)) z.1, z.2⟩
theorem Evo.poke {H H' : HH} {h h' h'' : Heap} {C : Nat} (E : Evo H h H' h') (n : h.get? C = none) (k : ∀ a o, a ≠ C → h'.get? a = some o → h''.get? a = some o) : Evo H h H' h'' :=
  fun a o e m => have z := E a o e m; ⟨k a o (fun q => by rw [q, n] at e; cases e) z.1, z.2⟩
theorem nsFix {h : Heap} {C : Nat} {m : Str → Option Value} (x : h.Ns C m) : ∀ o, h.get? C = some o → ¬ fixd o := fun o ho f => by
  obtain ⟨o', es, ep, ho', hd, _⟩ := x
  rw [ho] at ho'; cases ho'
  rcases f with ⟨_, _, _, f⟩ | ⟨_, _, f⟩ | ⟨_, xs, n, f⟩ <;> (rw [hd] at f; cases f)
theorem cellFix {h : Heap} {C : Nat} {v : Option Value} (x : h.IsCell C v) : ∀ o, h.get? C = some o → ¬ fixd o := fun o ho f => by
  obtain ⟨o', ho', hd⟩ := x
  rw [ho] at ho'; cases ho'
  rcases f with ⟨_, _, _, f⟩ | ⟨_, _, f⟩ | ⟨_, xs, n, f⟩ <;> (rw [hd] at f; cases f)

/-- the frame at hand -/
structure Cx where
  ns : List Str
  gl : List Str
  env : Env
structure CxOk (c : Cx) : Prop where
  kind : c.env.scope.kind = .function
  glob : c.env.globals = mainGlobals
  blt : c.env.builtins = builtinsNs
  nod : c.ns.Nodup
  slots : ∀ x ∈ c.ns, c.env.kindOf x = some .local ∨ (c.env.kindOf x = some .cell ∧ ∃ a, c.env.cells.lookup x = some a)
  inj : ∀ x y a, c.env.cells.lookup x = some a → c.env.cells.lookup y = some a → x = y
  gls : ∀ x ∈ c.gl, c.env.kindOf x = some .globalImplicit
  dbg : ∀ x ∈ c.ns, (x == ("__debug__" : Str)) = false
  gdbg : ∀ x ∈ c.gl, (x == ("__debug__" : Str)) = false

noncomputable def Held (c : Cx) (h : Heap) (m : Str → Option Value) (x : Str) (v : Value) : Prop :=
  (c.env.kindOf x = some .local ∧ m x = some v) ∨ (c.env.kindOf x = some .cell ∧ ∃ a, c.env.cells.lookup x = some a ∧ h.IsCell a (some v))
structure FR (h₀ : Heap) (c : Cx) (loc : Loc) (H : HH) (h : Heap) : Prop where
  len : loc.length = c.ns.length
  off : H c.env.locals = none ∧ h₀.get? c.env.locals = none
  map : ∃ m, h.Ns c.env.locals m ∧ ∀ i v, loc[i]? = some (some v) → ∃ x, Held c h m (c.ns.getD i "") x ∧ VR H h v x
  cell : ∀ x a, c.env.cells.lookup x = some a → (∃ v, h.IsCell a v) ∧ H a = none ∧ h₀.get? a = none

theorem isCell_at {h h' : Heap} {a : Nat} {v : Option Value} (x : h.IsCell a v) (e : ∀ o, h.get? a = some o → h'.get? a = some o) : h'.IsCell a v := let ⟨o, ho, r⟩ := x; ⟨o, e o ho, r⟩
theorem FR.evo {h₀ : Heap} {c : Cx} {loc : Loc} {H H' : HH} {h h' : Heap} (F : FR h₀ c loc H h) (E : Evo H h H' h') : FR h₀ c loc H' h' := by
  obtain ⟨hl, ⟨o1, o2⟩, ⟨m, hn, hm⟩, hc⟩ := F
  have k : ∀ a, H a = none → ∀ o, h.get? a = some o → h'.get? a = some o := fun a n o e => (E a o e n).1
  obtain ⟨oL, e1, e2, hL, r⟩ := id hn
  refine ⟨hl, ⟨(E _ _ hL o1).2, o2⟩, ⟨m, hn.at (k _ o1), fun i v e => ?_⟩, fun x a e => ?_⟩
  · obtain ⟨x, hx, hv⟩ := hm i v e
    refine ⟨x, hx.imp id fun q => ⟨q.1, ?_⟩, hv.mono E⟩
    obtain ⟨a, ha, hx⟩ := q.2
    exact ⟨a, ha, isCell_at hx (k a (hc _ a ha).2.1)⟩
  · obtain ⟨⟨v, hv⟩, h1, h2⟩ := hc x a e
    obtain ⟨o, ho, r⟩ := id hv
    exact ⟨⟨v, isCell_at hv (k a h1)⟩, (E a o ho h1).2, h2⟩

noncomputable def Sm (s s' : Shared) : Prop := ∃ h tk, s' = { s with heap := h, toks := tk }
theorem Sm.refl (s : Shared) : Sm s s := ⟨_, _, rfl⟩
theorem Sm.trans {s s' s'' : Shared} (x : Sm s s') (y : Sm s' s'') : Sm s s'' := by
  obtain ⟨h, tk, rfl⟩ := x; obtain ⟨h', tk', rfl⟩ := y; exact ⟨h', tk', rfl⟩

/-- what an expression leaves -/
noncomputable def EP (w : World) (h₀ : Heap) (H : HH) (s : Shared) (Q : V → HH → Prop) (x : Value) (s' : Shared) : Prop :=
  ∃ v H', Q v H' ∧ VR H' s'.heap v x ∧ HR w h₀ H' s'.heap ∧ Evo H s.heap H' s'.heap ∧ Sm s s'
/-- what a test leaves -/
noncomputable def TP (w : World) (h₀ : Heap) (H : HH) (s : Shared) (Q : V → HH → Prop) (b : Bool) (s' : Shared) : Prop :=
  ∃ H', Q (.bool b) H' ∧ HR w h₀ H' s'.heap ∧ Evo H s.heap H' s'.heap ∧ Sm s s'
noncomputable def LP (w : World) (h₀ : Heap) (H : HH) (s : Shared) (Q : List V → HH → Prop) (xs : List Value) (s' : Shared) : Prop :=
  ∃ vs H', Q vs H' ∧ VRs H' s'.heap vs xs ∧ HR w h₀ H' s'.heap ∧ Evo H s.heap H' s'.heap ∧ Sm s s'
noncomputable abbrev NoE : Value → Shared → Prop := fun _ _ => False
open PySem PySem.W PyProof.Rows PySem.Calls PySem.SeqAt

structure GB (w : World) (h₀ : Heap) : Prop where
  X : (kHeap w.params).In h₀
  g : ∃ mg, h₀.Ns mainGlobals mg
  b : ∃ mb, h₀.Ns builtinsNs mb ∧ ∀ x : Str, x ≠ "__name__" → mb x = bootBuiltins x
  lim : h₀.NoLimit
structure AOk (A : Around) (n : Nat) : Prop where
  hh : A.handled = none
  dp : A.depth + 3 * n + 20 < 1000
  un : A.units + 12 * n + 200 < 9900

section
variable {w : World} {A : Around} {h₀ : Heap} {H : HH} {s : Shared} {n : Nat} {Q : V → HH → Prop}

theorem ep_same {v : V} {x : Value} {tk : Nat} (R : HR w h₀ H s.heap) (q : Q v H) (r : VR H s.heap v x) : EP w h₀ H s Q x { s with toks := tk } :=
  ⟨v, H, q, r, R, Evo.refl _ _, s.heap, tk, rfl⟩
theorem ep_here {v : V} {x : Value} (R : HR w h₀ H s.heap) (q : Q v H) (r : VR H s.heap v x) : EP w h₀ H s Q x s := ⟨v, H, q, r, R, Evo.refl _ _, Sm.refl s⟩
theorem ep_int {i : Int} {t : Tok} {tk : Nat} (R : HR w h₀ H s.heap) (q : Q (.int i) H) : EP w h₀ H s Q (.int i t) { s with toks := tk } := ep_same R q ⟨t, rfl⟩
theorem ep_grow {v : V} {x : Value} {h' : Heap} {tk : Nat} (R : HR w h₀ H s.heap) (k : ∀ a o, s.heap.get? a = some o → h'.get? a = some o) (q : Q v H) (r : VR H h' v x) : EP w h₀ H s Q x { s with heap := h', toks := tk } :=
  have g := R.grow k
  ⟨v, H, q, r, g.1, g.2, h', tk, rfl⟩
/-- a new list -/
theorem ep_list {vs : List V} {xs : List Value} {c : Nat} {h' : Heap} {tk : Nat} {e : Nat} (R : HR w h₀ H s.heap) (k : ∀ a o, s.heap.get? a = some o → h'.get? a = some o) (hc : s.heap.get? c = none)
    (ho : h'.get? c = some { cls := .type "list", data := .seq xs.toArray e }) (r : VRs H s.heap vs xs) (q : ∀ c, H c = none → Q (.ref c) (H.set c (.list vs))) : EP w h₀ H s Q (.ref c) { s with heap := h', toks := tk } :=
  have g := R.new (co := .list vs) hc k fun E => ⟨xs.toArray, ⟨e, ho⟩, r.mono E⟩
  ⟨.ref c, _, q c (R.fresh hc), rfl, g.1, g.2, h', tk, rfl⟩
theorem push_keeps (h : Heap) (o : Obj) : ∀ a o', h.get? a = some o' → (h.push o).get? a = some o' := fun _ _ e => Heap.get?_push_of_some _ e

theorem vr_ints {h : Heap} : ∀ {is : List Int} {xs : List Value}, VRs H h (is.map V.int) xs → IntsAre xs is
  | [], [], _ => .nil
  | i :: is, x :: xs, ⟨⟨t, e⟩, r⟩ => by subst e; exact .cons i t (vr_ints r)
  | [], _ :: _, r => r.elim
  | _ :: _, [], r => r.elim
theorem ints_vr {h : Heap} : ∀ {is : List Int} {xs : List Value}, IntsAre xs is → VRs H h (is.map V.int) xs
  | _, _, .nil => trivial
  | _, _, .cons i t r => ⟨⟨t, rfl⟩, ints_vr r⟩

theorem snd_list_mul {l : Nat} {x : Value} {u : Tok} {k : Int} {e : Nat} {E : Value → Shared → Prop} {Q : Value → Shared → Prop} (hl : s.heap.get? l = some { cls := .type "list", data := .seq #[x] e }) (h0 : 0 ≤ k) (hk : k ≤ szl)
    (h : Q (.ref s.heap.objs.size) { s with heap := s.heap.push { cls := .type "list", data := .seq (List.replicate k.toNat x).toArray } }) : wpAny (model PR w) A (binaryOp .Mult (.ref l) (.int k u)) Q E s := by
  have hk' : k ≤ 16000000 := hk
  refine wpAny_binaryOp_repeat_ref (T := "list") (U := "int") (by decide) ⟨_, hl, rfl⟩ (fun s' => typeIs_int s' k u) noFill_list_mul PySem.F.fills_int_mul PySem.F.slot_int_rmul repeat_list PySem.F.slot_int_index.lookup
    (call_meets PySem.F.slot_int_rmul (typeIs_int s k u) PySem.F.entry_int_rmul (PySem.F.args_int_rmul_2 _ _) (int___rmul___int_list k u l #[x] e)
      ⟨hl, rfl, ⟨_, hl, rfl⟩, call_meets PySem.F.slot_list_mul ⟨_, hl, rfl⟩ PySem.F.entry_list_mul (PySem.F.args_list_mul_2 _ _)
        (AutoListH.list___mul___list_int_3 l #[x] e k u (by simp [Builtin.List.listFitsIndex]; omega) (by simp; omega) (by simp [Builtin.List.listTooLong, sizeLine]; omega))
        ⟨hl, ?_⟩⟩)
  have e1 : List.foldl (fun x1 x2 => x1 ++ x2) #[] (List.replicate (if (#[x] : Array Value).isEmpty = true then 0 else k.toNat) #[x]) = (List.replicate k.toNat x).toArray := by
    rw [listMul_foldl_if]
    congr 1
    generalize k.toNat = m
    induction m with
    | zero => rfl
    | succ m ih => rw [List.replicate_succ, List.flatten_cons, ih, List.replicate_succ]; rfl
  rw [e1]
  exact h

theorem snd_list_add {l b : Nat} {xs ys : Array Value} {Q : Value → Shared → Prop} {E : Value → Shared → Prop} (hl : s.heap.PlainList l xs) (hb : s.heap.PlainList b ys) (hsz : xs.size + ys.size ≤ szl)
    (h : Q (.ref s.heap.objs.size) { s with heap := s.heap.push { cls := .type "list", data := .seq (xs.toList ++ ys.toList).toArray } }) : wpAny (model PR w) A (binaryOp .Add (.ref l) (.ref b)) Q E s := by
  obtain ⟨n1, ho⟩ := hl
  obtain ⟨n2, ho2⟩ := hb
  have hsz' : xs.size + ys.size ≤ sizeLine := by rw [sizeLine_eq]; have : szl = 16000000 := rfl; omega
  refine concat_meets ⟨_, ho, rfl⟩ ⟨_, ho2, rfl⟩ noFill_list_add seq_list_add PySem.F.slot_list_add PySem.F.entry_list_add (PySem.F.args_list_add_2 _ _) (list_addW l b xs ys n1 n2 none none #[] #[] hsz') ⟨ho, ho2, ?_⟩
  have e : xs ++ ys = (xs.toList ++ ys.toList).toArray := by simp
  rw [e]
  exact h

theorem bits_small {a : Int} (h : small a) : Builtin.Int.intBits a ≤ 64 := by
  obtain ⟨h1, h2⟩ := h
  unfold Builtin.Int.intBits
  split
  · exact Nat.zero_le _
  · rename_i z
    have z : a ≠ 0 := by simpa using z
    have : a.natAbs.log2 < 63 := (Nat.log2_lt (by omega)).mpr (by omega)
    omega
theorem mul_small {a b : Int} (h : small a ∨ small b) : IntMulOk a b := h.elim (fun h => .of_left (bits_small h)) fun h => .of_right (bits_small h)
theorem snd_binV {op : Operator} {a b : V} {x y : Value} (R : HR w h₀ H s.heap) (va : VR H s.heap a x) (vb : VR H s.heap b y) (h : binV op a b H Q) :
    wpAny (model PR w) A (binaryOp op x y) (EP w h₀ H s Q) NoE s := by
  unfold binV at h
  split at h
  · obtain ⟨t, rfl⟩ := va; obtain ⟨u, rfl⟩ := vb
    cases op with
    | Add => exact PyProof.Rows.add_int (ep_int R h)
    | Sub => exact PyProof.Rows.sub_int (ep_int R h)
    | Mult => exact PyProof.Rows.mul_int (ep_int R h.2) (mul_small h.1)
    | FloorDiv =>
      obtain ⟨h1, ⟨h2, h3⟩, h⟩ := h
      exact PyProof.Rows.floordiv_int (by omega) (ep_int R h) (Or.inl (PyProof.noPylong_small (by omega)))
    | Mod => exact PyProof.Rows.mod_int' (by have := h.1; omega) (ep_int R h.2)
    | Pow => exact PyProof.Rows.pow_int_small h.1 h.2.1 h.2.2.1 (ep_int R h.2.2.2)
    | LShift => exact PyProof.Rows.lshift_int_small h.1 h.2.1 h.2.2.1 (ep_int R h.2.2.2)
    | RShift => exact PyProof.Rows.rshift_int h.1 (ep_int R h.2)
    | BitAnd => exact PyProof.Rows.and_int (ep_int R h)
    | BitOr => exact PyProof.Rows.or_int (ep_int R h)
    | BitXor => exact PyProof.Rows.xor_int (ep_int R h)
    | _ => exact h.elim
  · cases op with
    | Mult =>
      cases va
      obtain ⟨u, rfl⟩ := vb
      obtain ⟨z, hz, h0, hk, h⟩ := h
      obtain ⟨its, ⟨e, ho⟩, r⟩ := R.obj _ _ hz
      obtain ⟨x', ys, e1, rx, ry⟩ := r.cons_inv
      have e2 := ry.nil_inv
      subst e2
      have e3 : its = #[x'] := by apply Array.toList_inj.mp; simpa using e1
      subst e3
      exact snd_list_mul ho h0 hk (ep_list (tk := s.toks) R (push_keeps _ _) (get_size _) (Heap.get?_push_size _ rfl) (VRs.replicate rx _) h)
    | _ => exact h.elim
  · cases op with
    | Add =>
      cases va; cases vb
      obtain ⟨vs, ws, h1, h2, hsz, h⟩ := h
      obtain ⟨xs, px, rx⟩ := R.obj _ _ h1
      obtain ⟨ys, py, ry⟩ := R.obj _ _ h2
      exact snd_list_add px py (by rw [← Array.length_toList, ← Array.length_toList, ← rx.length, ← ry.length]; exact hsz)
        (ep_list (tk := s.toks) R (push_keeps _ _) (get_size _) (Heap.get?_push_size _ rfl) (VRs.append rx ry) h)
    | _ => exact h.elim
  · exact h.elim

theorem snd_unV {op : UnaryOp} {a : V} {x : Value} (R : HR w h₀ H s.heap) (va : VR H s.heap a x) (h : unV op a H Q) :
    wpAny (model PR w) A (unaryOp op x) (EP w h₀ H s Q) NoE s := by
  unfold unV at h
  split at h
  · obtain ⟨t, rfl⟩ := va
    exact PyProof.Rows.neg_int (ep_int R h)
  · obtain ⟨t, rfl⟩ := va
    exact PyProof.Rows.invert_int (ep_int R h)
  · exact h.elim

theorem snd_truth {v : V} {x : Value} {b : Bool} {P : Bool → Shared → Prop} {E : Value → Shared → Prop} (r : VR H s.heap v x) (e : truth v = some b) (h : P b s) : wpAny (model PR w) A (truthy x) P E s := by
  cases v with
  | int i => obtain ⟨t, rfl⟩ := r; cases e; exact PyProof.Rows.truthy_int (by rw [show (i != 0) = decide (i ≠ 0) from (decide_not ..).symm]; exact h)
  | bool c => cases r; cases e; exact wpAny_truthy_bool h
  | _ => cases e

mutual
theorem reads_pd0 {h : Heap} : ∀ {v : V} {x : Value} {d : PyData}, VR H h v x → pd0 v = some d → (∃ as, Reads h x d as) ∧ d.canLay0 = true
  | .int i, _, _, r, e => by obtain ⟨t, rfl⟩ := r; cases e; exact ⟨⟨_, .int i t⟩, rfl⟩
  | .bool b, _, _, r, e => by cases r; cases e; exact ⟨⟨_, .bool b⟩, rfl⟩
  | .none, _, _, r, e => by cases r; cases e; exact ⟨⟨_, .none⟩, rfl⟩
  | .tup vs, _, _, r, e => by
    obtain ⟨a, its, rfl, ⟨o, ho, hc, k, hd⟩, hn, r⟩ := r
    obtain ⟨ds, h1, rfl⟩ := Option.map_eq_some_iff.mp e
    obtain ⟨⟨as, h2⟩, h3⟩ := reads_pds0 r h1
    exact ⟨⟨as, .tuple ho hc hd h2⟩, by simpa only [PyData.canLay0] using h3⟩
  | .str _, _, _, _, e => by cases e
  | .ref _, _, _, _, e => by cases e
  | .rng .., _, _, _, e => by cases e
  | .frz _, _, _, _, e => by cases e
theorem reads_pds0 {h : Heap} : ∀ {vs : List V} {xs : List Value} {ds : List PyData}, VRs H h vs xs → pds0 vs = some ds → (∃ as, ReadsAll h xs ds as) ∧ PyData.canLayAll0 ds = true
  | [], [], _, _, e => by cases e; exact ⟨⟨_, .nil⟩, rfl⟩
  | v :: vs, x :: xs, ds, ⟨r1, r2⟩, e => by
    unfold pds0 at e
    split at e
    · rename_i d ds' e1 e2
      cases e
      obtain ⟨⟨as, a1⟩, a2⟩ := reads_pd0 r1 e1
      obtain ⟨⟨bs, b1⟩, b2⟩ := reads_pds0 r2 e2
      exact ⟨⟨_, .cons a1 b1⟩, by simp only [PyData.canLayAll0, a2, b2, Bool.and_self]⟩
    · cases e
  | [], _ :: _, _, r, _ => r.elim
  | _ :: _, [], _, r, _ => r.elim
end
theorem reads_pd1 {v : V} {x : Value} {d : PyData} (R : HR w h₀ H s.heap) (r : VR H s.heap v x) (e : pd1 H v = some d) : (∃ as, Reads s.heap x d as) ∧ d.canLay0 = true := by
  unfold pd1 at e
  split at e
  · rename_i l
    cases r
    split at e
    · rename_i vs hl
      obtain ⟨ds, h1, rfl⟩ := Option.map_eq_some_iff.mp e
      obtain ⟨its, ⟨k, ho⟩, rr⟩ := R.obj _ _ hl
      obtain ⟨⟨as, h2⟩, h3⟩ := reads_pds0 rr h1
      exact ⟨⟨_, .list ho rfl rfl h2⟩, by simpa only [PyData.canLay0] using h3⟩
    · cases e
  · exact reads_pd0 r e

theorem shaped_of {d : PyData} (h : d.canLay0 = true) (h8 : d.depth ≤ 8) : shaped d = true := by
  unfold shaped; rw [h]; simpa using (Nat.le_trans h8 (by decide : 8 ≤ 64))
theorem snd_eqV {a b : V} {x y : Value} {P : Bool → Prop} {Q : Value → Shared → Prop} {E : Value → Shared → Prop} (hA : AOk A n) (R : HR w h₀ H s.heap) (va : VR H s.heap a x) (vb : VR H s.heap b y) (h : eqV a b H P)
    (hq : ∀ r, P r → Q (.bool r) s) : wpAny (model PR w) A (compareOp .Eq x y) Q E s := by
  unfold eqV at h
  split at h
  · obtain ⟨t, rfl⟩ := va; obtain ⟨u, rfl⟩ := vb
    exact PyProof.Rows.eq_int (hq _ h)
  · obtain ⟨da, db, ha, hb, d1, d2, h⟩ := h
    obtain ⟨⟨as, ra⟩, ca⟩ := reads_pd1 R va ha
    obtain ⟨⟨bs, rb⟩, cb⟩ := reads_pd1 R vb hb
    exact compareEq_shaped ra rb (shaped_of ca d1) (shaped_of cb d2) (by have := hA.un; unfold cLine; omega) (hq _ h)
theorem snd_neV {a b : V} {x y : Value} {P : Bool → Prop} {Q : Value → Shared → Prop} {E : Value → Shared → Prop} (hA : AOk A n) (R : HR w h₀ H s.heap) (va : VR H s.heap a x) (vb : VR H s.heap b y) (h : eqV a b H fun r => P (!r))
    (hq : ∀ r, P r → Q (.bool r) s) : wpAny (model PR w) A (compareOp .NotEq x y) Q E s := by
  unfold eqV at h
  split at h
  · obtain ⟨t, rfl⟩ := va; obtain ⟨u, rfl⟩ := vb
    exact PyProof.Rows.ne_int (hq _ h)
  · obtain ⟨da, db, ha, hb, d1, d2, h⟩ := h
    obtain ⟨⟨as, ra⟩, ca⟩ := reads_pd1 R va ha
    obtain ⟨⟨bs, rb⟩, cb⟩ := reads_pd1 R vb hb
    exact compareNe_shaped ra rb (shaped_of ca d1) (shaped_of cb d2) (by have := hA.un; unfold cLine; omega) (hq _ h)

theorem pds0_ints : ∀ is : List Int, pds0 (is.map V.int) = some (is.map PyData.int)
  | [] => rfl
  | i :: is => by rw [List.map_cons, pds0, pds0_ints is]; rfl
theorem any_ints (i : Int) : ∀ is : List Int, ((is.map PyData.int).any fun y => PyData.eqv y (.int i)) = decide (i ∈ is)
  | [] => by simp
  | j :: is => by
    rw [List.map_cons, List.any_cons, any_ints i is]
    simp only [PyData.eqv, List.mem_cons]
    by_cases h : j = i
    · subst h; simp
    · have h' : ¬ i = j := fun q => h q.symm
      simp [h, h']
theorem snd_inV {a b : V} {x y : Value} {P : Bool → Prop} {Q : Value → Shared → Prop} {E : Value → Shared → Prop} (hA : AOk A n) (R : HR w h₀ H s.heap) (va : VR H s.heap a x) (vb : VR H s.heap b y) (h : inV a b H P)
    (hq : ∀ r, P r → Q (.bool r) s) : wpAny (model PR w) A (compareOp .In x y) Q E s := by
  unfold inV at h
  split at h
  · rename_i l
    cases vb
    obtain ⟨vs, is, i, hl, rfl, rfl, h⟩ := h
    obtain ⟨its, ⟨k, ho⟩, rr⟩ := R.obj _ _ hl
    obtain ⟨⟨as, h2⟩, h3⟩ := reads_pds0 rr (pds0_ints is)
    obtain ⟨t, rfl⟩ := va
    exact in_list_reads (.list ho rfl rfl h2) (.int i t) h3 rfl (by have := hA.un; simp only [PyData.depth]; unfold cLine; omega) (by rw [any_ints]; exact hq _ h)
  · rename_i vs
    obtain ⟨c, its, rfl, ⟨o, ho, hc, k, hd⟩, hn, r⟩ := vb
    obtain ⟨xs, d, e1, e2, hd8, h⟩ := h
    obtain ⟨⟨as, h2⟩, h3⟩ := reads_pds0 r e1
    obtain ⟨⟨bs, h4⟩, h5⟩ := reads_pd0 va e2
    exact in_tuple_reads (.tuple ho hc hd h2) h4 h3 h5 (by have := hA.un; unfold cLine; omega) (hq _ h)
  · exact h.elim
theorem snd_ninV {a b : V} {x y : Value} {P : Bool → Prop} {Q : Value → Shared → Prop} {E : Value → Shared → Prop} (hA : AOk A n) (R : HR w h₀ H s.heap) (va : VR H s.heap a x) (vb : VR H s.heap b y) (h : inV a b H fun r => P (!r))
    (hq : ∀ r, P r → Q (.bool r) s) : wpAny (model PR w) A (compareOp .NotIn x y) Q E s := by
  unfold inV at h
  split at h
  · rename_i l
    cases vb
    obtain ⟨vs, is, i, hl, rfl, rfl, h⟩ := h
    obtain ⟨its, ⟨k, ho⟩, rr⟩ := R.obj _ _ hl
    obtain ⟨⟨as, h2⟩, h3⟩ := reads_pds0 rr (pds0_ints is)
    obtain ⟨t, rfl⟩ := va
    exact notIn_list_reads (.list ho rfl rfl h2) (.int i t) h3 rfl (by have := hA.un; simp only [PyData.depth]; unfold cLine; omega) (by rw [any_ints]; exact hq _ h)
  · rename_i vs
    obtain ⟨c, its, rfl, ⟨o, ho, hc, k, hd⟩, hn, r⟩ := vb
    obtain ⟨xs, d, e1, e2, hd8, h⟩ := h
    obtain ⟨⟨as, h2⟩, h3⟩ := reads_pds0 r e1
    obtain ⟨⟨bs, h4⟩, h5⟩ := reads_pd0 va e2
    exact notIn_tuple_reads (.tuple ho hc hd h2) h4 h3 h5 (by have := hA.un; unfold cLine; omega) (hq _ h)
  · exact h.elim
theorem snd_cmpV {op : CmpOp} {a b : V} {x y : Value} {P : Bool → Prop} {Q : Value → Shared → Prop} {E : Value → Shared → Prop} (hA : AOk A n) (R : HR w h₀ H s.heap) (va : VR H s.heap a x) (vb : VR H s.heap b y) (h : cmpV op a b H P)
    (hq : ∀ r, P r → Q (.bool r) s) : wpAny (model PR w) A (compareOp op x y) Q E s := by
  cases op with
  | Lt => obtain ⟨a, rfl, h⟩ := isI_iff h; obtain ⟨b, rfl, h⟩ := isI_iff h; obtain ⟨t, rfl⟩ := va; obtain ⟨u, rfl⟩ := vb; exact PyProof.Rows.lt_int (hq _ h)
  | LtE => obtain ⟨a, rfl, h⟩ := isI_iff h; obtain ⟨b, rfl, h⟩ := isI_iff h; obtain ⟨t, rfl⟩ := va; obtain ⟨u, rfl⟩ := vb; exact PyProof.Rows.le_int (hq _ h)
  | Gt => obtain ⟨a, rfl, h⟩ := isI_iff h; obtain ⟨b, rfl, h⟩ := isI_iff h; obtain ⟨t, rfl⟩ := va; obtain ⟨u, rfl⟩ := vb; exact PyProof.Rows.gt_int (hq _ h)
  | GtE => obtain ⟨a, rfl, h⟩ := isI_iff h; obtain ⟨b, rfl, h⟩ := isI_iff h; obtain ⟨t, rfl⟩ := va; obtain ⟨u, rfl⟩ := vb; exact PyProof.Rows.ge_int (hq _ h)
  | Eq => exact snd_eqV hA R va vb h hq
  | NotEq => exact snd_neV hA R va vb h hq
  | In => exact snd_inV hA R va vb h hq
  | NotIn => exact snd_ninV hA R va vb h hq
  | Is =>
    cases b with
    | none =>
      cases a with
      | none => cases va; cases vb; exact wpAny_pure (hq _ h)
      | tup vs => obtain ⟨c, its, rfl, _⟩ := va; cases vb; exact wpAny_pure (hq _ h)
      | _ => exact h.elim
    | _ => exact h.elim
  | _ => exact h.elim

end
open PySem PySem.W PyProof.Rows PySem.Calls PySem.SeqAt
section
variable {w : World} {A : Around} {h₀ : Heap} {H : HH} {s : Shared} {n : Nat} {Q : V → HH → Prop}

theorem arr_get {its : Array Value} {i : Nat} {x : Value} (h : its.toList[i]? = some x) : its[i]? = some x := by rw [← Array.getElem?_toList]; exact h
theorem snd_get {a i : V} {x y : Value} {E : Value → Shared → Prop} {P : Value → Shared → Prop} {q : V → Prop} (R : HR w h₀ H s.heap) (va : VR H s.heap a x) (vi : VR H s.heap i y) (h : subV a i H q)
    (hP : ∀ v z tk, q v → VR H s.heap v z → P z { s with toks := tk }) :
    (∃ T id, typeLookup (.type T) "__getitem__" = pure (some (.builtin id)) ∧ s.TypeIs x T) ∧ wpAny (model PR w) A (getItem x y) P E s := by
  unfold subV at h
  split at h
  · rename_i l k
    cases va
    obtain ⟨t, rfl⟩ := vi
    split at h
    · rename_i vs hl
      obtain ⟨⟨k1, k2⟩, v, hv, q⟩ := h
      obtain ⟨its, p, r⟩ := R.obj _ _ hl
      refine ⟨⟨_, _, slot_list_getitem.lookup, p.isList.typeIs⟩, ?_⟩
      have len : (vs.length : Int) = its.size := by rw [r.length, Array.length_toList]
      split at hv
      · obtain ⟨z, hz, rz⟩ := r.get _ hv
        exact wpAny_getItem_list p.isList (by assumption) (by omega) (arr_get hz) (hP v z s.toks q rz)
      · split at hv
        · obtain ⟨z, hz, rz⟩ := r.get _ hv
          rename_i h1 h2
          exact wpAny_getItem_list_neg p.isList (by omega) (by omega) (by omega) (arr_get (by rw [show k + (its.size : Int) = (vs.length : Int) + k by omega]; exact hz)) (hP v z s.toks q rz)
        · cases hv
    · rename_i m f hl
      obtain ⟨v, hv, q⟩ := h
      obtain ⟨g, hm, hle, r⟩ := R.obj _ _ hl
      obtain ⟨z, hz, rz⟩ := r _ _ hv
      exact ⟨⟨_, _, slot_dict_getitem.lookup, hm.typeIs⟩, wpAny_getItem_intMap hm hz (hP v z _ q rz)⟩
    · exact h.elim
  · rename_i vs k
    obtain ⟨c, its, rfl, ht, hn, r⟩ := va
    obtain ⟨t, rfl⟩ := vi
    obtain ⟨h0, ⟨k1, k2⟩, v, hv, q⟩ := h
    obtain ⟨z, hz, rz⟩ := r.get _ hv
    refine ⟨⟨_, _, PySem.F.slot_tuple_getitem.lookup, ht.typeIs⟩, ?_⟩
    have hz' := arr_get hz
    have hlt : k.toNat < its.size := by
      by_cases q : k.toNat < its.size
      · exact q
      · rw [Array.getElem?_eq_none (by omega)] at hz'; cases hz'
    refine PyProof.Rows.getItem_tuple ht (by omega) (by omega) (j := k.toNat) ?_ hz' (hP v z s.toks q rz)
    unfold seqIndex?
    have e1 : (if k < 0 then k + (its.size : Int) else k) = k := if_neg (by omega)
    simp only [e1]
    rw [if_pos]
    simp only [Bool.and_eq_true, decide_eq_true_eq]
    omega
  · rename_i vs k
    obtain ⟨c, its, rfl, ht, hn, r⟩ := va
    obtain ⟨t, rfl⟩ := vi
    obtain ⟨h0, ⟨k1, k2⟩, v, hv, q⟩ := h
    obtain ⟨z, hz, rz⟩ := r.get _ hv
    exact ⟨⟨_, _, slot_list_getitem.lookup, ht.typeIs⟩, wpAny_getItem_list ht h0 (by omega) (arr_get hz) (hP v z s.toks q rz)⟩
  · exact h.elim

theorem subscripted_up (ns : List Str) (i : CE) (o x : Value) : subscripted (up ns i) false o x = operate [o, x] (getItem o x) := by cases i <;> rfl
theorem snd_subV {e : Expr} {ns : List Str} {i' : CE} {a i : V} {x y : Value} (R : HR w h₀ H s.heap) (va : VR H s.heap a x) (vi : VR H s.heap i y) (h : subV a i H fun v => Q v H) :
    wpAny (model PR w) A (subscriptTail e (up ns i') x y) (EP w h₀ H s Q) NoE s := by
  obtain ⟨⟨T, id, h1, h2⟩, h3⟩ := snd_get (E := NoE) (A := A) (P := EP w h₀ H s Q) R va vi h fun v z tk q r => ep_same R q r
  exact tail_any h2 h1 h3 (subscripted_up _ _ _ _)

theorem typeIs_ref {a : Nat} {T : String} {o : Obj} (e : s.heap.get? a = some o) (h : o.cls = .type T) : s.TypeIs (.ref a) T := ⟨o, e, h⟩

theorem max_ints {l : Nat} {is : List Int} {xs : List Value} {P : Value → Shared → Prop} {E : Value → Shared → Prop} (hh : A.handled = none) (hl : s.heap.PlainList l xs.toArray) (hi : IntsAre xs is) (hne : is ≠ [])
    (h : ∀ h' m t tk, (∀ b o, s.heap.get? b = some o → h'.get? b = some o) → m ∈ is → (∀ x ∈ is, x ≤ m) → P (.int m t) { s with heap := h', toks := tk }) : wpAny (model PR w) A (call (.builtin "max") [.ref l]) P E s := by
  obtain ⟨ps, e⟩ := hi.allInts.items
  have hns : is = ps.toList.map (·.1) := by rw [← hi.numsOf, ← nums_intItems, ← e]
  have hsz : 0 < ps.size := by
    have : is.length ≠ 0 := fun q => hne (List.length_eq_zero_iff.mp q)
    rw [hns, List.length_map, Array.length_toList] at this; omega
  have hl' := hl.isList
  rw [e] at hl'
  refine max_intList hh hl' hsz fun v h' tk hv hk => ?_
  obtain ⟨t, rfl⟩ := intItems_at hv
  obtain ⟨h1, h2⟩ := argBest_gt (numAt ps) (ps.size - 1)
  refine h _ _ t tk hk ?_ fun a ha => ?_
  · rw [hns, numAt_eq]; exact getD_mem (by rw [List.length_map, Array.length_toList]; omega)
  · rw [hns] at ha
    obtain ⟨j, hj, rfl⟩ := mem_getD ha
    rw [List.length_map, Array.length_toList] at hj
    rw [← numAt_eq]; exact h2 j (by omega)
theorem min_ints {l : Nat} {is : List Int} {xs : List Value} {P : Value → Shared → Prop} {E : Value → Shared → Prop} (hh : A.handled = none) (hl : s.heap.PlainList l xs.toArray) (hi : IntsAre xs is) (hne : is ≠ [])
    (h : ∀ h' m t tk, (∀ b o, s.heap.get? b = some o → h'.get? b = some o) → m ∈ is → (∀ x ∈ is, m ≤ x) → P (.int m t) { s with heap := h', toks := tk }) : wpAny (model PR w) A (call (.builtin "min") [.ref l]) P E s := by
  obtain ⟨ps, e⟩ := hi.allInts.items
  have hns : is = ps.toList.map (·.1) := by rw [← hi.numsOf, ← nums_intItems, ← e]
  have hsz : 0 < ps.size := by
    have : is.length ≠ 0 := fun q => hne (List.length_eq_zero_iff.mp q)
    rw [hns, List.length_map, Array.length_toList] at this; omega
  have hl' := hl.isList
  rw [e] at hl'
  refine min_intList hh hl' hsz fun v h' tk hv hk => ?_
  obtain ⟨t, rfl⟩ := intItems_at hv
  obtain ⟨h1, h2⟩ := argBest_lt (numAt ps) (ps.size - 1)
  refine h _ _ t tk hk ?_ fun a ha => ?_
  · rw [hns, numAt_eq]; exact getD_mem (by rw [List.length_map, Array.length_toList]; omega)
  · rw [hns] at ha
    obtain ⟨j, hj, rfl⟩ := mem_getD ha
    rw [List.length_map, Array.length_toList] at hj
    rw [← numAt_eq]; exact h2 j (by omega)
theorem sum_ints {l : Nat} {is : List Int} {xs : List Value} {P : Value → Shared → Prop} {E : Value → Shared → Prop} (hh : A.handled = none) (hl : s.heap.PlainList l xs.toArray) (hi : IntsAre xs is)
    (h : ∀ h' t tk, (∀ b o, s.heap.get? b = some o → h'.get? b = some o) → P (.int is.sum t) { s with heap := h', toks := tk }) : wpAny (model PR w) A (call (.builtin "sum") [.ref l]) P E s := by
  obtain ⟨ps, e⟩ := hi.allInts.items
  have hns : numsOf xs.toArray.toList = is := hi.numsOf
  have hl' := hl.isList
  rw [e] at hl' hns
  rw [nums_intItems] at hns
  refine sum_intListG hh hl' fun h' tk t' hk => ?_
  have := h h' t' tk hk
  rw [preSum_eq, List.take_of_length_le (by simp), hns]
  exact this

noncomputable def biR : BI → Value
  | .len => .builtin "len" | .range => .type "range" | .abs => .builtin "abs" | .max => .builtin "max" | .min => .builtin "min" | .sorted => .builtin "sorted" | .sum => .builtin "sum"
theorem vrs1 {h : Heap} {v : V} {xs : List Value} (r : VRs H h [v] xs) : ∃ x, xs = [x] ∧ VR H h v x := by
  obtain ⟨x, ys, rfl, a, b⟩ := r.cons_inv
  rw [b.nil_inv]
  exact ⟨x, rfl, a⟩
theorem vrs2 {h : Heap} {v u : V} {xs : List Value} (r : VRs H h [v, u] xs) : ∃ x y, xs = [x, y] ∧ VR H h v x ∧ VR H h u y := by
  obtain ⟨x, ys, rfl, a, b⟩ := r.cons_inv
  obtain ⟨y, rfl, b'⟩ := vrs1 b
  exact ⟨x, y, rfl, a, b'⟩
theorem vrs3 {h : Heap} {v u t : V} {xs : List Value} (r : VRs H h [v, u, t] xs) : ∃ x y z, xs = [x, y, z] ∧ VR H h v x ∧ VR H h u y ∧ VR H h t z := by
  obtain ⟨x, ys, rfl, a, b⟩ := r.cons_inv
  obtain ⟨y, z, rfl, b', c'⟩ := vrs2 b
  exact ⟨x, y, z, rfl, a, b', c'⟩

theorem rng_small {a b c : Int} (h1 : small a) (h2 : small b) (h3 : c = 1 ∨ c = -1) : Builtin.Range.small a b c = true := by
  obtain ⟨a1, a2⟩ := h1
  obtain ⟨b1, b2⟩ := h2
  unfold Builtin.Range.small Builtin.Range.rangeFitsLong Builtin.Range.rangeSize
  rcases h3 with rfl | rfl
  · by_cases q : a < b
    · simp [q]; omega
    · simp [q]; omega
  · by_cases q : b < a
    · simp [q]; omega
    · simp [q]; omega
theorem ep_rng {a b c : Int} {t u z : Tok} {tk : Nat} (R : HR w h₀ H s.heap) (q : Q (.rng a b c) H) (hs : Builtin.Range.small a b c = true) :
    EP w h₀ H s Q (.ref s.heap.objs.size) { s with heap := s.heap.push { cls := .type "range", data := .fields #[.int a t, .int b u, .int c z] }, toks := tk } :=
  ep_grow R (push_keeps _ _) q ⟨_, t, u, z, rfl, Heap.get?_push_size _ rfl, R.fresh (get_size _), hs⟩

theorem snd_biV {b : BI} {vs : List V} {xs : List Value} (hA : AOk A n) (R : HR w h₀ H s.heap) (r : VRs H s.heap vs xs) (h : biV b vs H Q) :
    wpAny (model PR w) A (call (biR b) xs) (EP w h₀ H s Q) NoE s := by
  cases b with
  | len =>
    obtain ⟨v, rfl, h⟩ := one_iff h
    cases v with
    | ref l =>
      obtain ⟨x, rfl, r'⟩ := vrs1 r
      cases r'
      obtain ⟨ws, hl, hsz, q⟩ := h
      obtain ⟨its, p, rr⟩ := R.obj _ _ hl
      have e : ws.length = its.size := by rw [rr.length, Array.length_toList]
      exact PyProof.Rows.len_list p.isList (by omega) (ep_same R q ⟨_, by rw [e]⟩)
    | frz vs =>
      obtain ⟨x, rfl, r'⟩ := vrs1 r
      obtain ⟨c, its, rfl, p, hn, r'⟩ := r'
      have e : _ = its.size := r'.length.trans (Array.length_toList ..)
      obtain ⟨hsz, q⟩ := h
      exact PyProof.Rows.len_list p (by omega) (ep_same R q ⟨_, by rw [e]⟩)
    | _ => exact h.elim
  | range =>
    rcases vs with _ | ⟨a, _ | ⟨a2, _ | ⟨a3, _ | ⟨a4, vs⟩⟩⟩⟩
    · exact h.elim
    · obtain ⟨a, rfl, h⟩ := isI_iff h
      obtain ⟨x, rfl, r'⟩ := vrs1 r
      obtain ⟨t, rfl⟩ := r'
      exact call_range_1 (ep_rng R h.2 (rng_small ⟨by decide, by decide⟩ h.1 (.inl rfl)))
    · obtain ⟨a, rfl, h⟩ := isI_iff h
      obtain ⟨a2, rfl, h⟩ := isI_iff h
      obtain ⟨x, y, rfl, r1, r2⟩ := vrs2 r
      obtain ⟨t, rfl⟩ := r1; obtain ⟨u, rfl⟩ := r2
      exact call_range_2 (ep_rng R h.2.2 (rng_small h.1 h.2.1 (.inl rfl)))
    · obtain ⟨a, rfl, h⟩ := isI_iff h
      obtain ⟨a2, rfl, h⟩ := isI_iff h
      obtain ⟨a3, rfl, h⟩ := isI_iff h
      obtain ⟨x, y, z, rfl, r1, r2, r3⟩ := vrs3 r
      obtain ⟨t, rfl⟩ := r1; obtain ⟨u, rfl⟩ := r2; obtain ⟨v, rfl⟩ := r3
      obtain ⟨h1, h2, h3, q⟩ := h
      exact call_range_3 (by omega) (ep_rng R q (rng_small h1 h2 h3)) (Or.inl (PyProof.noPylong_small (by omega)))
    · exact h.elim
  | abs =>
    obtain ⟨v, rfl, h⟩ := one_iff h
    obtain ⟨x, rfl, h⟩ := isI_iff h
    obtain ⟨x1, rfl, r'⟩ := vrs1 r
    obtain ⟨t, rfl⟩ := r'
    refine call_abs_int fun u tk => ?_
    rw [show (if x < 0 then -x else x) = (x.natAbs : Int) by split <;> omega]
    exact ep_int R h
  | max =>
    rcases vs with _ | ⟨a, _ | ⟨a2, _ | ⟨a3, vs⟩⟩⟩
    · exact h.elim
    · obtain ⟨l, rfl, h⟩ := isR_iff h
      obtain ⟨x, rfl, r'⟩ := vrs1 r
      cases r'
      obtain ⟨is, hl, hne, q⟩ := h
      obtain ⟨its, p, rr⟩ := R.obj _ _ hl
      exact max_ints hA.hh p (vr_ints rr) hne fun h' m t tk k h1 h2 => ep_grow R k (q m h1 h2) ⟨t, rfl⟩
    · obtain ⟨x, rfl, h⟩ := isI_iff h
      obtain ⟨y, rfl, h⟩ := isI_iff h
      obtain ⟨x1, y1, rfl, r1, r2⟩ := vrs2 r
      obtain ⟨t, rfl⟩ := r1; obtain ⟨u, rfl⟩ := r2
      refine max_two_ints hA.hh fun h' tk k => ?_
      have e : (if y > x then Value.int y u else Value.int x t) = Value.int (max x y) (if y > x then u else t) := by
        split
        · rw [show max x y = y by omega]
        · rw [show max x y = x by omega]
      rw [e]
      exact ep_grow R k h ⟨_, rfl⟩
    · exact h.elim
  | min =>
    obtain ⟨v, rfl, h⟩ := one_iff h
    obtain ⟨l, rfl, h⟩ := isR_iff h
    obtain ⟨x, rfl, r'⟩ := vrs1 r
    cases r'
    obtain ⟨is, hl, hne, q⟩ := h
    obtain ⟨its, p, rr⟩ := R.obj _ _ hl
    exact min_ints hA.hh p (vr_ints rr) hne fun h' m t tk k h1 h2 => ep_grow R k (q m h1 h2) ⟨t, rfl⟩
  | sorted =>
    obtain ⟨v, rfl, h⟩ := one_iff h
    obtain ⟨l, rfl, h⟩ := isR_iff h
    obtain ⟨x, rfl, r'⟩ := vrs1 r
    cases r'
    obtain ⟨is, hl, h64, q⟩ := h
    obtain ⟨its, p, rr⟩ := R.obj _ _ hl
    have hi := vr_ints rr
    have h64' : its.toList.length < 64 := Nat.lt_of_le_of_lt (Nat.le_of_eq hi.length) h64
    refine sorted_ints (vs := its.toList) p.isList hi h64' fun out js a1 a2 a3 => ?_
    obtain ⟨e, he⟩ := sortedAll_at s.heap its.toList out
    have hc : s.heap.get? (s.heap.objs.size + 1) = none := by
      cases q : s.heap.get? (s.heap.objs.size + 1) with
      | none => rfl
      | some o => exact absurd (Heap.lt_size q) (Nat.not_lt.mpr (Nat.le_succ _))
    exact ep_list (tk := s.toks) (xs := out.toList) (e := e) R (fun _ _ => sortedAll_old) hc he (ints_vr a1) fun c n => q c js a2 a3 n
  | sum =>
    obtain ⟨v, rfl, h⟩ := one_iff h
    obtain ⟨l, rfl, h⟩ := isR_iff h
    obtain ⟨x, rfl, r'⟩ := vrs1 r
    cases r'
    obtain ⟨is, hl, q⟩ := h
    obtain ⟨its, p, rr⟩ := R.obj _ _ hl
    exact sum_ints hA.hh p (vr_ints rr) fun h' t tk k => ep_grow R k q ⟨t, rfl⟩

end
open PySem PySem.W PyProof.Rows PySem.Calls PySem.SeqAt

noncomputable def fadL : List Nat := [76, 83, 90, 97, 104, 111, 118, 125, 132, 139, 146, 153, 160, 167, 172, 179, 186, 193, 200, 207, 214, 221, 228, 235, 242, 249, 256, 263, 268, 275, 282, 287, 294, 301, 306]
noncomputable def fad (g : Nat) : Nat := if g = 1000 then 62 else fadL.getD g 0

noncomputable abbrev KK (P : Params) : Frag := kHeap P
theorem k_int (P : Params) : ∀ (g : Nat) (i : Int), giv[g]? = some i → ∃ t, nsIn (KK P) mainGlobals (ginm.getD g "") = some (some (.int i t))
  | 0, _, e => by cases e; exact ⟨234, by kernel_rfl⟩
  | 1, _, e => by cases e; exact ⟨236, by kernel_rfl⟩
  | 2, _, e => by cases e; exact ⟨238, by kernel_rfl⟩
  | 3, _, e => by cases e; exact ⟨240, by kernel_rfl⟩
  | 4, _, e => by cases e; exact ⟨242, by kernel_rfl⟩
  | 5, _, e => by cases e; exact ⟨244, by kernel_rfl⟩
  | 6, _, e => by cases e; exact ⟨246, by kernel_rfl⟩
  | 7, _, e => by cases e; exact ⟨479, by kernel_rfl⟩
  | 8, _, e => by cases e; exact ⟨482, by kernel_rfl⟩
  | 9, _, e => by cases e; exact ⟨485, by kernel_rfl⟩
  | 10, _, e => by cases e; exact ⟨487, by kernel_rfl⟩
  | 11, _, e => by cases e; exact ⟨489, by kernel_rfl⟩
  | _ + 12, _, e => by cases e
theorem k_tup (P : Params) : ∀ (g : Nat) (is : List Int), gtv[g]? = some is → ∃ a xs, nsIn (KK P) mainGlobals (gtnm.getD g "") = some (some (.ref a)) ∧ (KK P).lookup a = some { cls := .type "tuple", data := .seq (List.toArray xs) 0 } ∧ IntsAre xs is
  | 0, _, e => by
    cases e
    exact ⟨47, [.int 0 250, .int 1 251, .int 0 252, .int (-1) 254, .int 1 255, .int 1 256, .int (-1) 258, .int (-1) 260], by kernel_rfl, by kernel_rfl, .cons _ _ (.cons _ _ (.cons _ _ (.cons _ _ (.cons _ _ (.cons _ _ (.cons _ _ (.cons _ _ .nil)))))))⟩
  | 1, _, e => by
    cases e
    exact ⟨48, [.int 1 262, .int 0 263, .int (-1) 265, .int 0 266, .int 1 267, .int (-1) 269, .int (-1) 271, .int 1 272], by kernel_rfl, by kernel_rfl, .cons _ _ (.cons _ _ (.cons _ _ (.cons _ _ (.cons _ _ (.cons _ _ (.cons _ _ (.cons _ _ .nil)))))))⟩
  | _ + 2, _, e => by cases e
noncomputable def fnOkB (K : Frag) (g : Nat) : Bool := nsIn K mainGlobals (fnm.getD g "") == some (some (.ref (fad g))) && keepIn K (.ref (fad g))
theorem k_fns (P : Params) : (List.range 35).all (fnOkB (KK P)) = true := by kernel_rfl
theorem k_fn (P : Params) {g : Nat} (h : g < 35) : nsIn (KK P) mainGlobals (fnm.getD g "") = some (some (.ref (fad g))) ∧ keepIn (KK P) (.ref (fad g)) = true := by
  have := List.all_eq_true.mp (k_fns P) g (List.mem_range.mpr h)
  obtain ⟨a, b⟩ := Bool.and_eq_true_iff.mp this
  exact ⟨beq_iff_eq.mp a, b⟩
theorem k_cls (P : Params) : nsIn (KK P) mainGlobals "Geometry" = some (some (.ref 65)) ∧ keepIn (KK P) (.ref 65) = true := ⟨by kernel_rfl, by kernel_rfl⟩
theorem k_bi (P : Params) : ∀ b : BI, nsIn (KK P) mainGlobals b.name = some none
  | .len => by kernel_rfl
  | .range => by kernel_rfl
  | .abs => by kernel_rfl
  | .max => by kernel_rfl
  | .min => by kernel_rfl
  | .sorted => by kernel_rfl
  | .sum => by kernel_rfl
theorem boot_bi : ∀ b : BI, bootBuiltins b.name = some (biR b) ∧ b.name ≠ "__name__"
  | .len => ⟨show bootBuiltins (Str.ofString "len") = some (.builtin "len") by boot_by_name, by decide⟩
  | .range => ⟨show bootBuiltins (Str.ofString "range") = some (.type "range") by boot_by_name, by decide⟩
  | .abs => ⟨show bootBuiltins (Str.ofString "abs") = some (.builtin "abs") by boot_by_name, by decide⟩
  | .max => ⟨show bootBuiltins (Str.ofString "max") = some (.builtin "max") by boot_by_name, by decide⟩
  | .min => ⟨show bootBuiltins (Str.ofString "min") = some (.builtin "min") by boot_by_name, by decide⟩
  | .sorted => ⟨show bootBuiltins (Str.ofString "sorted") = some (.builtin "sorted") by boot_by_name, by decide⟩
  | .sum => ⟨show bootBuiltins (Str.ofString "sum") = some (.builtin "sum") by boot_by_name, by decide⟩

noncomputable def RP (P : Value → Shared → Prop) (r : Result) (s' : Shared) : Prop := match r with
  | .ok (.ret v) => P v s'
  | _ => False
noncomputable def SPh (w : World) (h₀ : Heap) (n : Nat) (Φ : Calls) : Prop := ∀ (g : Nat) (vs : List V) (H : HH) (Q : V → HH → Prop) (A : Around) (s : Shared) (xs : List Value),
  AOk A n → HR w h₀ H s.heap → VRs H s.heap vs xs → Φ g vs H Q → codeAny (model PR w) A (.call (.ref (fad g)) ⟨xs, []⟩) (RP (EP w h₀ H s Q)) s
structure Sit (w : World) (h₀ : Heap) (A : Around) (n : Nat) (Φ : Calls) (c : Cx) : Prop where
  gb : GB w h₀
  cx : CxOk c
  ao : AOk A n
  dp2 : A.depth + 3 * n + 22 < 1000
  un2 : A.units + 12 * n + 208 < 9900
  ph : SPh w h₀ n Φ

section
variable {w : World} {A : Around} {h₀ : Heap} {H : HH} {s : Shared} {n : Nat} {Q : V → HH → Prop} {Φ : Calls} {c : Cx} {loc : Loc}

theorem ep_trans {H1 : HH} {s1 s2 : Shared} {x : Value} (E : Evo H s.heap H1 s1.heap) (S : Sm s s1) (h : EP w h₀ H1 s1 Q x s2) : EP w h₀ H s Q x s2 :=
  let ⟨v, H', q, r, R, E', S'⟩ := h; ⟨v, H', q, r, R, E.trans E', S.trans S'⟩
theorem tp_trans {H1 : HH} {s1 s2 : Shared} {b : Bool} (E : Evo H s.heap H1 s1.heap) (S : Sm s s1) (h : TP w h₀ H1 s1 Q b s2) : TP w h₀ H s Q b s2 :=
  let ⟨H', q, R, E', S'⟩ := h; ⟨H', q, R, E.trans E', S.trans S'⟩
theorem lp_trans {Q : List V → HH → Prop} {H1 : HH} {s1 s2 : Shared} {x : List Value} (E : Evo H s.heap H1 s1.heap) (S : Sm s s1) (h : LP w h₀ H1 s1 Q x s2) : LP w h₀ H s Q x s2 :=
  let ⟨v, H', q, r, R, E', S'⟩ := h; ⟨v, H', q, r, R, E.trans E', S.trans S'⟩
theorem wp_ep {α : Type} {t : Sem α} {P P' : α → Shared → Prop} (h : wpAny (model PR w) A t P NoE s) (k : ∀ a s', P a s' → P' a s') : wpAny (model PR w) A t P' NoE s := wpAny_mono h k fun _ _ f => f

theorem ph_call {g : Nat} {vs : List V} {xs : List Value} (S : Sit w h₀ A n Φ c) (R : HR w h₀ H s.heap) (r : VRs H s.heap vs xs) (h : Φ g vs H Q) : wpAny (model PR w) A (call (.ref (fad g)) xs) (EP w h₀ H s Q) NoE s :=
  wpAny_call (codeAny_mono (S.ph g vs H Q A s xs S.ao R r h) fun r s' z => by rcases r with e | (v | _ | _ | _) <;> first | exact z | exact z.elim)
theorem inK (S : Sit w h₀ A n Φ c) (R : HR w h₀ H s.heap) : (KK w.params).In s.heap := fun a o e => (R.base a o (S.gb.X a o e)).1

theorem getD_mem' {l : List Str} {i : Nat} (h : i < l.length) : l.getD i "" ∈ l := by
  rw [List.getD_eq_getElem?_getD, List.getElem?_eq_getElem h]; exact List.getElem_mem h
theorem snd_var {i : Nat} {p : Pos} {v : V} (S : Sit w h₀ A n Φ c) (R : HR w h₀ H s.heap) (F : FR h₀ c loc H s.heap) (h : loc[i]? = some (some v)) (q : Q v H) :
    wpAny (model PR w) A (eval (.Name (c.ns.getD i "") p) c.env) (EP w h₀ H s Q) NoE s := by
  obtain ⟨m, hn, hm⟩ := F.map
  obtain ⟨x, hx, r⟩ := hm i v h
  have hi : i < c.ns.length := by
    rw [← F.len]
    by_cases q : i < loc.length
    · exact q
    · rw [List.getElem?_eq_none (by omega)] at h; cases h
  refine wpAny_Name ?_ (S.cx.dbg _ (getD_mem' hi))
  rcases hx with ⟨h1, h2⟩ | ⟨h1, a, h2, h3⟩
  · exact wpAny_loadName_local S.cx.kind h1 hn h2 (ep_here R q r)
  · exact wpAny_loadName_cell S.cx.kind h1 h2 h3 (ep_here R q r)

theorem glob_at (S : Sit w h₀ A n Φ c) (R : HR w h₀ H s.heap) {x : Str} {v : Value} {p : Pos} {P : Value → Shared → Prop} {E : Value → Shared → Prop} (hx : x ∈ c.gl) (e : nsIn (KK w.params) mainGlobals x = some (some v)) (h : P v s) :
    wpAny (model PR w) A (eval (.Name x p) c.env) P E s := by
  obtain ⟨mg, hg⟩ := S.gb.g
  refine Name_function_global S.cx.kind (S.cx.gls x hx) (loadGlobal_global (mg := mg) (S.cx.glob ▸ hg.keeps fun b o e => (R.base b o e).1) (mg_of S.gb.X hg e) h) (S.cx.gdbg x hx)
theorem glob_bi (S : Sit w h₀ A n Φ c) (R : HR w h₀ H s.heap) {b : BI} {p : Pos} {P : Value → Shared → Prop} {E : Value → Shared → Prop} (hx : b.name ∈ c.gl) (h : P (biR b) s) :
    wpAny (model PR w) A (eval (.Name b.name p) c.env) P E s := by
  obtain ⟨mg, hg⟩ := S.gb.g
  obtain ⟨mb, hb, hbb⟩ := S.gb.b
  obtain ⟨b1, b2⟩ := boot_bi b
  refine Name_function_global S.cx.kind (S.cx.gls _ hx) (loadGlobal_builtin (mg := mg) (mb := mb) (S.cx.glob ▸ hg.keeps fun b o e => (R.base b o e).1) (mg_none_of S.gb.X hg (k_bi _ b)) (S.cx.blt ▸ hb.keeps fun b o e => (R.base b o e).1) ((hbb _ b2).trans b1) h) (S.cx.gdbg _ hx)
theorem vr_tupK (S : Sit w h₀ A n Φ c) (R : HR w h₀ H s.heap) {a : Nat} {xs : List Value} {is : List Int} (hl : (KK w.params).lookup a = some { cls := .type "tuple", data := .seq xs.toArray 0 }) (hi : IntsAre xs is) : VR H s.heap (.tup (is.map V.int)) (.ref a) :=
  have h := R.base a _ (S.gb.X a _ hl)
  ⟨a, xs.toArray, rfl, ⟨_, h.1, rfl, 0, rfl⟩, h.2, ints_vr hi⟩

theorem starEach_up (ns : List Str) (e : CE) (r : List Expr) (env : Env) : starEach (up ns e :: r) env = (false, eval (up ns e) env) :: starEach r env := by cases e <;> rfl
theorem backTo_cons (p : Pos) (t : Sem Value) (r : List (Bool × Sem Value)) : backTo p ((false, t) :: r) = (false, t) :: backTo p r := rfl
theorem backTo_plain (ns : List Str) (p : Pos) (env : Env) : ∀ es : CEs, (backTo p (starEach (ups ns es) env)).any (·.1) = false
  | .nil => rfl
  | .cons e r => by rw [ups, starEach_up, backTo_cons, List.any_cons, backTo_plain ns p env r]; rfl
theorem mach_bi (b : BI) (h : Heap) : ∃ k, (k = Keeper.frame ∨ k = Keeper.machine ∨ k = Keeper.boundFrame) ∧ Looks (model PR w) h (keeperOf (biR b)) k := ⟨.machine, .inr (.inl rfl), by cases b <;> exact Looks.of_pure rfl⟩
/-- a call of what is no star, with one argument or more -/
theorem call_args {f : Value} {e : CE} {es : CEs} {p : Pos} {ns : List Str} {env : Env} {first : List Value} {K : Heap → Prop} {P : Value → Shared → Prop} (hk : ∀ h, K h → ∃ k, (k = Keeper.frame ∨ k = Keeper.machine ∨ k = Keeper.boundFrame) ∧ Looks (model PR w) h (keeperOf f) k)
    (h : wpAny (model PR w) A (spliced (backTo p (starEach (ups ns (.cons e es)) env))) (fun vs s₁ => K s₁.heap ∧ wpAny (model PR w) A (call f (first ++ vs)) P NoE s₁) NoE s) :
    wpAny (model PR w) A (callWith p f first (backTo p (starEach (ups ns (.cons e es)) env)) []) P NoE s := by
  refine callWith_of (P := K) ?_ hk ?_
  · rw [backTo_plain]; rfl
  · rw [ups, starEach_up, backTo_cons] at h ⊢
    exact evalArgs_plain h
end
open PySem PySem.W PyProof.Rows PySem.Calls PySem.SeqAt

noncomputable def isComp : CE → Bool
  | .comp1 .. | .comp2 .. => true
  | _ => false
noncomputable def bare : CE → Bool
  | .call .. | .make .. | .bi .. => false
  | _ => true
noncomputable def CEs.len : CEs → Nat
  | .nil => 0
  | .cons _ r => r.len + 1
noncomputable abbrev Kinds := List (Str × NameKind)
noncomputable def relab (k sc : Kinds) : Kinds := sc.map fun y => if y.2 == .free && k.lookup y.1 == some .cell then (y.1, .cell) else y
noncomputable def scOk (ns : List Str) (k : Kinds) (vars : List Str) (caps : List Nat) (sc : Scope) : Bool :=
  sc.kind == .function && vars.all (fun x => sc.names.lookup x == some .local && x != "__debug__") && sc.names.all (fun y => y.2 != .cell && (y.2 != .local || sc.names.lookup y.1 == some .local) && (y.2 != .free || (ns.contains y.1 && k.lookup y.1 == some .cell))) &&
    caps.all (fun i => decide (i < ns.length) && sc.names.lookup (ns.getD i "") == some .free && k.lookup (ns.getD i "") == some .cell) && decide (vars ++ caps.map (ns.getD · "")).Nodup
mutual
noncomputable def okE (k : Kinds) (ns gl : List Str) : CE → Bool
  | .int .. => true
  | .bool .. => true
  | .none .. => true
  | .var i _ => decide (i < ns.length)
  | .gint g _ => gl.contains (ginm.getD g "")
  | .gtup g _ => gl.contains (gtnm.getD g "")
  | .bin _ a b _ => okE k ns gl a && okE k ns gl b
  | .un _ a _ => okE k ns gl a
  | .cmp _ a b _ => okE k ns gl a && okE k ns gl b
  | .cmp2 _ _ a b c _ => okE k ns gl a && okE k ns gl b && okE k ns gl c
  | .bop _ es _ => okEs k ns gl es
  | .ife c a b _ => okE k ns gl c && okE k ns gl a && okE k ns gl b
  | .tup es _ _ => okEs k ns gl es
  | .lst es _ => okEs k ns gl es
  | .sdict kvs _ => kvs.all (fun q => decide (q.2.1 < ns.length)) && decide (kvs.length = 5)
  | .idict g _ _ _ => gl.contains (ginm.getD g "")
  | .sub a i _ => okE k ns gl a && okE k ns gl i
  | .skey i _ j _ _ => decide (i < ns.length) && decide (j < 5)
  | .upto i _ _ _ _ => decide (i < ns.length)
  | .attr i _ n _ => decide (i < ns.length) && decide (n < 14)
  | .call g _ es _ => decide (g < 35) && gl.contains (fnm.getD g "") && okEs k ns gl es && decide (0 < es.len)
  | .make _ es _ => gl.contains "Geometry" && okEs k ns gl es && decide (0 < es.len)
  | .bi b _ es _ => gl.contains b.name && okEs k ns gl es && decide (0 < es.len)
  | .index i _ e ap p => decide (i < ns.length) && okE k ns gl e && ap.endLine == p.line
  | .comp1 elt x _ it cond caps sc _ => okE k ns gl it && scOk ns k [x] caps sc && okE (relab k sc.names) (x :: caps.map (ns.getD · "")) [] elt && okEs (relab k sc.names) (x :: caps.map (ns.getD · "")) [] cond && decide (cond.len ≤ 1)
  | .comp2 elt x _ it y _ it2 cond caps sc _ => okE k ns gl it && scOk ns k [x, y] caps sc && okE (relab k sc.names) (x :: y :: caps.map (ns.getD · "")) [] it2 && okE (relab k sc.names) (x :: y :: caps.map (ns.getD · "")) [] elt &&
      okEs (relab k sc.names) (x :: y :: caps.map (ns.getD · "")) [] cond && decide (cond.len = 1)
noncomputable def okEs (k : Kinds) (ns gl : List Str) : CEs → Bool
  | .nil => true
  | .cons e r => okE k ns gl e && okEs k ns gl r
end

noncomputable def SE (w : World) (h₀ : Heap) (A : Around) (c : Cx) (H : HH) (s : Shared) (m : Bool) (e : Expr) (Q : V → HH → Prop) : Prop := match m with
  | false => wpAny (model PR w) A (eval e c.env) (EP w h₀ H s Q) NoE s
  | true => wpAny (model PR w) A (isTrue e c.env (eval e c.env)) (TP w h₀ H s Q) NoE s
noncomputable def SndE (e : CE) : Prop := ∀ (w : World) (h₀ : Heap) (A : Around) (n : Nat) (Φ : Calls) (c : Cx) (loc : Loc) (H : HH) (s : Shared) (m : Bool) (Q : V → HH → Prop),
  Sit w h₀ A n Φ c → okE c.env.scope.names c.ns c.gl e = true → HR w h₀ H s.heap → FR h₀ c loc H s.heap → wpE Φ e m loc H Q → SE w h₀ A c H s m (up c.ns e) Q
noncomputable def SndB (es : CEs) : Prop := ∀ (w : World) (h₀ : Heap) (A : Around) (n : Nat) (Φ : Calls) (c : Cx) (loc : Loc) (H : HH) (s : Shared) (m : Bool) (op : BoolOp) (Q : V → HH → Prop),
  Sit w h₀ A n Φ c → okEs c.env.scope.names c.ns c.gl es = true → HR w h₀ H s.heap → FR h₀ c loc H s.heap → wpB Φ op es m loc H Q → match m with
    | false => ∀ p, wpAny (model PR w) A (boolOp p op (evalEach (ups c.ns es) c.env)) (EP w h₀ H s Q) NoE s
    | true => wpAny (model PR w) A (allTrue op (ups c.ns es) c.env) (TP w h₀ H s Q) NoE s
noncomputable def SndEs (es : CEs) : Prop := ∀ (w : World) (h₀ : Heap) (A : Around) (n : Nat) (Φ : Calls) (c : Cx) (loc : Loc) (H : HH) (s : Shared) (Q : List V → HH → Prop) (p : Pos),
  Sit w h₀ A n Φ c → okEs c.env.scope.names c.ns c.gl es = true → HR w h₀ H s.heap → FR h₀ c loc H s.heap → wpEs Φ es loc H Q → wpAny (model PR w) A (spliced (backTo p (starEach (ups c.ns es) c.env))) (LP w h₀ H s Q) NoE s

section
variable {w : World} {A : Around} {h₀ : Heap} {H : HH} {s : Shared} {n : Nat} {Q : V → HH → Prop} {Φ : Calls} {c : Cx} {loc : Loc}

/-- a tree that is no test of its own -/
theorem se_val {e : Expr} {m : Bool} {W : (V → HH → Prop) → Prop} (he : isTrue e c.env (eval e c.env) = (do let v ← eval e c.env; standAt e.pos; holding [v] (truthy v)))
    (snd : ∀ Q, W Q → wpAny (model PR w) A (eval e c.env) (EP w h₀ H s Q) NoE s) (h : W fun v H => fin m v (Q · H)) : SE w h₀ A c H s m e Q := by
  cases m with
  | false => exact snd Q h
  | true =>
    refine wpAny_isTrue_value (wp_ep (snd _ h) fun x s1 r => ?_) he
    obtain ⟨v, H1, q, rv, R, E, S⟩ := r
    obtain ⟨b, hb, q⟩ := fin_iff q
    exact snd_truth rv hb ⟨H1, q, R, E, S⟩
theorem se_next {e : Expr} {P : Value → Shared → Prop} {Q1 : V → HH → Prop} (h : wpAny (model PR w) A (eval e c.env) (EP w h₀ H s Q1) NoE s)
    (k : ∀ v H1 x s1, Q1 v H1 → VR H1 s1.heap v x → HR w h₀ H1 s1.heap → Evo H s.heap H1 s1.heap → Sm s s1 → P x s1) : wpAny (model PR w) A (eval e c.env) P NoE s :=
  wp_ep h fun x s1 ⟨v, H1, q, r, R, E, S⟩ => k v H1 x s1 q r R E S

theorem snd_int (i : Int) (p : Pos) : SndE (.int i p) := fun w h₀ A n Φ c loc H s m Q S _ R F h =>
  se_val (W := fun Q => Q (.int i) H) rfl (fun _ q => wpAny_Constant_int (ep_int R q)) h
theorem snd_bool (b : Bool) (p : Pos) : SndE (.bool b p) := fun w h₀ A n Φ c loc H s m Q S _ R F h =>
  se_val (W := fun Q => Q (.bool b) H) rfl (fun _ q => wpAny_pure (ep_here R q rfl)) h
theorem snd_none (p : Pos) : SndE (.none p) := fun w h₀ A n Φ c loc H s m Q S _ R F h =>
  se_val (W := fun Q => Q .none H) rfl (fun _ q => wpAny_pure (ep_here R q rfl)) h
theorem snd_vare (i : Nat) (p : Pos) : SndE (.var i p) := fun w h₀ A n Φ c loc H s m Q S _ R F h =>
  se_val (W := fun Q => vget loc i fun v => Q v H) rfl (fun _ h => have ⟨_, e, q⟩ := vget_iff h; snd_var S R F e q) h
theorem mem_of_contains {l : List Str} {x : Str} (h : l.contains x = true) : x ∈ l := by simpa using h
theorem snd_gint (g : Nat) (p : Pos) : SndE (.gint g p) := fun w h₀ A n Φ c loc H s m Q S o R F h =>
  se_val (W := fun Q => igl giv g fun i => Q (.int i) H) rfl (fun _ h => by
    obtain ⟨i, e, q⟩ := igl_iff h
    obtain ⟨t, ht⟩ := k_int w.params g i e
    exact glob_at S R (mem_of_contains o) ht (ep_here R q ⟨t, rfl⟩)) h
theorem snd_gtup (g : Nat) (p : Pos) : SndE (.gtup g p) := fun w h₀ A n Φ c loc H s m Q S o R F h =>
  se_val (W := fun Q => gtK g fun is => Q (.tup (is.map V.int)) H) rfl (fun _ h => by
    obtain ⟨i, e, q⟩ := gtK_iff h
    obtain ⟨a, xs, h1, h2, h3⟩ := k_tup w.params g i e
    exact glob_at S R (mem_of_contains o) h1 (ep_here R q (vr_tupK S R h2 h3))) h
theorem snd_bin {op : Operator} {a b : CE} {p : Pos} (ia : SndE a) (ib : SndE b) : SndE (.bin op a b p) := fun w h₀ A n Φ c loc H s m Q S o R F h => by
  obtain ⟨oa, ob⟩ := Bool.and_eq_true_iff.mp o
  refine se_val (W := fun Q => wpE Φ a false loc H fun x H1 => wpE Φ b false loc H1 fun y H2 => binV op x y H2 Q) rfl (fun Q h => ?_) h
  refine wpAny_BinOp (se_next (ia w h₀ A n Φ c loc H s false _ S oa R F h) fun va H1 x s1 h1 r1 R1 E1 S1 => ?_)
  refine se_next (ib w h₀ A n Φ c loc H1 s1 false _ S ob R1 (F.evo E1) h1) fun vb H2 y s2 h2 r2 R2 E2 S2 => ?_
  exact wp_ep (snd_binV R2 (r1.mono E2) r2 h2) fun z s3 r => ep_trans (E1.trans E2) (S1.trans S2) r
theorem mark_up (op : CmpOp) (ns : List Str) (e : CE) : behindInMarks op (up ns e) = false := by cases e <;> rfl
theorem snd_cmp {op : CmpOp} {a b : CE} {p : Pos} (ia : SndE a) (ib : SndE b) : SndE (.cmp op a b p) := fun w h₀ A n Φ c loc H s m Q S o R F h => by
  obtain ⟨oa, ob⟩ := Bool.and_eq_true_iff.mp o
  have key : ∀ P : Value → Shared → Prop, (∀ r H2 s2, Q (.bool r) H2 → HR w h₀ H2 s2.heap → Evo H s.heap H2 s2.heap → Sm s s2 → P (.bool r) s2) →
      wpAny (model PR w) A (eval (up c.ns a) c.env) (fun x s₁ => wpAny (model PR w) A (eval (up c.ns b) c.env) (fun y s₂ => wpAny (model PR w) A (compareOp op x y) P NoE s₂) NoE s₁) NoE s := fun P hP =>
    se_next (ia w h₀ A n Φ c loc H s false _ S oa R F h) fun va H1 x s1 h1 r1 R1 E1 S1 =>
      se_next (ib w h₀ A n Φ c loc H1 s1 false _ S ob R1 (F.evo E1) h1) fun vb H2 y s2 h2 r2 R2 E2 S2 =>
        snd_cmpV S.ao R2 (r1.mono E2) r2 h2 fun r q => hP r H2 s2 q R2 (E1.trans E2) (S1.trans S2)
  cases m with
  | false => exact wpAny_Compare1 (key _ fun r H2 s2 q R2 E2 S2 => ⟨.bool r, H2, q, rfl, R2, E2, S2⟩) (mark_up _ _ _)
  | true => exact wpAny_isTrue_Compare1 (key _ fun r H2 s2 q R2 E2 S2 => wpAny_truthy_bool ⟨H2, q, R2, E2, S2⟩) (mark_up _ _ _)
theorem snd_un {op : UnaryOp} {a : CE} {p : Pos} (ia : SndE a) : SndE (.un op a p) := fun w h₀ A n Φ c loc H s m Q S o R F h => by
  have oa : okE c.env.scope.names c.ns c.gl a = true := o
  have val : ∀ op, op ≠ .Not → (wpE Φ a false loc H fun x H1 => unV op x H1 fun v H2 => fin m v (Q · H2)) → SE w h₀ A c H s m (up c.ns (.un op a p)) Q := fun op hn h =>
    se_val (W := fun Q => wpE Φ a false loc H fun x H1 => unV op x H1 Q) (by cases op <;> first | rfl | exact absurd rfl hn) (fun Q h => by
      refine wpAny_UnaryOp (se_next (ia w h₀ A n Φ c loc H s false _ S oa R F h) fun va H1 x s1 h1 r1 R1 E1 S1 => ?_)
      exact wp_ep (snd_unV R1 r1 h1) fun z s3 r => ep_trans E1 S1 r) h
  cases op with
  | Not => cases m with
    | false => exact h.elim
    | true =>
      refine wpAny_isTrue_Not (wp_ep (ia w h₀ A n Φ c loc H s true _ S oa R F h) fun b s1 r => ?_)
      obtain ⟨H1, q, R1, E1, S1⟩ := r
      exact ⟨H1, q, R1, E1, S1⟩
  | Invert => exact val .Invert (by decide) (by cases m <;> exact h)
  | USub => exact val .USub (by decide) (by cases m <;> exact h)
  | UAdd => exact val .UAdd (by decide) (by cases m <;> exact h)
theorem snd_cmp2 {o1 o2 : CmpOp} {a b d : CE} {p : Pos} (ia : SndE a) (ib : SndE b) (id : SndE d) : SndE (.cmp2 o1 o2 a b d p) := fun w h₀ A n Φ c loc H s m Q S o R F h => by
  obtain ⟨o', od⟩ := Bool.and_eq_true_iff.mp o
  obtain ⟨oa, ob⟩ := Bool.and_eq_true_iff.mp o'
  obtain ⟨e, h⟩ := isF_iff h
  cases m with
  | false => cases e
  | true =>
  refine isTrue_chain (se_next (ia w h₀ A n Φ c loc H s false _ S oa R F h) fun va H1 x s1 h1 r1 R1 E1 S1 => ?_) (by unfold lastMarks lastMarks; exact mark_up _ _ _)
  refine test_link (se_next (ib w h₀ A n Φ c loc H1 s1 false _ S ob R1 (F.evo E1) h1) fun vb H2 y s2 h2 r2 R2 E2 S2 => ?_)
  refine snd_cmpV S.ao R2 (r1.mono E2) r2 h2 fun r q => wpAny_truthy_bool ?_
  cases r with
  | false => exact ⟨H2, q, R2, E1.trans E2, S1.trans S2⟩
  | true =>
    refine test_last (se_next (id w h₀ A n Φ c loc H2 s2 false _ S od R2 ((F.evo E1).evo E2) q) fun vd H3 z s3 h3 r3 R3 E3 S3 => ?_)
    exact snd_cmpV S.ao R3 (r2.mono E3) r3 h3 fun r q => wpAny_truthy_bool ⟨H3, q, R3, (E1.trans E2).trans E3, (S1.trans S2).trans S3⟩
theorem snd_bop {op : BoolOp} {es : CEs} {p : Pos} (i : SndB es) : SndE (.bop op es p) := fun w h₀ A n Φ c loc H s m Q S o R F h => by
  cases m with
  | false => exact i w h₀ A n Φ c loc H s false op Q S o R F h p
  | true => exact wpAny_isTrue_BoolOp (i w h₀ A n Φ c loc H s true op Q S o R F h)
theorem snd_ife {t a b : CE} {p : Pos} (it : SndE t) (ia : SndE a) (ib : SndE b) : SndE (.ife t a b p) := fun w h₀ A n Φ c loc H s m Q S o R F h => by
  obtain ⟨o', ob⟩ := Bool.and_eq_true_iff.mp o
  obtain ⟨ot, oa⟩ := Bool.and_eq_true_iff.mp o'
  have key := it w h₀ A n Φ c loc H s true _ S ot R F h
  cases m with
  | false =>
    refine wpAny_IfExp (wp_ep key fun r s1 q => ?_)
    obtain ⟨H1, q, R1, E1, S1⟩ := q
    cases r with
    | true => exact wp_ep (ia w h₀ A n Φ c loc H1 s1 false _ S oa R1 (F.evo E1) q) fun _ _ r => ep_trans E1 S1 r
    | false => exact wp_ep (ib w h₀ A n Φ c loc H1 s1 false _ S ob R1 (F.evo E1) q) fun _ _ r => ep_trans E1 S1 r
  | true =>
    refine isTrue_IfExp (wp_ep key fun r s1 q => ?_)
    obtain ⟨H1, q, R1, E1, S1⟩ := q
    cases r with
    | true => exact wp_ep (ia w h₀ A n Φ c loc H1 s1 true _ S oa R1 (F.evo E1) q) fun _ _ r => tp_trans E1 S1 r
    | false => exact wp_ep (ib w h₀ A n Φ c loc H1 s1 true _ S ob R1 (F.evo E1) q) fun _ _ r => tp_trans E1 S1 r

theorem sndB_nil : SndB .nil := fun w h₀ A n Φ c loc H s m op Q S o R F h => by
  obtain ⟨e, q⟩ := isF_iff h
  cases m with
  | false => cases e
  | true => cases op <;> exact wpAny_pure ⟨H, q, R, Evo.refl _ _, Sm.refl s⟩
theorem boolOp_one {p : Pos} {op : BoolOp} {x : Sem Value} : boolOp p op [x] = x := by cases op <;> rfl
theorem sndB_cons {e : CE} {r : CEs} (ie : SndE e) (ir : SndB r) : SndB (.cons e r) := fun w h₀ A n Φ c loc H s m op Q S o R F h => by
  obtain ⟨oe, or⟩ := Bool.and_eq_true_iff.mp o
  cases m with
  | false =>
    intro p
    cases r with
    | nil => exact ie w h₀ A n Φ c loc H s false _ S oe R F h
    | cons e2 r2 =>
      have h : wpE Φ e false loc H fun v H1 => tst v fun b => bopGo op b (Q v H1) (wpB Φ op (.cons e2 r2) false loc H1 Q) := h
      have key := ie w h₀ A n Φ c loc H s false _ S oe R F h
      show wpAny _ A (boolOp p op (eval (up c.ns e) c.env :: eval (up c.ns e2) c.env :: evalEach (ups c.ns r2) c.env)) _ _ s
      unfold boolOp
      refine wpAny_bind (se_next key fun v H1 x s1 q rv R1 E1 S1 => wpAny_bind (wpAny_standAt (wpAny_bind (wpAny_holding ?_))))
      obtain ⟨b, hb, q⟩ := tst_iff q
      refine snd_truth rv hb ?_
      have next : ∀ (_ : wpB Φ op (.cons e2 r2) false loc H1 Q), wpAny (model PR w) A (boolOp p op (eval (up c.ns e2) c.env :: evalEach (ups c.ns r2) c.env)) (EP w h₀ H s Q) NoE s1 := fun q =>
        wp_ep (ir w h₀ A n Φ c loc H1 s1 false op Q S or R1 (F.evo E1) q p) fun _ _ r => ep_trans E1 S1 r
      cases op <;> cases b <;> first | exact next q | exact wpAny_pure ⟨v, H1, q, rv, R1, E1, S1⟩
  | true =>
    have h : wpE Φ e true loc H fun v H1 => isB v fun b => bopGo op b (Q (.bool b) H1) (wpB Φ op r true loc H1 Q) := by cases r <;> exact h
    have key := ie w h₀ A n Φ c loc H s true _ S oe R F h
    have next : ∀ (H1 : HH) (s1 : Shared), HR w h₀ H1 s1.heap → Evo H s.heap H1 s1.heap → Sm s s1 → wpB Φ op r true loc H1 Q → wpAny (model PR w) A (allTrue op (ups c.ns r) c.env) (TP w h₀ H s Q) NoE s1 := fun H1 s1 R1 E1 S1 q =>
      wp_ep (ir w h₀ A n Φ c loc H1 s1 true op Q S or R1 (F.evo E1) q) fun _ _ r => tp_trans E1 S1 r
    cases op with
    | And =>
      refine wpAny_allTrue_And_cons (wp_ep key fun b s1 q => ?_)
      obtain ⟨H1, q, R1, E1, S1⟩ := q
      cases b with
      | true => exact next H1 s1 R1 E1 S1 q
      | false => exact ⟨H1, q, R1, E1, S1⟩
    | Or =>
      refine wpAny_allTrue_Or_cons (wp_ep key fun b s1 q => ?_)
      obtain ⟨H1, q, R1, E1, S1⟩ := q
      cases b with
      | false => exact next H1 s1 R1 E1 S1 q
      | true => exact ⟨H1, q, R1, E1, S1⟩
theorem sndEs_nil : SndEs .nil := fun w h₀ A n Φ c loc H s Q p S o R F h => wpAny_pure ⟨[], H, h, trivial, R, Evo.refl _ _, Sm.refl s⟩
theorem sndEs_cons {e : CE} {r : CEs} (ie : SndE e) (ir : SndEs r) : SndEs (.cons e r) := fun w h₀ A n Φ c loc H s Q p S o R F h => by
  obtain ⟨oe, or⟩ := Bool.and_eq_true_iff.mp o
  rw [ups, starEach_up, backTo_cons]
  refine spliced_cons (se_next (ie w h₀ A n Φ c loc H s false _ S oe R F h) fun v H1 x s1 q rv R1 E1 S1 => ?_)
  refine wp_ep (ir w h₀ A n Φ c loc H1 s1 _ p S or R1 (F.evo E1) q) fun xs s2 z => ?_
  obtain ⟨vs, H2, q, rvs, R2, E2, S2⟩ := z
  exact ⟨v :: vs, H2, q, ⟨rv.mono E2, rvs⟩, R2, E1.trans E2, S1.trans S2⟩
end
open PySem PySem.W PyProof.Rows PySem.Calls PySem.SeqAt
section
variable {w : World} {A : Around} {h₀ : Heap} {H : HH} {s : Shared} {n : Nat} {Q : V → HH → Prop} {Φ : Calls} {c : Cx} {loc : Loc}

theorem le_size {k : Nat} (h : k ≤ 1000) : k ≤ sizeLine := by rw [sizeLine_eq]; omega
theorem snd_tup {es : CEs} {k : Nat} {p : Pos} (i : SndEs es) : SndE (.tup es k p) := fun w h₀ A n Φ c loc H s m Q S o R F h => by
  have h : wpEs Φ es loc H fun vs H1 => isF m (lenK 20 vs (Q (.tup vs) H1)) := h
  have key := i w h₀ A n Φ c loc H s _ p S o R F h
  cases m with
  | true =>
    refine wpAny_isTrue_value (wpAny_Tuple (wp_ep key fun xs s1 z => ?_)) rfl
    obtain ⟨vs, H1, e, _⟩ := z
    exact e.elim
  | false =>
    refine wpAny_Tuple (wp_ep key fun xs s1 z => ?_)
    obtain ⟨vs, H1, q, rv, R1, E1, S1⟩ := z
    obtain ⟨hl, q⟩ := lenK_iff (n := 20) (l := vs) q
    replace hl := Nat.le_trans hl (by decide : 20 ≤ 1000)
    refine ⟨by rw [← rv.length]; exact le_size hl, ep_trans E1 S1 ?_⟩
    exact ep_grow (tk := s1.toks) R1 (push_keeps _ _) q ⟨_, xs.toArray, rfl, ⟨_, Heap.get?_push_size _ rfl, rfl, 0, rfl⟩, R1.fresh (get_size _), rv.mono (R1.grow (push_keeps _ _)).2⟩
theorem snd_lst {es : CEs} {p : Pos} (i : SndEs es) : SndE (.lst es p) := fun w h₀ A n Φ c loc H s m Q S o R F h => by
  have h : wpEs Φ es loc H fun vs H1 => isF m (lenK 20 vs (∀ c, H1 c = none → Q (.ref c) (H1.set c (.list vs)))) := h
  have key := i w h₀ A n Φ c loc H s _ p S o R F h
  cases m with
  | true =>
    refine wpAny_isTrue_value (wpAny_List (wp_ep key fun xs s1 z => ?_)) rfl
    obtain ⟨vs, H1, e, _⟩ := z
    exact e.elim
  | false =>
    refine wpAny_List (wp_ep key fun xs s1 z => ?_)
    obtain ⟨vs, H1, q, rv, R1, E1, S1⟩ := z
    obtain ⟨hl, q⟩ := lenK_iff (n := 20) (l := vs) q
    replace hl := Nat.le_trans hl (by decide : 20 ≤ 1000)
    refine ⟨by rw [← rv.length]; exact le_size hl, ep_trans E1 S1 ?_⟩
    exact ep_list (tk := s1.toks) R1 (push_keeps _ _) (get_size _) (Heap.get?_push_size _ rfl) rv q
theorem snd_sub {a i : CE} {p : Pos} (ia : SndE a) (ii : SndE i) : SndE (.sub a i p) := fun w h₀ A n Φ c loc H s m Q S o R F h => by
  obtain ⟨oa, oi⟩ := Bool.and_eq_true_iff.mp o
  refine se_val (W := fun Q => wpE Φ a false loc H fun x H1 => wpE Φ i false loc H1 fun y H2 => subV x y H2 fun v => Q v H2) rfl (fun Q h => ?_) h
  refine Subscript_ (se_next (ia w h₀ A n Φ c loc H s false _ S oa R F h) fun va H1 x s1 h1 r1 R1 E1 S1 => ?_)
  refine se_next (ii w h₀ A n Φ c loc H1 s1 false _ S oi R1 (F.evo E1) h1) fun vb H2 y s2 h2 r2 R2 E2 S2 => ?_
  exact wp_ep (snd_subV R2 (r1.mono E2) r2 h2) fun z s3 r => ep_trans (E1.trans E2) (S1.trans S2) r

theorem five {α : Type} {l : List α} (h : l.length = 5) : ∃ a b c d e, l = [a, b, c, d, e] := by
  rcases l with _ | ⟨a, _ | ⟨b, _ | ⟨c, _ | ⟨d, _ | ⟨f, _ | ⟨g, l⟩⟩⟩⟩⟩⟩ <;> first | exact ⟨_, _, _, _, _, rfl⟩ | cases h
theorem keyn_at {xs : List Value} {x : Value} : ∀ k, xs.length = 5 → xs[k]? = some x → valueAt (keyn.zip xs) (keyn.getD k "") = some x := by
  intro k h e
  rcases xs with _ | ⟨a, _ | ⟨b, _ | ⟨c, _ | ⟨d, _ | ⟨f, _ | ⟨g, xs⟩⟩⟩⟩⟩⟩ <;> try cases h
  rcases k with _ | _ | _ | _ | _ | k <;> try (cases e; rfl)
  cases e
theorem snd_skey {i : Nat} {ip : Pos} {k : Nat} {kp p : Pos} : SndE (.skey i ip k kp p) := fun w h₀ A n Φ c loc H s m Q S o R F h => by
  refine se_val (W := fun Q => vget loc i fun u => isR u fun l => rdK H l k fun v => Q v H) rfl (fun Q h => ?_) h
  obtain ⟨_, h1, h⟩ := vget_iff h
  obtain ⟨l, rfl, vs, v, h2, h3, q⟩ := isR_iff h
  refine Subscript_ (se_next (snd_var S R F h1 (Q := fun v H' => v = .ref l ∧ H' = H) ⟨rfl, rfl⟩) fun va H1 x s1 e r1 R1 E1 S1 => ?_)
  obtain ⟨rfl, rfl⟩ := e
  cases r1
  obtain ⟨xs, D, rv, hl⟩ := R1.obj _ _ h2
  obtain ⟨x, hx, rx⟩ := rv.get _ h3
  refine wpAny_Constant_str ?_
  have D' := D.mapOf
  have hlen : xs.length = 5 := rv.length.symm.trans hl
  refine tail_any D'.typeIs slot_dict_getitem.lookup (wpAny_getItem_of (strKind_is _ _ _ _) D' (keyn_at k hlen hx) ?_) rfl
  exact ep_trans E1 S1 (ep_same R1 q rx)
theorem var_at {i : Nat} {p : Pos} {v : V} {P : Value → Shared → Prop} {E : Value → Shared → Prop} (S : Sit w h₀ A n Φ c) (F : FR h₀ c loc H s.heap) (h : loc[i]? = some (some v)) (q : ∀ x, VR H s.heap v x → P x s) :
    wpAny (model PR w) A (eval (.Name (c.ns.getD i "") p) c.env) P E s := by
  obtain ⟨m, hn, hm⟩ := F.map
  obtain ⟨x, hx, r⟩ := hm i v h
  have hi : i < c.ns.length := by
    rw [← F.len]
    by_cases q : i < loc.length
    · exact q
    · rw [List.getElem?_eq_none (by omega)] at h; cases h
  refine wpAny_Name ?_ (S.cx.dbg _ (getD_mem' hi))
  rcases hx with ⟨h1, h2⟩ | ⟨h1, a, h2, h3⟩
  · exact wpAny_loadName_local S.cx.kind h1 hn h2 (q x r)
  · exact wpAny_loadName_cell S.cx.kind h1 h2 h3 (q x r)
theorem frT {tk : Nat} (F : FR h₀ c loc H s.heap) : FR h₀ c loc H ({ s with toks := tk } : Shared).heap := F
/-- one pair of a dict's display: a written key, a name -/
theorem pair_step {k : Str} {p1 p2 p : Pos} {i : Nat} {v : V} {rest : List (Sem Value × Sem Value)} {P : List (Value × Value) → Shared → Prop} (S : Sit w h₀ A n Φ c) (F : FR h₀ c loc H s.heap) (h : loc[i]? = some (some v))
    (q : ∀ t x tk, VR H s.heap v x → wpAny (model PR w) A (evalPairs rest) (fun vs s' => P ((.str k t, x) :: vs) s') NoE { s with toks := tk }) :
    wpAny (model PR w) A (evalPairs ((eval (.Constant (.str k) 0 p1) c.env, do let x ← eval (.Name (c.ns.getD i "") p2) c.env; standAt p; pure x) :: rest)) P NoE s := by
  refine evalPairs_cons (wpAny_Constant_str ?_)
  refine wpAny_bind (var_at (s := { s with toks := s.toks + 1 }) S F h fun x r => wpAny_bind (wpAny_standAt (wpAny_pure ?_)))
  exact q _ x _ r

theorem snd_sdict {kvs : List (Pos × Nat × Pos)} {p : Pos} : SndE (.sdict kvs p) := fun w h₀ A n Φ c loc H s m Q S o R F h => by
  obtain ⟨oi, ol⟩ := Bool.and_eq_true_iff.mp o
  have ol := of_decide_eq_true ol
  obtain ⟨rfl, vs, h1, h2, q⟩ := h
  obtain ⟨⟨a1, a2, a3⟩, ⟨b1, b2, b3⟩, ⟨c1, c2, c3⟩, ⟨d1, d2, d3⟩, ⟨e1, e2, e3⟩, rfl⟩ := five ol
  obtain ⟨va, vb, vc, vd, ve, rfl⟩ := five h2
  · skip
    simp only [List.map_cons, List.map_nil, List.cons.injEq] at h1
    obtain ⟨ha, hb, hc, hd, he, -⟩ := h1
    have g := R.new (h' := s.heap.push { cls := .type "dict", data := .dict #[] }) (c := s.heap.objs.size) (co := .idict 0 fun _ => none) (get_size _) (push_keeps _ _) fun E =>
      ⟨fun _ => none, ⟨_, #[], 0, Heap.get?_push_size _ rfl, rfl, rfl, fun _ he => by simp at he, fun k => by simp [findBy]⟩, fun o es ep e d => by rw [Heap.get?_push_size _ rfl] at e; cases e; cases d; exact Nat.le_refl _, fun k v e => by cases e⟩
    have F1 : FR h₀ c loc (H.set s.heap.objs.size (.idict 0 fun _ => none)) (s.heap.push { cls := .type "dict", data := .dict #[] }) := F.evo g.2
    refine wpAny_Dict_walk (knd := strKind PR w) (by rfl) (by rfl) (by intro e; cases e) (by show (5 : Nat) ≤ 15; decide) ?_
    refine pair_step (s := { s with heap := s.heap.push { cls := .type "dict", data := .dict #[] } }) S F1 ha fun t1 x1 tk1 r1 => ?_
    refine pair_step (s := { s with heap := s.heap.push { cls := .type "dict", data := .dict #[] }, toks := tk1 }) S F1 hb fun t2 x2 tk2 r2 => ?_
    refine pair_step (s := { s with heap := s.heap.push { cls := .type "dict", data := .dict #[] }, toks := tk2 }) S F1 hc fun t3 x3 tk3 r3 => ?_
    refine pair_step (s := { s with heap := s.heap.push { cls := .type "dict", data := .dict #[] }, toks := tk3 }) S F1 hd fun t4 x4 tk4 r4 => ?_
    refine pair_step (s := { s with heap := s.heap.push { cls := .type "dict", data := .dict #[] }, toks := tk4 }) S F1 he fun t5 x5 tk5 r5 => ?_
    refine evalPairs_nil ⟨keyn.zip [x1, x2, x3, x4, x5], ⟨strKind_is _ _ _ _, rfl, strKind_is _ _ _ _, rfl, strKind_is _ _ _ _, rfl, strKind_is _ _ _ _, rfl, strKind_is _ _ _ _, rfl, trivial⟩, Heap.DictOf.new _, fun h' D K => ?_⟩
    have g2 := g.1.upd (h' := h') (co' := .sdict [va, vb, vc, vd, ve]) (set_same _ _ _) (fun a ne => K.2 a ne) fun E => ⟨[x1, x2, x3, x4, x5], by
      rw [show keyn.zip [x1, x2, x3, x4, x5] = merged [] (keyn.zip [x1, x2, x3, x4, x5]) from by rfl]; exact D, ⟨r1.mono E, r2.mono E, r3.mono E, r4.mono E, r5.mono E, trivial⟩, rfl⟩
    have e : (H.set s.heap.objs.size (.idict 0 fun _ => none)).set s.heap.objs.size (.sdict [va, vb, vc, vd, ve]) = H.set s.heap.objs.size (.sdict [va, vb, vc, vd, ve]) := by
      funext b; unfold HH.set; split <;> rfl
    rw [e] at g2
    exact ⟨.ref s.heap.objs.size, _, q _ (R.fresh (get_size _)), rfl, g2.1, g.2.trans g2.2, h', _, rfl⟩

theorem snd_idict {g : Nat} {p1 p2 p : Pos} : SndE (.idict g p1 p2 p) := fun w h₀ A n Φ c loc H s m Q S o R F h => by
  obtain ⟨rfl, i, hi, q⟩ := h
  obtain ⟨t, ht⟩ := k_int w.params g i hi
  have g1 := R.new (h' := s.heap.push { cls := .type "dict", data := .dict #[] }) (c := s.heap.objs.size) (co := .idict 0 fun _ => none) (get_size _) (push_keeps _ _) fun E =>
      ⟨fun _ => none, ⟨_, #[], 0, Heap.get?_push_size _ rfl, rfl, rfl, fun _ he => by simp at he, fun k => by simp [findBy]⟩, fun o es ep e d => by rw [Heap.get?_push_size _ rfl] at e; cases e; cases d; exact Nat.le_refl _, fun k v e => by cases e⟩
  refine wpAny_Dict_walk (knd := intKind PR w) (by rfl) (by rfl) (by intro e; cases e) (by show (1 : Nat) ≤ 15; decide) ?_
  refine evalPairs_cons (glob_at (s := { s with heap := s.heap.push { cls := .type "dict", data := .dict #[] } }) S g1.1 (mem_of_contains o) ht ?_)
  refine wpAny_bind (glob_at (s := { s with heap := s.heap.push { cls := .type "dict", data := .dict #[] } }) S g1.1 (mem_of_contains o) ht (wpAny_bind (wpAny_standAt (wpAny_pure (evalPairs_nil ?_)))))
  refine ⟨[(i, .int i t)], ⟨intKind_is _ _ _ _, rfl, trivial⟩, Heap.DictOf.new _, fun h' D K => ?_⟩
  have D : h'.DictOf (intKind PR w) s.heap.objs.size [(i, .int i t)] := D
  have g2 := g1.1.upd (h' := h') (co' := .idict 1 fun j => if j = i then some (.int i) else none) (set_same _ _ _) (fun a ne => K.2 a ne) fun E => by
    refine ⟨valueAt [(i, .int i t)], Heap.MapOf.intMap D.mapOf, ?_, fun k v e => ?_⟩
    · intro o es ep e d
      obtain ⟨o', es', ep', ho', hc', hd', hk', hp', _⟩ := D
      rw [ho'] at e; cases e
      rw [hd'] at d; cases d
      have := Pairs.length hp'
      rw [Array.length_toList] at this
      exact Nat.le_of_eq this
    · have e : (if k = i then some (V.int i) else none) = some v := e
      by_cases q : k = i
      · subst q; rw [if_pos rfl] at e; cases e; exact ⟨_, by simp [valueAt], t, rfl⟩
      · rw [if_neg q] at e; cases e
  have e : (H.set s.heap.objs.size (.idict 0 fun _ => none)).set s.heap.objs.size (.idict 1 fun j => if j = i then some (.int i) else none) = H.set s.heap.objs.size (.idict 1 fun j => if j = i then some (.int i) else none) := by
    funext b; unfold HH.set; split <;> rfl
  rw [e] at g2
  exact ⟨.ref s.heap.objs.size, _, q _ (R.fresh (get_size _)), rfl, g2.1, g1.2.trans g2.2, h', _, rfl⟩
end
open PySem PySem.W PyProof.Rows PySem.Calls PySem.SeqAt
section
variable {w : World} {A : Around} {h₀ : Heap} {H : HH} {s : Shared} {n : Nat} {Q : V → HH → Prop} {Φ : Calls} {c : Cx} {loc : Loc}

/-- the first two of four -/
theorem getItem_two {t sl : Addr} {a b d e : Value} {u : Tok} {Q : Value → Shared → Prop} {E : Value → Shared → Prop} (ht : s.heap.IsTuple t #[a, b, d, e]) (hs : s.heap.IsSliceOf sl .none (.int 2 u) .none)
    (h : Q (.ref s.heap.objs.size) { s with heap := s.heap.push { cls := .type "tuple", data := .seq #[a, b] } }) : wpAny (model PR w) A (getItem (.ref t) (.ref sl)) Q E s := by
  have ht : IsTup s.heap t #[a, b, d, e] := ht
  obtain ⟨os, hos, hcs, hds⟩ := id hs
  have hTs : s.TypeIs (.ref sl) "slice" := ⟨os, hos, hcs⟩
  have cut : ∀ {Q : Int × Int × Nat → Shared → Prop} {A : Around}, Q ((0 : Int), 1, 2) s → wpAny (model PR w) A (Builtin.Slice.sliceApplied (.ref sl) (pure ((4 : Nat) : Int))) Q E s := fun {Q A} h => by
    unfold Builtin.Slice.sliceApplied Builtin.Slice.sliceFields
    refine wpAny_bind (wpAny_bind (wpAny_field hos hds (x := .none) rfl (wpAny_bind (wpAny_field hos hds (x := .int 2 u) rfl (wpAny_bind (wpAny_field hos hds (x := .none) rfl (wpAny_pure ?_)))))))
    refine wpAny_bind (slicePart_none ?_)
    show wpAny _ _ (if ((1 : Int) == 0) = true then _ else _) _ _ s
    rw [if_neg (by decide)]
    refine wpAny_bind (slicePart_none (wpAny_bind (slicePart_int (wpAny_bind (wpAny_pure ?_)))))
    exact wpAny_pure h
  unfold getItem
  try with_reducible refine wpAny_holding ?_
  first | refine wpAny_bind (wpAny_pure ?_) | skip
  refine wpAny_bind (wpAny_sequenceKey ht.typeIs (by decide) ?_)
  refine wpAny_bind (wpAny_callSpecial?_slot (name := Str.ofString "__getitem__") ht.typeIs PySem.F.slot_tuple_getitem
    (wpAny_call_entry PySem.F.slot_tuple_getitem ht.typeIs PySem.F.entry_tuple_getitem ?_ (PySem.F.args_tuple_getitem_2 _ _)))
  show wpAny _ _ (Builtin.Tuple.tupleItemsOf (.ref t) >>= _) _ _ s
  refine wpAny_bind (tupleItemsOf_ ht ?_)
  refine wpAny_bind (wpAny_typeOf hTs ?_)
  rw [if_pos (by decide)]
  refine wpAny_bind (cut ?_)
  show wpAny _ _ (if ((0 : Int) == 0 && (1 : Int) == 1 && 2 == (#[a, b, d, e] : Array Value).size) = true then _ else _) _ _ s
  rw [if_neg (by show ¬ ((0 : Int) == 0 && (1 : Int) == 1 && 2 == 4) = true; decide)]
  have hz : sizeOk (.seq #[a, b]) := by show (2 : Nat) ≤ sizeLine; rw [sizeLine_eq]; decide
  first
    | exact wpAny_bind (m := Builtin.Tuple.tupleExact _) (wpAny_newObj_type (wpAny_pure ⟨_, rfl, wpAny_pure h⟩) hz)
    | exact wpAny_bind (m := Builtin.Tuple.tupleExact _) (wpAny_newObj_type (wpAny_bind (wpAny_pure (wpAny_pure ⟨_, rfl, wpAny_pure h⟩))) hz)
    | exact wpAny_bind (wpAny_bind (m := Builtin.Tuple.tupleExact _) (wpAny_newObj_type (wpAny_pure (wpAny_pure ⟨_, rfl, wpAny_pure h⟩)) hz))
    | exact wpAny_bind (wpAny_bind (m := Builtin.Tuple.tupleExact _) (wpAny_newObj_type (wpAny_pure ⟨_, rfl, wpAny_pure h⟩) hz))

theorem snd_upto {i : Nat} {ip hp sp p : Pos} : SndE (.upto i ip hp sp p) := fun w h₀ A n Φ c loc H s m Q S o R F h => by
  obtain ⟨rfl, h⟩ := isF_iff h
  obtain ⟨_, hv, h⟩ := vget_iff h
  obtain ⟨_, rfl, h⟩ := isT_iff h
  obtain ⟨a, b, d, e, rfl, q⟩ := two_iff h
  refine wpAny_Subscript_Slice PySem.F.slot_tuple_getitem.lookup (var_at S F hv fun x r => ?_)
  obtain ⟨t, its, rfl, ht, hn, r⟩ := r
  obtain ⟨x1, y1, e1, r1, r'⟩ := r.cons_inv
  obtain ⟨x2, x3, x4, rfl, r2, r3, r4⟩ := vrs3 r'
  have e2 : its = #[x1, x2, x3, x4] := Array.toList_inj.mp e1
  subst e2
  refine wpAny_Slice ?_
  refine wpAny_pure ?_
  show wpAny _ A (eval (.Constant (.int 2) 0 hp) c.env) _ _ s
  refine wpAny_Constant_int (wpAny_pure ?_)
  have k : ∀ a o, s.heap.get? a = some o → (s.heap.push { cls := .type "slice", data := .fields #[.none, .int 2 s.toks, .none] }).get? a = some o := push_keeps _ _
  have g := R.grow k
  have ht' : (s.heap.push { cls := .type "slice", data := .fields #[.none, .int 2 s.toks, .none] }).IsTuple t #[x1, x2, x3, x4] := let ⟨o, ho, z⟩ := ht; ⟨o, k _ _ ho, z⟩
  refine ⟨let ⟨o, ho, hc, _⟩ := ht'; ⟨o, ho, hc⟩, ?_⟩
  refine getItem_two ht' (Heap.IsSliceOf.new _ _ _ _) ?_
  have g2 := g.1.grow (push_keeps (s.heap.push { cls := .type "slice", data := .fields #[.none, .int 2 s.toks, .none] }) { cls := .type "tuple", data := .seq #[x1, x2] })
  exact ⟨_, H, q, ⟨_, #[x1, x2], rfl, ⟨_, Heap.get?_push_size _ rfl, rfl, 0, rfl⟩, g.1.fresh (get_size _), (r1.mono g.2).mono g2.2, (r2.mono g.2).mono g2.2, trivial⟩, g2.1, g.2.trans g2.2, _, _, rfl⟩

theorem k_geo (P : Params) : ((clsIn (KK P) 65).any fun cd => cd.hasDict) = true := by kernel_rfl
theorem k_atts (P : Params) : (attn.all fun a => findIn (KK P) (.ref 65) a == some none) = true := by kernel_rfl
theorem k_ga (P : Params) : findIn (KK P) (.ref 65) "__getattribute__" = some (some (.builtin "object.__getattribute__")) := by kernel_rfl
theorem k_att (P : Params) {i : Nat} (h : i < 14) : findIn (KK P) (.ref 65) (attn.getD i "") = some none :=
  beq_iff_eq.mp (List.all_eq_true.mp (k_atts P) _ (getD_mem' (show i < attn.length from h)))
theorem snd_attr {i : Nat} {ip : Pos} {k : Nat} {p : Pos} : SndE (.attr i ip k p) := fun w h₀ A n Φ c loc H s m Q S o R F h => by
  have ok : k < 14 := of_decide_eq_true (Bool.and_eq_true_iff.mp o).2
  refine se_val (W := fun Q => vget loc i fun u => isR u fun g => rdA H g k fun v => Q v H) rfl (fun Q h => ?_) h
  obtain ⟨_, h1, h⟩ := vget_iff h
  obtain ⟨g, rfl, dx, d, sl, v, h2, h3, h4, q⟩ := isR_iff h
  refine Attribute_Name_ (var_at S F h1 fun x r => ?_)
  cases r
  have X := inK S R
  obtain ⟨es, ep, ho, hk, hsz, hv⟩ := R.obj _ _ h3
  obtain ⟨en, hx, rx⟩ := hv k v h4
  generalize hval : en.val = x at rx
  have hl : lookIn (attn.getD k "") (dictOf es ep) = some (some x) := by
    have e1 : lookIn (attn.getD k "") (dictOf es ep) = W.getL (attn.getD k "") es := rfl
    rw [e1]; unfold W.getL; simp only [hx, hval]
  have I : InstAt s.heap g (instObj 65 dx) 65 (some (dictOf es ep)) := ⟨R.obj _ _ h2, rfl, rfl, ho⟩
  obtain ⟨cd, hcd, hdd⟩ := any_some (k_geo w.params)
  refine get_value X I (k_ga _) (name := attn.getD k "") (v := x) ?_ ?_ (ep_same R q rx)
  · unfold findObj
    rw [hcd, Option.bind_some, k_att _ ok]
    unfold W.ownOf
    simp only [Option.bind_some, hdd, if_true, hl]
  · cases v with
    | int i => obtain ⟨t, rfl⟩ := rx; rfl
    | bool b => cases rx; rfl
    | none => cases rx; rfl
    | str u => obtain ⟨t, rfl⟩ := rx; rfl
    | ref a => cases rx; rfl
    | tup vs => obtain ⟨a, its, rfl, _⟩ := rx; rfl
    | rng a b c => obtain ⟨a, t, u, z, rfl, _⟩ := rx; rfl
    | frz vs => obtain ⟨a, its, rfl, _⟩ := rx; rfl

theorem wpEs_cons_of_len {es : CEs} (h : 0 < es.len) : ∃ e r, es = .cons e r := by cases es with | nil => exact absurd h (Nat.lt_irrefl _) | cons e r => exact ⟨e, r, rfl⟩
theorem snd_call {g : Nat} {fp : Pos} {es : CEs} {p : Pos} (i : SndEs es) : SndE (.call g fp es p) := fun w h₀ A n Φ c loc H s m Q S o R F h => by
  obtain ⟨o, ol⟩ := Bool.and_eq_true_iff.mp o
  obtain ⟨o, oe⟩ := Bool.and_eq_true_iff.mp o
  obtain ⟨og, om⟩ := Bool.and_eq_true_iff.mp o
  obtain ⟨k1, k2⟩ := k_fn w.params (of_decide_eq_true og)
  refine se_val (W := fun Q => wpEs Φ es loc H fun vs H1 => Bx (Φ g vs H1 Q)) rfl (fun Q h => ?_) h
  have key := fun p => i w h₀ A n Φ c loc H s _ p S oe R F h
  obtain ⟨e, r, rfl⟩ := wpEs_cons_of_len (of_decide_eq_true ol)
  refine wpAny_Call_NameR (glob_at S R (mem_of_contains om) k1 ?_)
  refine call_args (K := fun h => (KK w.params).In h) (fun h X => keeps_K k2 h X) (wpAny_mono (key p) (fun xs s1 z => ?_) fun _ _ f => f)
  obtain ⟨vs, H1, q, rv, R1, E1, S1⟩ := z
  exact ⟨inK S R1, wp_ep (ph_call S R1 rv q.h) fun _ _ z => ep_trans E1 S1 z⟩

theorem snd_bi {b : BI} {fp : Pos} {es : CEs} {p : Pos} (i : SndEs es) : SndE (.bi b fp es p) := fun w h₀ A n Φ c loc H s m Q S o R F h => by
  obtain ⟨o, ol⟩ := Bool.and_eq_true_iff.mp o
  obtain ⟨om, oe⟩ := Bool.and_eq_true_iff.mp o
  refine se_val (W := fun Q => wpEs Φ es loc H fun vs H1 => biV b vs H1 Q) rfl (fun Q h => ?_) h
  have key := fun p => i w h₀ A n Φ c loc H s _ p S oe R F h
  obtain ⟨e, r, rfl⟩ := wpEs_cons_of_len (of_decide_eq_true ol)
  refine wpAny_Call_NameR (glob_bi S R (mem_of_contains om) ?_)
  refine call_args (K := fun _ => True) (fun h _ => mach_bi b h) (wpAny_mono (key p) (fun xs s1 z => ?_) fun _ _ f => f)
  obtain ⟨vs, H1, q, rv, R1, E1, S1⟩ := z
  exact ⟨trivial, wp_ep (snd_biV S.ao R1 rv q) fun _ _ z => ep_trans E1 S1 z⟩

theorem snd_index {i : Nat} {ip : Pos} {e : CE} {ap p : Pos} (ie : SndE e) : SndE (.index i ip e ap p) := fun w h₀ A n Φ c loc H s m Q S o R F h => by
  obtain ⟨o, ol⟩ := Bool.and_eq_true_iff.mp o
  obtain ⟨oi, oe⟩ := Bool.and_eq_true_iff.mp o
  refine se_val (W := fun Q => ∃ (l : Nat) (vs : List V), loc[i]? = some (some (.ref l)) ∧ H l = some (.list vs) ∧ wpE Φ e false loc H fun y H1 => ∃ (is : List Int) (j : Int), y = .int j ∧ H1 l = some (.list (is.map V.int)) ∧ PyData.layable0 (.list (is.map PyData.int)) = true ∧ j ∈ is ∧ Q (.int (is.idxOf j)) H1) rfl (fun Q h => ?_) h
  obtain ⟨l, vs, h1, h2, h⟩ := h
  have oes : okEs c.env.scope.names c.ns c.gl (.cons e .nil) = true := by unfold okEs okEs; rw [oe]; rfl
  have key := sndEs_cons ie sndEs_nil w h₀ A n Φ c loc H s (fun vs H1 => match vs with
    | [y] => ∃ (is : List Int) (j : Int), y = .int j ∧ H1 l = some (.list (is.map V.int)) ∧ PyData.layable0 (.list (is.map PyData.int)) = true ∧ j ∈ is ∧ Q (.int (is.idxOf j)) H1
    | _ => False) p S oes R F h
  refine wpAny_Call_method (T := "list") (id := "list.index") rfl (by cases e <;> rfl) ol PySem.F.plainAttrs_list PySem.F.slot_list_index (by kernel_rfl) ?_
  refine var_at S F h1 fun x r => ?_
  cases r
  obtain ⟨its, ⟨k, ho⟩, rr⟩ := R.obj _ _ h2
  refine ⟨⟨_, ho, rfl⟩, fun a e => by cases e; exact ⟨_, ho, rfl⟩, ?_⟩
  refine call_args (K := fun _ => True) (es := .nil) (fun h _ => ⟨.machine, .inr (.inl rfl), Looks.of_pure rfl⟩) (wpAny_mono key (fun xs s1 z => ?_) fun _ _ f => f)
  obtain ⟨vs, H1, q, rv, R1, E1, S1⟩ := z
  split at q
  case h_2 => exact q.elim
  obtain ⟨is, j, rfl, h3, h4, h5, q⟩ := q
  obtain ⟨x, rfl, t, rfl⟩ := vrs1 rv
  obtain ⟨its, p1, rr1⟩ := R1.obj _ _ h3
  exact ⟨trivial, index_list_ints p1.isList (vr_ints rr1) h4 h5 (ep_trans E1 S1 (ep_int R1 q))⟩
end
open PySem PySem.W PyProof.Rows PySem.Calls PySem.SeqAt
section
variable {w : World} {A : Around} {h₀ : Heap} {H : HH} {s : Shared} {n : Nat} {Q : V → HH → Prop} {Φ : Calls} {c : Cx} {loc : Loc}

theorem k_makes (P : Params) : makesIn (KK P) 65 = true := by kernel_rfl
theorem k_init (P : Params) : findIn (KK P) (.ref 65) "__init__" = some (some (.ref 62)) := by kernel_rfl
theorem k_initf (P : Params) : typeIn (KK P) (.ref 62) = some (.type "function") := by kernel_rfl
theorem get_size1 (h : Heap) (o : Obj) : h.get? (h.objs.size + 1) = none := by
  cases q : h.get? (h.objs.size + 1) with
  | none => rfl
  | some o => exact absurd (Heap.lt_size q) (Nat.not_lt.mpr (Nat.le_succ _))
theorem attn_none : ∀ (i : Nat) (v : V), (attn.map fun _ => (none : Option V))[i]? ≠ some (some v) := fun i v e => by
  rw [List.getElem?_map] at e
  obtain ⟨x, _, e⟩ := Option.map_eq_some_iff.mp e
  cases e
theorem snd_make {fp : Pos} {es : CEs} {p : Pos} (i : SndEs es) : SndE (.make fp es p) := fun w h₀ A n Φ c loc H s m Q S o R F h => by
  obtain ⟨o, ol⟩ := Bool.and_eq_true_iff.mp o
  obtain ⟨om, oe⟩ := Bool.and_eq_true_iff.mp o
  obtain ⟨k1, k2⟩ := k_cls w.params
  obtain ⟨rfl, h⟩ := h
  have key := fun p => i w h₀ A n Φ c loc H s _ p S oe R F h
  obtain ⟨e, r, rfl⟩ := wpEs_cons_of_len (of_decide_eq_true ol)
  have val : SE w h₀ A c H s false (up c.ns (.make fp (.cons e r) p)) Q := by
    refine wpAny_Call_NameR (glob_at S R (mem_of_contains om) k1 ?_)
    refine call_args (K := fun h => (KK w.params).In h) (fun h X => keeps_K k2 h X) (wpAny_mono (key p) (fun xs s1 z => ?_) fun _ _ f => f)
    obtain ⟨vs, H1, q, rv, R1, E1, S1⟩ := z
    have X := inK S R1
    refine ⟨X, ?_⟩
    obtain ⟨h1, g1, d1, t1, o1⟩ := s1
    refine wpAny_call (make_core (makes_of X (k_makes _)) (looks_findIn X (k_init _)) (fun self => bind_fn X self (k_initf _)) (.inl rfl) ?_)
    dsimp only at *
    have n1 : (h1.push emptyDict).objs.size = h1.objs.size + 1 := Heap.size_push _ _
    have g1 := R1.new (h' := h1.push emptyDict) (c := h1.objs.size) (co := .attrs 0 (attn.map fun _ => none)) (get_size _) (push_keeps _ _) fun E =>
      ⟨[], 0, Heap.get?_push_size _ rfl, fun _ he => by simp at he, Nat.le_refl _, fun i v e => absurd e (attn_none i v)⟩
    have g2 := g1.1.new (h' := (h1.push emptyDict).push (instObj 65 h1.objs.size)) (c := h1.objs.size + 1) (co := .inst h1.objs.size) (by rw [← n1]; exact get_size _) (push_keeps _ _) fun E => by
      show ((h1.push emptyDict).push (instObj 65 h1.objs.size)).get? (h1.objs.size + 1) = _
      rw [← n1]
      exact Heap.get?_push_size _ rfl
    have q' := q (h1.objs.size + 1) h1.objs.size (by omega) (R1.fresh (get_size1 _ emptyDict)) (R1.fresh (get_size _))
    refine codeAny_mono (S.ph 1000 (.ref (h1.objs.size + 1) :: vs) _ _ (A.under (.builtin "type.__call__" ⟨.ref 65 :: xs, []⟩)) ⟨_, _, _, _, _⟩ _ ?_ g2.1 ⟨rfl, (rv.mono g1.2).mono g2.2⟩ q') fun rr s' z => ?_
    · have w1 : (Code.builtin "type.__call__" ⟨.ref 65 :: xs, []⟩).weight = 1 := by kernel_rfl
      have u1 : (Code.builtin "type.__call__" ⟨.ref 65 :: xs, []⟩).cUnits = 1 := by kernel_rfl
      refine ⟨S.ao.hh, ?_, ?_⟩
      · show A.depth + _ + 3 * n + 20 < 1000; rw [w1]; have := S.dp2; omega
      · show A.units + _ + 12 * n + 200 < 9900; rw [u1]; have := S.un2; omega
    · rcases rr with e | (v | _ | _ | _) <;> first | exact z.elim | skip
      obtain ⟨v', H', ⟨rfl, q⟩, r1, R2, E2, S2⟩ := z
      cases r1
      exact ⟨rfl, .ref (h1.objs.size + 1), H', q, rfl, R2, (E1.trans (g1.2.trans g2.2)).trans E2, S1.trans (Sm.trans ⟨_, _, rfl⟩ S2)⟩
  exact val
end
open PySem PySem.W PyProof.Rows PySem.Calls PySem.SeqAt

/-- the iterator I over src has given i items -/
noncomputable def ItAt (h : Heap) (I : Nat) (x : Value) (i : Nat) : V → Prop
  | .ref l => h.IsListIter I l i
  | .tup _ => ∃ t, x = .ref t ∧ h.IsTupleIter I t i
  | .rng a b c => IsRangeIter h I (a + i * c) (Builtin.Range.rangeSize a b c - i) c
  | _ => False
theorem ItAt.keep {h h' : Heap} {I : Nat} {x : Value} {i : Nat} (k : ∀ o, h.get? I = some o → h'.get? I = some o) : ∀ {src : V}, ItAt h I x i src → ItAt h' I x i src
  | .ref _, ⟨o, ho, r⟩ => ⟨o, k o ho, r⟩
  | .tup _, ⟨t, e, o, ho, r⟩ => ⟨t, e, o, k o ho, r⟩
  | .rng .., r => k _ r
  | .int _, r => r.elim
  | .bool _, r => r.elim
  | .none, r => r.elim
  | .str _, r => r.elim
  | .frz _, r => r.elim
theorem ItAt.fix {h : Heap} {I : Nat} {x : Value} {i : Nat} {src : V} (z : ItAt h I x i src) : (∃ o, h.get? I = some o) ∧ ∀ o, h.get? I = some o → ¬ fixd o := by
  have key : ∀ o, h.get? I = some o → o.cls = .type "list_iterator" ∨ o.cls = .type "tuple_iterator" ∨ o.cls = .type "range_iterator" → ∀ o, h.get? I = some o → ¬ fixd o := fun o ho hc o' ho' f => by
    rw [ho] at ho'; cases ho'
    rcases f with ⟨f, _⟩ | ⟨f, _⟩ | ⟨f, _⟩ <;> rcases hc with q | q | q <;> (rw [f] at q; exact absurd q (by decide))
  cases src with
  | ref l => obtain ⟨o, ho, hc, _⟩ := z; exact ⟨⟨o, ho⟩, key o ho (.inl hc)⟩
  | tup vs => obtain ⟨t, rfl, o, ho, hc, _⟩ := z; exact ⟨⟨o, ho⟩, key o ho (.inr (.inl hc))⟩
  | rng a b c => exact ⟨⟨_, z⟩, key _ z (.inr (.inr rfl))⟩
  | _ => exact z.elim

section
variable {w : World} {A : Around} {h₀ : Heap} {H : HH} {s : Shared} {src : V} {x : Value} {all : List V}

theorem rangeL_at {a b c : Int} {i : Nat} {v : V} (h : (rangeL a b c)[i]? = some v) : v = .int (a + i * c) ∧ (i : Int) < Builtin.Range.rangeSize a b c := by
  unfold rangeL at h
  rw [List.getElem?_map] at h
  obtain ⟨j, hj, rfl⟩ := Option.map_eq_some_iff.mp h
  obtain ⟨hj1, hj2⟩ := List.getElem?_eq_some_iff.mp hj
  rw [List.length_range] at hj1
  rw [List.getElem_range] at hj2
  subst hj2
  unfold rangeLen at hj1
  exact ⟨rfl, by omega⟩
theorem rangeL_len (a b c : Int) : (rangeL a b c).length = (Builtin.Range.rangeSize a b c).toNat := by unfold rangeL rangeLen; rw [List.length_map, List.length_range]
theorem size_nonneg {a b c : Int} (h : c ≠ 0) : 0 ≤ Builtin.Range.rangeSize a b c := by
  unfold Builtin.Range.rangeSize
  split
  · split
    · rename_i h1 h2; have := Int.ediv_nonneg (a := b - a - 1) (b := c) (by omega) (by omega); omega
    · omega
  · split
    · rename_i h1 h2; have := Int.ediv_nonneg (a := a - b - 1) (b := -c) (by omega) (by omega); omega
    · omega

theorem it_start {P : Value → Shared → Prop} {E : Value → Shared → Prop} (R : HR w h₀ H s.heap) (r : VR H s.heap src x) (h : items H src = some all)
    (q : ∀ o, ItAt (s.heap.push o) s.heap.objs.size x 0 src → P (.ref s.heap.objs.size) { s with heap := s.heap.push o }) : wpAny (model PR w) A (pyIter x) P E s := by
  unfold items at h
  split at h
  · rename_i l
    cases r
    split at h
    · rename_i vs hl
      obtain ⟨its, p, rr⟩ := R.obj _ _ hl
      exact wpAny_pyIter_list p.isList (q _ ⟨_, Heap.get?_push_size _ rfl, rfl, rfl⟩)
    · cases h
  · obtain ⟨t, its, rfl, ht, hn, rr⟩ := r
    exact wpAny_pyIter_tuple ht (q _ ⟨t, rfl, _, Heap.get?_push_size _ rfl, rfl, rfl⟩)
  · rename_i a b c
    obtain ⟨r, t, u, z, rfl, hr, hn, hs⟩ := r
    refine wpAny_pyIter_range hr hs (q _ ?_)
    show IsRangeIter _ _ (a + ((0 : Nat) : Int) * c) (Builtin.Range.rangeSize a b c - ((0 : Nat) : Int)) c
    rw [show a + ((0 : Nat) : Int) * c = a by simp, show Builtin.Range.rangeSize a b c - ((0 : Nat) : Int) = Builtin.Range.rangeSize a b c by simp]
    exact Heap.get?_push_size _ rfl
  · cases h
theorem it_self {P : Value → Shared → Prop} {E : Value → Shared → Prop} {I i : Nat} (z : ItAt s.heap I x i src) (q : P (.ref I) s) : wpAny (model PR w) A (pyIter (.ref I)) P E s := by
  cases src with
  | ref l => exact wpAny_pyIter_listiter z q
  | tup vs => obtain ⟨t, rfl, z⟩ := z; exact wpAny_pyIter_tupleiter z q
  | rng a b c => exact wpAny_pyIter_rangeiter z q
  | _ => exact z.elim
theorem it_item {P : Option Value → Shared → Prop} {E : Value → Shared → Prop} {I i : Nat} {v : V} (R : HR w h₀ H s.heap) (r : VR H s.heap src x) (h : items H src = some all) (z : ItAt s.heap I x i src) (hv : all[i]? = some v)
    (q : ∀ h' y tk, VR H s.heap v y → ItAt h' I x (i + 1) src → Heap.SameBut I s.heap h' → P (some y) { s with heap := h', toks := tk }) : wpAny (model PR w) A (pyNext (.ref I)) P E s := by
  unfold items at h
  split at h
  · rename_i l
    cases r
    split at h
    · rename_i vs hl
      cases h
      obtain ⟨its, p, rr⟩ := R.obj _ _ hl
      obtain ⟨y, hy, ry⟩ := rr.get _ hv
      exact wpAny_pyNext_list_item z p.isList (arr_get hy) fun h' z' k => q h' y s.toks ry z' k
    · cases h
  · cases h
    obtain ⟨t, its, rfl, ht, hn, rr⟩ := r
    obtain ⟨y, hy, ry⟩ := rr.get _ hv
    obtain ⟨t', e, z⟩ := z
    cases e
    exact wpAny_pyNext_tuple_item z ht (arr_get hy) fun h' z' k => q h' y s.toks ry ⟨_, rfl, z'⟩ k
  · rename_i a b c
    cases h
    obtain ⟨rfl, hlt⟩ := rangeL_at hv
    refine wpAny_pyNext_range_item z (by omega) fun h' z' k => q h' _ _ ⟨_, rfl⟩ ?_ k
    show IsRangeIter _ _ (a + ((i + 1 : Nat) : Int) * c) (Builtin.Range.rangeSize a b c - ((i + 1 : Nat) : Int)) c
    rw [show a + ((i + 1 : Nat) : Int) * c = a + (i : Int) * c + c by rw [Int.natCast_succ, Int.add_mul, Int.one_mul]; omega, show Builtin.Range.rangeSize a b c - ((i + 1 : Nat) : Int) = Builtin.Range.rangeSize a b c - (i : Int) - 1 by omega]
    exact z'
  · cases h
theorem it_end {P : Option Value → Shared → Prop} {E : Value → Shared → Prop} {I i : Nat} (hh : A.handled = none) (R : HR w h₀ H s.heap) (r : VR H s.heap src x) (h : items H src = some all) (z : ItAt s.heap I x i src) (hv : all.length ≤ i)
    (q : ∀ h', Heap.ExtBut I s.heap h' → P none { s with heap := h' }) : wpAny (model PR w) A (pyNext (.ref I)) P E s := by
  unfold items at h
  split at h
  · rename_i l
    cases r
    split at h
    · rename_i vs hl
      cases h
      obtain ⟨its, p, rr⟩ := R.obj _ _ hl
      exact wpAny_pyNext_list_end hh z p.isList (by rw [← Array.getElem?_toList]; exact List.getElem?_eq_none (by rw [← rr.length]; exact hv)) q
    · cases h
  · cases h
    obtain ⟨t, its, rfl, ht, hn, rr⟩ := r
    obtain ⟨t', e, z⟩ := z
    cases e
    exact wpAny_pyNext_tuple_end hh z ht (by rw [← Array.getElem?_toList]; exact List.getElem?_eq_none (by rw [← rr.length]; exact hv)) q
  · rename_i a b c
    cases h
    rw [rangeL_len] at hv
    exact wpAny_pyNext_range_end hh z (by omega) q
  · cases h
end
open PySem PySem.W PyProof.Rows PySem.Calls PySem.SeqAt

noncomputable def clGo (env : Env) : Kinds → List (Str × Addr) → List (Str × Addr)
  | [], cs => cs
  | y :: r, cs => clGo env r (if y.2 == .free then (y.1, (env.cells.lookup y.1).getD 0) :: cs else cs)
theorem closure_go {env : Env} : ∀ (names : Kinds) (cs : List (Str × Addr)), (∀ y ∈ names, y.2 = .free → ∃ a, env.cells.lookup y.1 = some a) →
    (forIn names cs fun x r => match x with
      | (name, kind) => if (kind == NameKind.free) = true then do let a ← cellOf env name; pure (ForInStep.yield ((name, a) :: r)) else pure (ForInStep.yield r) : Sem (List (Str × Addr))) = pure (clGo env names cs)
  | [], cs, _ => rfl
  | (n, k) :: r, cs, h => by
    rw [List.forIn_cons]
    by_cases q : k = .free
    · subst q
      obtain ⟨a, ha⟩ := h _ List.mem_cons_self rfl
      have e : cellOf env n = pure a := by unfold cellOf; rw [ha]
      have e2 : clGo env ((n, NameKind.free) :: r) cs = clGo env r ((n, a) :: cs) := by rw [clGo]; simp [ha]
      simp only [beq_self_eq_true, if_true, e, pure_bind, e2]
      exact closure_go r _ fun y hy => h y (List.mem_cons_of_mem _ hy)
    · have q' : (k == NameKind.free) = false := by simpa using q
      have e2 : clGo env ((n, k) :: r) cs = clGo env r cs := by rw [clGo]; simp [q]
      simp only [q', Bool.false_eq_true, if_false, pure_bind, e2]
      exact closure_go r _ fun y hy => h y (List.mem_cons_of_mem _ hy)
theorem closureFor_eq {sc : Scope} {env : Env} (h : ∀ y ∈ sc.names, y.2 = .free → ∃ a, env.cells.lookup y.1 = some a) : closureFor sc env = pure (clGo env sc.names []) := by
  rw [← closure_go sc.names [] h]
  unfold closureFor
  simp only [bind_pure]
theorem clGo_back {env : Env} : ∀ (names : Kinds) (cs : List (Str × Addr)) {x : Str} {a : Addr}, (∀ y ∈ names, y.2 = .free → ∃ a, env.cells.lookup y.1 = some a) → (clGo env names cs).lookup x = some a → cs.lookup x = some a ∨ env.cells.lookup x = some a
  | [], cs, x, a, _, e => .inl e
  | (n, k) :: r, cs, x, a, h, e => by
    rw [clGo] at e
    rcases clGo_back r _ (fun y hy => h y (List.mem_cons_of_mem _ hy)) e with e | e
    · by_cases q : k = .free
      · subst q
        obtain ⟨b, hb⟩ := h _ List.mem_cons_self rfl
        simp only [beq_self_eq_true, if_true, hb, Option.getD_some] at e
        by_cases z : x = n
        · subst z; simp only [List.lookup_cons, beq_self_eq_true] at e; exact .inr (hb.trans e)
        · have z' : (x == n) = false := by simpa using z
          simp only [List.lookup_cons, z'] at e; exact .inl e
      · have q' : (k == NameKind.free) = false := by simpa using q
        simp only [q', Bool.false_eq_true, if_false] at e; exact .inl e
    · exact .inr e
theorem clGo_at {env : Env} {x : Str} {a : Addr} (hx : env.cells.lookup x = some a) : ∀ (names : Kinds) (cs : List (Str × Addr)), (names.lookup x = some .free ∨ cs.lookup x = some a) → (clGo env names cs).lookup x = some a
  | [], cs, h => by rcases h with h | h; · cases h
                    · exact h
  | (n, k) :: r, cs, h => by
    rw [clGo]
    refine clGo_at hx r _ ?_
    by_cases z : x = n
    · subst z
      rcases h with h | h
      · simp only [List.lookup_cons, beq_self_eq_true, Option.some.injEq] at h
        subst h
        right
        simp [hx]
      · right
        by_cases q : k = .free
        · subst q; simp [hx]
        · have q' : (k == NameKind.free) = false := by simpa using q
          simp only [q', Bool.false_eq_true, if_false]; exact h
    · have z' : (x == n) = false := by simpa using z
      rcases h with h | h
      · simp only [List.lookup_cons, z'] at h; exact .inl h
      · right
        split
        · simp only [List.lookup_cons, z']; exact h
        · exact h

theorem relabel_names {sc : Scope} {env : Env} (h : env.scope.kind = .function) : (relabel sc env).names = relab env.scope.names sc.names := by
  unfold relabel relab
  refine List.map_congr_left fun y _ => ?_
  obtain ⟨n, k⟩ := y
  simp only [h, Env.kindOf, beq_self_eq_true, Bool.and_true]
theorem relab_cell {k : Kinds} {x : Str} (hk : k.lookup x = some .cell) : ∀ {names : Kinds}, names.lookup x = some .free → (relab k names).lookup x = some .cell
  | [], h => by cases h
  | (n, q) :: r, h => by
    unfold relab
    rw [List.map_cons]
    by_cases z : x = n
    · subst z
      simp only [List.lookup_cons, beq_self_eq_true, Option.some.injEq] at h
      subst h
      simp [hk, List.lookup_cons]
    · have z' : (x == n) = false := by simpa using z
      simp only [List.lookup_cons, z'] at h
      have ih := relab_cell hk (names := r) h
      unfold relab at ih
      split <;> simp only [List.lookup_cons, z'] <;> exact ih

/-- the frame of a comprehension -/
noncomputable def cxC (c : Cx) (sc : Scope) (C : Addr) (vars : List Str) (caps : List Nat) : Cx := ⟨vars ++ caps.map (c.ns.getD · ""), [], compEnvC sc (clGo c.env sc.names []) C c.env⟩

structure ScOk (c : Cx) (sc : Scope) (vars : List Str) (caps : List Nat) : Prop where
  kind : sc.kind = .function
  vloc : ∀ x ∈ vars, sc.names.lookup x = some .local ∧ (x == ("__debug__" : Str)) = false
  ncell : ∀ y ∈ sc.names, y.2 ≠ .cell
  nloc : ∀ y ∈ sc.names, y.2 = .local → sc.names.lookup y.1 = some .local
  free : ∀ y ∈ sc.names, y.2 = .free → y.1 ∈ c.ns ∧ c.env.scope.names.lookup y.1 = some .cell
  cap : ∀ i ∈ caps, i < c.ns.length ∧ sc.names.lookup (c.ns.getD i "") = some .free ∧ c.env.scope.names.lookup (c.ns.getD i "") = some .cell
  nod : (vars ++ caps.map (c.ns.getD · "")).Nodup
theorem scOk_of {c : Cx} {sc : Scope} {vars : List Str} {caps : List Nat} (h : scOk c.ns c.env.scope.names vars caps sc = true) : ScOk c sc vars caps := by
  unfold scOk at h
  simp only [Bool.and_eq_true] at h
  obtain ⟨⟨⟨⟨h1, h2⟩, h3⟩, h4⟩, h5⟩ := h
  have k3 := List.all_eq_true.mp h3
  have k4 := List.all_eq_true.mp h4
  refine ⟨beq_iff_eq.mp h1, fun x hx => ?_, fun y hy => ?_, fun y hy e => ?_, fun y hy e => ?_, fun i hi => ?_, of_decide_eq_true h5⟩
  · have := List.all_eq_true.mp h2 x hx
    simp only [Bool.and_eq_true] at this
    exact ⟨beq_iff_eq.mp this.1, by simpa [bne] using this.2⟩
  · have := k3 y hy
    simp only [Bool.and_eq_true] at this
    simpa using this.1.1
  · have := k3 y hy
    simp only [Bool.and_eq_true, e, bne_self_eq_false, Bool.false_or] at this
    exact beq_iff_eq.mp this.1.2
  · have := k3 y hy
    simp only [Bool.and_eq_true, e, bne_self_eq_false, Bool.false_or] at this
    exact ⟨by simpa using this.2.1, beq_iff_eq.mp this.2.2⟩
  · have := k4 i hi
    simp only [Bool.and_eq_true] at this
    exact ⟨of_decide_eq_true this.1.1, beq_iff_eq.mp this.1.2, beq_iff_eq.mp this.2⟩

section
variable {c : Cx} {sc : Scope} {vars : List Str} {caps : List Nat} {C : Addr}
theorem cell_of (O : CxOk c) {x : Str} (hx : x ∈ c.ns) (hk : c.env.scope.names.lookup x = some .cell) : ∃ a, c.env.cells.lookup x = some a := by
  rcases O.slots x hx with h | ⟨_, h⟩
  · unfold Env.kindOf at h; rw [hk] at h; cases h
  · exact h
theorem clos_ok (O : CxOk c) (S : ScOk c sc vars caps) : ∀ y ∈ sc.names, y.2 = .free → ∃ a, c.env.cells.lookup y.1 = some a := fun y hy e => cell_of O (S.free y hy e).1 (S.free y hy e).2
theorem cxC_ok (O : CxOk c) (S : ScOk c sc vars caps) : CxOk (cxC c sc C vars caps) where
  kind := S.kind
  glob := O.glob
  blt := O.blt
  nod := S.nod
  slots := fun x hx => by
    rcases List.mem_append.mp hx with hx | hx
    · exact .inl (lookup_relabel_local (S.vloc x hx).1)
    · obtain ⟨i, hi, rfl⟩ := List.mem_map.mp hx
      obtain ⟨h1, h2, h3⟩ := S.cap i hi
      obtain ⟨a, ha⟩ := cell_of O (getD_mem' h1) h3
      refine .inr ⟨?_, a, clGo_at ha _ _ (.inl h2)⟩
      show (relabel sc c.env).names.lookup _ = _
      rw [relabel_names O.kind]
      exact relab_cell h3 h2
  inj := fun x y a hx hy => by
    have back : ∀ {x : Str} {a}, (clGo c.env sc.names []).lookup x = some a → c.env.cells.lookup x = some a := fun h => (clGo_back _ _ (clos_ok O S) h).elim (fun h => by cases h) id
    exact O.inj x y a (back hx) (back hy)
  gls := fun x hx => by cases hx
  dbg := fun x hx => by
    rcases List.mem_append.mp hx with hx | hx
    · exact (S.vloc x hx).2
    · obtain ⟨i, hi, rfl⟩ := List.mem_map.mp hx
      exact O.dbg _ (getD_mem' (S.cap i hi).1)
  gdbg := fun x hx => by cases hx

theorem getD_append_left {l r : List Str} {i : Nat} (h : i < l.length) : (l ++ r).getD i "" = l.getD i "" := by
  rw [List.getD_eq_getElem?_getD, List.getD_eq_getElem?_getD, List.getElem?_append_left h]
theorem cxC_fr {h₀ : Heap} {H : HH} {h : Heap} {loc vvs : Loc} {m : Str → Option Value} (O : CxOk c) (S : ScOk c sc vars caps) (F : FR h₀ c loc H h) (hC : H C = none) (h0 : h₀.get? C = none) (hn : h.Ns C m)
    (hl : vvs.length = vars.length) (hv : ∀ i v, vvs[i]? = some (some v) → ∃ x, m (vars.getD i "") = some x ∧ VR H h v x) : FR h₀ (cxC c sc C vars caps) (vvs ++ capL loc caps) H h where
  len := by
    show (vvs ++ capL loc caps).length = (vars ++ caps.map (c.ns.getD · "")).length
    unfold capL
    simp [hl]
  off := ⟨hC, h0⟩
  map := by
    refine ⟨m, hn, fun i v e => ?_⟩
    by_cases q : i < vvs.length
    · rw [List.getElem?_append_left q] at e
      obtain ⟨x, hx, r⟩ := hv i v e
      have q' : i < vars.length := hl ▸ q
      refine ⟨x, .inl ⟨?_, ?_⟩, r⟩
      · show (relabel sc c.env).names.lookup ((vars ++ _).getD i "") = _
        rw [getD_append_left q']
        exact lookup_relabel_local (S.vloc _ (getD_mem' q')).1
      · show m ((vars ++ _).getD i "") = _
        rw [getD_append_left q']
        exact hx
    · rw [List.getElem?_append_right (by omega)] at e
      unfold capL at e
      rw [List.getElem?_map] at e
      obtain ⟨j, hj, e⟩ := Option.map_eq_some_iff.mp e
      obtain ⟨h1, h2, h3⟩ := S.cap j (List.mem_of_getElem? hj)
      have e' : loc[j]? = some (some v) := by
        rw [List.getD_eq_getElem?_getD] at e
        cases z : loc[j]? with
        | none => rw [z] at e; cases e
        | some o => rw [z] at e; cases e; rfl
      obtain ⟨m', hm', hm⟩ := F.map
      obtain ⟨x, hx, r⟩ := hm j v e'
      have en : (vars ++ caps.map (c.ns.getD · "")).getD i "" = c.ns.getD j "" := by
        rw [List.getD_eq_getElem?_getD, List.getElem?_append_right (by omega), List.getElem?_map, ← hl, hj]; rfl
      rcases hx with ⟨hk, _⟩ | ⟨hk, a, ha, hc⟩
      · unfold Env.kindOf at hk; rw [h3] at hk; cases hk
      · refine ⟨x, .inr ⟨?_, a, ?_, hc⟩, r⟩
        · show (relabel sc c.env).names.lookup ((vars ++ caps.map (c.ns.getD · "")).getD i "") = _
          rw [en, relabel_names O.kind]
          exact relab_cell h3 h2
        · show (clGo c.env sc.names []).lookup ((vars ++ caps.map (c.ns.getD · "")).getD i "") = _
          rw [en]
          exact clGo_at ha _ _ (.inl h2)
  cell := fun x a e => F.cell x a ((clGo_back _ _ (clos_ok O S) e).elim (fun h => by cases h) id)
end

/-- a local is stored -/
theorem FR.weaken {h₀ : Heap} {c : Cx} {loc : Loc} {H : HH} {h : Heap} (F : FR h₀ c loc H h) (j : Nat) : FR h₀ c (loc.set j none) H h := by
  obtain ⟨hl, ho, ⟨m, hn, hm⟩, hc⟩ := F
  refine ⟨by rw [List.length_set]; exact hl, ho, ⟨m, hn, fun i v e => hm i v ?_⟩, hc⟩
  rw [List.getElem?_set] at e
  split at e
  · split at e <;> cases e
  · exact e
open PySem PySem.W PyProof.Rows PySem.Calls PySem.SeqAt

noncomputable def Own (c : Cx) (a : Nat) : Prop := a = c.env.locals ∨ ∃ x, c.env.cells.lookup x = some a
theorem ns_ne_cell {h : Heap} {L a : Nat} {m : Str → Option Value} {v : Option Value} (n : h.Ns L m) (z : h.IsCell a v) : a ≠ L := fun e => by
  subst e
  obtain ⟨o, es, ep, ho, hd, _⟩ := n
  obtain ⟨o', ho', hd'⟩ := z
  rw [ho] at ho'; cases ho'
  rw [hd] at hd'; cases hd'
theorem nod_inj {l : List Str} (h : l.Nodup) {i j : Nat} (hi : i < l.length) (hj : j < l.length) (e : l.getD i "" = l.getD j "") : i = j := by
  rw [List.getD_eq_getElem?_getD, List.getD_eq_getElem?_getD, List.getElem?_eq_getElem hi, List.getElem?_eq_getElem hj, Option.getD_some, Option.getD_some] at e
  exact (List.getElem_inj h).mp e

section
variable {w : World} {A : Around} {h₀ : Heap} {H : HH} {s : Shared} {c : Cx} {loc : Loc}

theorem loc_lt {i : Nat} {o : Option V} (h : loc[i]? = some o) : i < loc.length := by
  by_cases q : i < loc.length
  · exact q
  · rw [List.getElem?_eq_none (by omega)] at h; cases h
theorem snd_store {j : Nat} {v : V} {x : Value} {P : Unit → Shared → Prop} {E : Value → Shared → Prop} (O : CxOk c) (R : HR w h₀ H s.heap) (F : FR h₀ c loc H s.heap) (hj : j < loc.length) (r : VR H s.heap v x)
    (q : ∀ h' tk, HR w h₀ H h' → FR h₀ c (loc.set j (some v)) H h' → EvoT H s.heap H h' → (∀ a o, ¬ Own c a → s.heap.get? a = some o → h'.get? a = some o) →
      (∀ a o, s.heap.get? a = some o → ∃ o', h'.get? a = some o') → (c.env.kindOf (c.ns.getD j "") = some .local → ∀ a o, a ≠ c.env.locals → s.heap.get? a = some o → h'.get? a = some o) → P () { s with heap := h', toks := tk }) :
    wpAny (model PR w) A (storeName c.env (c.ns.getD j "") x) P E s := by
  obtain ⟨hl, ⟨o1, o2⟩, ⟨m, hn, hm⟩, hc⟩ := F
  have hjn : j < c.ns.length := hl ▸ hj
  rcases O.slots _ (getD_mem' hjn) with hk | ⟨hk, a, ha⟩
  · refine wpAny_storeName_local hk hn (fun h' hn' hs => ?_) (by simp [O.kind])
    obtain ⟨R', T, _⟩ := R.poke (h' := h') o1 o2 (nsFix hn) fun a o ne e => (hs.2 a ne).trans e
    have cellAt : ∀ a v, s.heap.IsCell a v → h'.IsCell a v := fun a v z => isCell_at z fun o e => (hs.2 a (ns_ne_cell hn z)).trans e
    refine q h' _ R' ⟨by rw [List.length_set]; exact hl, ⟨o1, o2⟩, ⟨_, hn', fun i u e => ?_⟩, fun y a e => ?_⟩ T (fun a o no e => (hs.2 a fun z => no (.inl z)).trans e) (fun a o e => ?_) fun _ a o ne e => (hs.2 a ne).trans e
    · by_cases z : j = i
      · subst z
        rw [List.getElem?_set_self hj] at e
        cases e
        exact ⟨x, .inl ⟨hk, if_pos rfl⟩, r.monoT T⟩
      · rw [List.getElem?_set_ne z] at e
        obtain ⟨y, hy, ry⟩ := hm i u e
        have hi : i < c.ns.length := hl ▸ loc_lt e
        refine ⟨y, ?_, ry.monoT T⟩
        rcases hy with ⟨k1, k2⟩ | ⟨k1, a, k2, k3⟩
        · exact .inl ⟨k1, (if_neg fun e => z (nod_inj O.nod hjn hi e.symm)).trans k2⟩
        · exact .inr ⟨k1, a, k2, cellAt _ _ k3⟩
    · obtain ⟨⟨v', z1⟩, z2, z3⟩ := hc y a e
      exact ⟨⟨v', cellAt _ _ z1⟩, z2, z3⟩
    · by_cases z : a = c.env.locals
      · subst z; obtain ⟨o', _, _, ho', _⟩ := hn'; exact ⟨o', ho'⟩
      · exact ⟨o, (hs.2 a z).trans e⟩
  · obtain ⟨⟨v₀, z1⟩, z2, z3⟩ := hc _ a ha
    refine wpAny_storeName_cell O.kind hk ha z1 fun h' hc' hs => ?_
    obtain ⟨R', T, _⟩ := R.poke (h' := h') z2 z3 (cellFix z1) fun a o ne e => (hs.2 a ne).trans e
    have hn' : h'.Ns c.env.locals m := hn.at fun o e => (hs.2 _ (Ne.symm (ns_ne_cell hn z1))).trans e
    refine q h' s.toks R' ⟨by rw [List.length_set]; exact hl, ⟨o1, o2⟩, ⟨m, hn', fun i u e => ?_⟩, fun y b e => ?_⟩ T (fun b o no e => (hs.2 b fun z => no (.inr ⟨_, z ▸ ha⟩)).trans e) (fun b o e => ?_) fun z => by rw [hk] at z; cases z
    · by_cases z : j = i
      · subst z
        rw [List.getElem?_set_self hj] at e
        cases e
        exact ⟨x, .inr ⟨hk, a, ha, hc'⟩, r.monoT T⟩
      · rw [List.getElem?_set_ne z] at e
        obtain ⟨y, hy, ry⟩ := hm i u e
        have hi : i < c.ns.length := hl ▸ loc_lt e
        refine ⟨y, ?_, ry.monoT T⟩
        rcases hy with ⟨k1, k2⟩ | ⟨k1, b, k2, k3⟩
        · exact .inl ⟨k1, k2⟩
        · refine .inr ⟨k1, b, k2, isCell_at k3 fun o e => (hs.2 b fun q => ?_).trans e⟩
          subst q
          exact z (nod_inj O.nod hjn hi (O.inj _ _ _ ha k2))
    · obtain ⟨⟨v', y1⟩, y2, y3⟩ := hc y b e
      refine ⟨?_, y2, y3⟩
      by_cases q : b = a
      · subst q; exact ⟨_, hc'⟩
      · exact ⟨v', isCell_at y1 fun o e => (hs.2 b q).trans e⟩
    · by_cases z : b = a
      · subst z; obtain ⟨o', ho', _⟩ := hc'; exact ⟨o', ho'⟩
      · exact ⟨o, (hs.2 b z).trans e⟩

theorem EvoX.trans {X : Nat → Prop} {H H' H'' : HH} {h h' h'' : Heap} (x : EvoX X H h H' h') (y : EvoX X H' h' H'' h'') : EvoX X H h H'' h'' :=
  fun a o e n q => let ⟨e', n'⟩ := x a o e n q; y a o e' n' q
theorem Evo.x {X : Nat → Prop} {H H' : HH} {h h' : Heap} (x : Evo H h H' h') : EvoX X H h H' h' := fun a o e n _ => x a o e n
/-- a frame, seen after a change elsewhere -/
theorem FR.poke {H : HH} {h h' : Heap} {C : Nat} (F : FR h₀ c loc H h) (T : EvoT H h H h') (k : ∀ a o, a ≠ C → h.get? a = some o → h'.get? a = some o) (hC : ¬ Own c C) : FR h₀ c loc H h' := by
  obtain ⟨hl, o1, ⟨m, hn, hm⟩, hc⟩ := F
  have kk : ∀ a, Own c a → ∀ o, h.get? a = some o → h'.get? a = some o := fun a ha o e => k a o (fun q => hC (q ▸ ha)) e
  refine ⟨hl, o1, ⟨m, hn.at (kk _ (.inl rfl)), fun i v e => ?_⟩, fun x a e => ?_⟩
  · obtain ⟨x, hx, hv⟩ := hm i v e
    refine ⟨x, hx.imp id fun q => ⟨q.1, ?_⟩, hv.monoT T⟩
    obtain ⟨a, ha, hx⟩ := q.2
    exact ⟨a, ha, isCell_at hx (kk a (.inr ⟨_, ha⟩))⟩
  · obtain ⟨⟨v, hv⟩, h1, h2⟩ := hc x a e
    exact ⟨⟨v, isCell_at hv (kk a (.inr ⟨_, e⟩))⟩, h1, h2⟩
/-- what stands in a frame was there, and the clean heap does not speak of it -/
theorem FR.own {H : HH} {h : Heap} (F : FR h₀ c loc H h) {a : Nat} (ha : Own c a) : (∃ o, h.get? a = some o ∧ ¬ fixd o) ∧ H a = none ∧ h₀.get? a = none := by
  rcases ha with rfl | ⟨x, hx⟩
  · obtain ⟨m, hn, _⟩ := F.map
    obtain ⟨o, es, ep, ho, r⟩ := id hn
    exact ⟨⟨o, ho, nsFix hn o ho⟩, F.off.1, F.off.2⟩
  · obtain ⟨⟨v, hv⟩, h1, h2⟩ := F.cell x a hx
    obtain ⟨o, ho, r⟩ := id hv
    exact ⟨⟨o, ho, cellFix hv o ho⟩, h1, h2⟩

/-- where a loop of a comprehension stands: the frame c, the iterator I -/
structure LI (w : World) (h₀ : Heap) (c : Cx) (base : Loc) (src : V) (x : Value) (I : Nat) (H1 : HH) (s1 : Shared) (Ha : HH) (ha : Heap) (i : Nat) (H : HH) (s : Shared) : Prop where
  hr : HR w h₀ H s.heap
  fr : FR h₀ c base H s.heap
  e1 : Evo H1 s1.heap H s.heap
  sm : Sm s1 s
  ex : EvoX (fun a => a = I ∨ a = c.env.locals) Ha ha H s.heap
  vr : VR H s.heap src x
  it : ItAt s.heap I x i src
  hI : H I = none
variable {base : Loc} {src : V} {x : Value} {I : Nat} {H1 Ha : HH} {s1 : Shared} {ha : Heap} {i : Nat}
theorem LI.evo (L : LI w h₀ c base src x I H1 s1 Ha ha i H s) {H' : HH} {s' : Shared} (R : HR w h₀ H' s'.heap) (E : Evo H s.heap H' s'.heap) (S : Sm s s') : LI w h₀ c base src x I H1 s1 Ha ha i H' s' where
  hr := R
  fr := L.fr.evo E
  e1 := L.e1.trans E
  sm := L.sm.trans S
  ex := L.ex.trans E.x
  vr := L.vr.mono E
  it := L.it.keep fun o e => (E I o e L.hI).1
  hI := let ⟨o, ho⟩ := L.it.fix.1; (E I o ho L.hI).2
theorem LI.weak {j : Nat} {u : Option V} (L : LI w h₀ c (base.set j u) src x I H1 s1 Ha ha i H s) (hb : base[j]? = some none) : LI w h₀ c base src x I H1 s1 Ha ha i H s :=
  { L with fr := (by
      have := L.fr.weaken j
      rw [List.set_set] at this
      have e : base.set j none = base := by
        apply List.ext_getElem?
        intro k
        rw [List.getElem?_set]
        split
        · rename_i q; subst q; rw [if_pos (loc_lt hb), hb]
        · rfl
      rwa [e] at this) }
theorem LI.next {all : List V} {v : V} {P : Option Value → Shared → Prop} {E : Value → Shared → Prop} (L : LI w h₀ c base src x I H1 s1 Ha ha i H s) (hi : items H src = some all) (hv : all[i]? = some v) (h0 : h₀.get? I = none) (n1 : Nw H1 s1.heap I) (nI : ¬ Own c I)
    (q : ∀ s' y, LI w h₀ c base src x I H1 s1 Ha ha (i + 1) H s' → VR H s'.heap v y → P (some y) s') : wpAny (model PR w) A (pyNext (.ref I)) P E s := by
  refine it_item L.hr L.vr hi L.it hv fun h' y tk ry z k => ?_
  obtain ⟨R, T, X⟩ := L.hr.poke (h' := h') L.hI h0 L.it.fix.2 fun a o ne e => (k.2 a ne).trans e
  refine q _ y ⟨R, L.fr.poke T (fun a o ne e => (k.2 a ne).trans e) nI, L.e1.poke' n1 fun a o ne e => (k.2 a ne).trans e, L.sm.trans ⟨_, _, rfl⟩, L.ex.trans fun a o e n q => X a o e n fun z => q (.inl z), L.vr.monoT T, z, L.hI⟩ (ry.monoT T)
theorem LI.stop {all : List V} {P : Option Value → Shared → Prop} {E : Value → Shared → Prop} (hh : A.handled = none) (L : LI w h₀ c base src x I H1 s1 Ha ha i H s) (hi : items H src = some all) (hv : all.length ≤ i) (h0 : h₀.get? I = none) (n1 : Nw H1 s1.heap I) (nI : ¬ Own c I)
    (q : ∀ s', HR w h₀ H s'.heap → FR h₀ c base H s'.heap → Evo H1 s1.heap H s'.heap → Sm s1 s' → EvoX (fun a => a = I ∨ a = c.env.locals) Ha ha H s'.heap → P none s') : wpAny (model PR w) A (pyNext (.ref I)) P E s := by
  refine it_end hh L.hr L.vr hi L.it hv fun h' k => ?_
  obtain ⟨R, T, X⟩ := L.hr.poke (h' := h') L.hI h0 L.it.fix.2 fun a o ne e => k a o ne e
  exact q _ R (L.fr.poke T (fun a o ne e => k a o ne e) nI) (L.e1.poke' n1 fun a o ne e => k a o ne e) (L.sm.trans ⟨_, _, rfl⟩) (L.ex.trans fun a o e n q => X a o e n fun z => q (.inl z))
theorem LI.store {j : Nat} {v : V} {y : Value} {P : Unit → Shared → Prop} {E : Value → Shared → Prop} (O : CxOk c) (L : LI w h₀ c base src x I H1 s1 Ha ha i H s) (hj : j < base.length) (r : VR H s.heap v y) (hk : c.env.kindOf (c.ns.getD j "") = some .local) (n1 : Nw H1 s1.heap c.env.locals) (nI : ¬ Own c I)
    (q : ∀ s', LI w h₀ c (base.set j (some v)) src x I H1 s1 Ha ha i H s' → P () s') : wpAny (model PR w) A (storeName c.env (c.ns.getD j "") y) P E s := by
  refine snd_store O L.hr L.fr hj r fun h' tk R F T _ _ k => q _ ⟨R, F, fun a o e n => ?_, L.sm.trans ⟨_, _, rfl⟩, L.ex.trans fun a o e n q => ⟨k hk a o (fun z => q (.inr z)) e, n⟩, L.vr.monoT T, L.it.keep fun o e => k hk I o (fun z => nI (.inl z)) e, L.hI⟩
  obtain ⟨e', n'⟩ := L.e1 a o e n
  exact ⟨k hk a o (fun z => n1 o (z ▸ e) (z ▸ n)) e', n'⟩
end
open PySem PySem.W PyProof.Rows PySem.Calls PySem.SeqAt

noncomputable def SndL (es : CEs) : Prop := SndB es ∧ SndEs es ∧ ∀ e r, es = .cons e r → SndE e

/-- one turn of the last clause -/
noncomputable def lastTurn (elt iter : Expr) (y : Str) (yp : Pos) (ifs : List Expr) (again' : Sem Fin) (it acc : Value) (env : Env) : Sem Fin := do
      standAt iter.pos
      match ← pyNext it with
      | none => pure (.done .next)
      | some v =>
        letOwnedTupleGo (.Name y yp) it v
        assign (.Name y yp) env v
        let mut ok := true
        for c in ifs do
          if ok then ok ← isTrue c env (eval c env)
        if ok then
          (do let _ ← call (.builtin "list.append") [acc, ← eval elt env])
        again'
theorem turn_one (elt iter : Expr) (y : Str) (yp : Pos) (ifs : List Expr) (scope : Scope) (pos : Pos) (it acc : Value) (env : Env) :
    compTurn (.ListComp elt [⟨.Name y yp, iter, ifs, 0⟩] scope pos) 0 it acc env = lastTurn elt iter y yp ifs (again (.compLoop (.ListComp elt [⟨.Name y yp, iter, ifs, 0⟩] scope pos) 0 it acc env)) it acc env := by rfl
theorem turn_two (elt : Expr) (g : Comprehension) (iter : Expr) (y : Str) (yp : Pos) (ifs : List Expr) (scope : Scope) (pos : Pos) (it acc : Value) (env : Env) :
    compTurn (.ListComp elt [g, ⟨.Name y yp, iter, ifs, 0⟩] scope pos) 1 it acc env = lastTurn elt iter y yp ifs (again (.compLoop (.ListComp elt [g, ⟨.Name y yp, iter, ifs, 0⟩] scope pos) 1 it acc env)) it acc env := by rfl
theorem turn_fst (elt : Expr) (x : Str) (xp : Pos) (i1 : Expr) (i2 : Expr) (y : Str) (yp : Pos) (ifs : List Expr) (scope : Scope) (pos : Pos) (it acc : Value) (env : Env) :
    compTurn (.ListComp elt [⟨.Name x xp, i1, [], 0⟩, ⟨.Name y yp, i2, ifs, 0⟩] scope pos) 0 it acc env = (do
      standAt i1.pos
      match ← pyNext it with
      | none => pure (.done .next)
      | some v =>
        letOwnedTupleGo (.Name x xp) it v
        assign (.Name x xp) env v
        let z ← eval i2 env
        standAt i2.pos
        let z ← foldedSetIterable i2 env z
        let _ ← runOwn (.compStart (.ListComp elt [⟨.Name x xp, i1, [], 0⟩, ⟨.Name y yp, i2, ifs, 0⟩] scope pos) 1 (← holding [z] (pyIter z)) acc env) env
        again (.compLoop (.ListComp elt [⟨.Name x xp, i1, [], 0⟩, ⟨.Name y yp, i2, ifs, 0⟩] scope pos) 0 it acc env)) := by rfl

section
variable {w : World} {A : Around} {h₀ : Heap} {n : Nat} {Φ : Calls} {c : Cx} {base : Loc} {src : V} {x : Value} {I : Nat} {H1 Ha : HH} {s1 : Shared} {ha : Heap}

theorem drop_at {all : List V} {i : Nat} {v : V} (h : all[i]? = some v) : all.drop i = v :: all.drop (i + 1) := by
  obtain ⟨h1, h2⟩ := List.getElem?_eq_some_iff.mp h
  rw [← h2]; exact List.drop_eq_getElem_cons h1

noncomputable def cTurn (Φ : Calls) (elt : CE) (cond : CEs) (lc : V → Loc) (D : Nat) : V → HH → (HH → Prop) → Prop := fun v H2 k => wpB Φ .And cond true (lc v) H2 fun r H3 => isB r fun b => iteB b (wpE Φ elt false (lc v) H3 fun x H4 => cPut D x H4 k) (k H3)

theorem comp_last {elt : CE} {cond : CEs} {gens : List Comprehension} {sc : Scope} {pos : Pos} {d : Nat} {yp : Pos} {iter : Expr} {j D : Nat} {all : List V} {R : Result → Shared → Prop} {Qe : HH → Prop}
    (hT : ∀ it acc env, compTurn (.ListComp (up c.ns elt) gens sc pos) d it acc env = lastTurn (up c.ns elt) iter (c.ns.getD j "") yp (ups c.ns cond) (again (.compLoop (.ListComp (up c.ns elt) gens sc pos) d it acc env)) it acc env)
    (S : Sit w h₀ A n Φ c) (ie : SndE elt) (ic : SndL cond) (oe : okE c.env.scope.names c.ns c.gl elt = true) (oc : okEs c.env.scope.names c.ns c.gl cond = true) (hlen : cond.len ≤ 1)
    (hj : base[j]? = some none) (hk : c.env.kindOf (c.ns.getD j "") = some .local) (nI : Nw H1 s1.heap I) (nC : Nw H1 s1.heap c.env.locals) (oI : ¬ Own c I) (h0 : h₀.get? I = none)
    (fin : ∀ H' s', HR w h₀ H' s'.heap → FR h₀ c base H' s'.heap → Evo H1 s1.heap H' s'.heap → Sm s1 s' → EvoX (fun a => a = I ∨ a = c.env.locals) Ha ha H' s'.heap → Qe H' → R (.ok .next) s') (H : HH) (s : Shared)
    (L : LI w h₀ c base src x I H1 s1 Ha ha 0 H s)
    (q : cLoop src all (cTurn Φ elt cond (fun v => base.set j (some v)) D) Qe all H) :
    codeAny (model PR w) A (.compLoop (.ListComp (up c.ns elt) gens sc pos) d (.ref I) (.ref D) c.env) R s := by
  have hjl := loc_lt hj
  refine codeAny_loop rfl (fun k s => ∃ i H, k = all.length - i ∧ LI w h₀ c base src x I H1 s1 Ha ha i H s ∧ cLoop src all (cTurn Φ elt cond (fun v => base.set j (some v)) D) Qe (all.drop i) H) (fun k s => ?_) _ ⟨0, H, rfl, L, q⟩
  rintro ⟨i, H, rfl, L, q⟩
  show wpAny _ A ((compTurn (.ListComp (up c.ns elt) gens sc pos) d (.ref I) (.ref D) c.env).onRaise (fun x => do noteFrame x c.env; theTreesLotGoes x)) _ _ s
  refine wpAny_noted ?_
  rw [hT]
  unfold lastTurn
  refine wpAny_bind (wpAny_standAt (wpAny_bind ?_))
  cases hv : all[i]? with
  | none =>
    have hle : all.length ≤ i := by simpa using hv
    rw [List.drop_eq_nil_of_le hle] at q
    obtain ⟨hi, q⟩ := q
    exact LI.stop S.ao.hh L hi hle h0 nI oI fun s' R1 F1 E1 S1 X1 => wpAny_pure (fin _ _ R1 F1 E1 S1 X1 q)
  | some v =>
    rw [drop_at hv] at q
    obtain ⟨hi, q⟩ := q
    have hlt := (List.getElem?_eq_some_iff.mp hv).1
    refine LI.next L hi hv h0 nI oI fun s2 y L2 ry => ?_
    refine wpAny_bind (wpAny_of_eq (a := ()) rfl (wpAny_bind (wpAny_assign_Name (LI.store S.cx L2 hjl ry hk nC oI fun s3 L3 => wpAny_bind ?_))))
    have emit : ∀ {H4 s4} {P : Shared → Prop} {E : Value → Shared → Prop}, LI w h₀ c (base.set j (some v)) src x I H1 s1 Ha ha (i + 1) H4 s4 → (wpE Φ elt false (base.set j (some v)) H4 fun x H5 => cPut D x H5 (cLoop src all (cTurn Φ elt cond (fun v => base.set j (some v)) D) Qe (all.drop (i + 1)))) →
        (∀ {H6 s6}, LI w h₀ c (base.set j (some v)) src x I H1 s1 Ha ha (i + 1) H6 s6 → cLoop src all (cTurn Φ elt cond (fun v => base.set j (some v)) D) Qe (all.drop (i + 1)) H6 → P s6) →
        wpAny (model PR w) A (do let _ ← call (.builtin "list.append") [.ref D, ← eval (up c.ns elt) c.env]) (fun _ s5 => P s5) E s4 := fun {H4 s4 P E} L4 q4 kk => by
      refine wpAny_bind (wpAny_mono (ie w h₀ A n Φ c _ H4 s4 false _ S oe L4.hr L4.fr q4) (fun z s5 r => ?_) fun _ _ f => f.elim)
      obtain ⟨u, H5, ⟨ws, hD, hsz, q5⟩, ru, R5, E5, S5⟩ := r
      have L5 := L4.evo R5 E5 S5
      obtain ⟨its, pl, rr⟩ := R5.obj _ _ hD
      have hlen : its.size ≤ sizeLine := by rw [sizeLine_eq, ← Array.length_toList, ← rr.length]; exact Nat.le_trans hsz (by decide)
      refine wpAny_bind (wpAny_list_append_plain (hsz := hlen) pl fun h' pl' k => wpAny_pure ?_)
      obtain ⟨R6, E6⟩ := R5.upd (h' := h') (co' := .list (ws ++ [u])) hD (fun a ne => k.2 a ne) fun E => ⟨_, pl', by rw [Array.toList_push]; exact VRs.append (rr.mono E) ⟨ru.mono E, trivial⟩⟩
      exact kk (L5.evo R6 E6 ⟨_, _, rfl⟩) q5
    cases cond with
    | nil =>
      refine wpAny_pure ?_
      exact wpAny_bind (emit L3 q fun L6 q6 => wpAny_pure ⟨rfl, all.length - (i + 1), by omega, i + 1, _, rfl, L6.weak hj, q6⟩)
    | cons e r =>
      cases r with
      | cons e2 r2 => exact absurd hlen (by show ¬ r2.len + 1 + 1 ≤ 1; omega)
      | nil =>
        refine wpAny_tests_one (wpAny_mono (ic.2.2 e .nil rfl w h₀ A n Φ c _ _ s3 true _ S (Bool.and_eq_true_iff.mp oc).1 L3.hr L3.fr q) (fun b s4 t => ?_) fun _ _ f => f.elim)
        obtain ⟨H4, q4, R4, E4, S4⟩ := t
        have L4 := L3.evo R4 E4 S4
        cases b with
        | true =>
          exact wpAny_bind (emit L4 q4 fun L6 q6 => wpAny_pure ⟨rfl, all.length - (i + 1), by omega, i + 1, _, rfl, L6.weak hj, q6⟩)
        | false =>
          exact wpAny_pure ⟨rfl, all.length - (i + 1), by omega, i + 1, _, rfl, L4.weak hj, q4⟩
end
open PySem PySem.W PyProof.Rows PySem.Calls PySem.SeqAt
section
variable {w : World} {A : Around} {h₀ : Heap} {n : Nat} {Φ : Calls} {c : Cx} {loc : Loc} {H : HH} {s : Shared} {Q : V → HH → Prop}

theorem set_up (e : CE) (ns : List Str) (env : Env) (x : Value) : foldedSetIterable (up ns e) env x = pure x := by cases e <;> rfl
/-- the frame of a comprehension is laid: the iterator I, the list D, the frame C -/
theorem comp_lay {x : Value} {src : V} {sc : Scope} {vars : List Str} {caps : List Nat} {vvs : Loc} {P : Env → Shared → Prop} {H1 : HH} {s1 : Shared} {o : Obj}
    (S : Sit w h₀ A n Φ c) (O : ScOk c sc vars caps) (R1 : HR w h₀ H1 s1.heap) (F1 : FR h₀ c loc H1 s1.heap) (r1 : VR H1 s1.heap src x) (z : ItAt (s1.heap.push o) s1.heap.objs.size x 0 src)
    (hl : vvs.length = vars.length) (hvv : ∀ (i : Nat) (v : V), vvs[i]? ≠ some (some v))
    (q : ∀ s4 C, Sit w h₀ A n Φ (cxC c sc C vars caps) → LI w h₀ (cxC c sc C vars caps) (vvs ++ capL loc caps) src x s1.heap.objs.size H1 s1 H1 s1.heap 0 (H1.set (s1.heap.objs.size + 1) (.list [])) s4 → s1.heap.get? C = none → h₀.get? C = none → s1.heap.objs.size ≠ C →
      C ≠ s1.heap.objs.size + 1 → P (newEnv sc C c.env.globals (clGo c.env sc.names []) c.env.qual none .none (some c.env) builtinsNs) s4) :
    wpAny (model PR w) A (newList []) (fun acc s₃ => acc = .ref (s1.heap.objs.size + 1) ∧ wpAny (model PR w) A (newFunctionEnv sc c.env.globals (clGo c.env sc.names []) [] c.env.qual none .none (some c.env)) P NoE s₃) NoE { s1 with heap := s1.heap.push o } := by
  refine wpAny_newObj_type ⟨by show Value.ref (s1.heap.push o).objs.size = _; rw [Heap.size_push], wpAny_newFunctionEnv O.ncell (by intro y hy; simp at hy) (fun h₁ hns₁ hsb₁ => ?_) O.kind⟩
  dsimp only at hns₁ hsb₁ ⊢
  have n1 : (s1.heap.push o).objs.size = s1.heap.objs.size + 1 := Heap.size_push _ _
  generalize hd : ({ cls := .type "list", dict := none, data := .seq ([] : List Value).toArray } : Obj) = oD at *
  have n2 : ((s1.heap.push o).push oD).objs.size = s1.heap.objs.size + 2 := by rw [Heap.size_push, n1]
  have fr : ∀ k, s1.heap.get? (s1.heap.objs.size + k) = none := fun k => by
    cases q : s1.heap.get? (s1.heap.objs.size + k) with
    | none => rfl
    | some o => exact absurd (Heap.lt_size q) (Nat.not_lt.mpr (Nat.le_add_right _ _))
  have k1 := push_keeps s1.heap o
  have k2 := push_keeps (s1.heap.push o) oD
  have g1 := R1.grow k1
  have hDn : (s1.heap.push o).get? (s1.heap.objs.size + 1) = none := by rw [← n1]; exact get_size _
  have g2 := g1.1.new (h' := (s1.heap.push o).push oD) (c := s1.heap.objs.size + 1) (co := .list []) hDn k2 fun E => ⟨#[], ⟨0, by
    rw [← n1, ← hd]; exact Heap.get?_push_size _ rfl⟩, trivial⟩
  generalize hC : ((s1.heap.push o).push oD).objs.size = C at *
  have hCn : ((s1.heap.push o).push oD).get? C = none := by rw [← hC]; exact get_size _
  have ext : ∀ a o', ((s1.heap.push o).push oD).get? a = some o' → h₁.get? a = some o' := fun a o' e => (hsb₁.2 a (fun q => by rw [q, hCn] at e; cases e)).trans (push_keeps _ _ a o' e)
  have g3 := g2.1.grow ext
  have E : Evo H1 s1.heap (H1.set (s1.heap.objs.size + 1) (.list [])) h₁ := (g1.2.trans g2.2).trans g3.2
  have c1 : s1.heap.get? C = none := by rw [n2]; exact fr 2
  have HC : (H1.set (s1.heap.objs.size + 1) (.list [])) C = none := (set_other _ _ (by rw [n2]; exact Nat.ne_of_gt (Nat.lt_succ_self _))).trans (R1.fresh c1)
  refine q _ C { S with cx := cxC_ok S.cx O } ⟨g3.1, cxC_fr S.cx O (F1.evo E) HC (R1.old c1) hns₁ hl fun i v e => absurd e (hvv i v), E, ⟨_, _, rfl⟩, E.x, r1.mono E, z.keep fun o' e => ext _ _ (k2 _ _ e), ?_⟩ c1 (R1.old c1) (by rw [n2]; exact Nat.ne_of_lt (Nat.lt_add_of_pos_right (by decide))) (by rw [n2]; exact Nat.ne_of_gt (Nat.lt_succ_self _))
  exact (set_other _ _ (Nat.ne_of_lt (Nat.lt_succ_self _))).trans (R1.fresh (fr 0))

/-- what stands behind a comprehension: the list D, its frame C at its end -/
noncomputable def Fin (w : World) (A : Around) (h₀ : Heap) (H : HH) (s : Shared) (Q : V → HH → Prop) (use : Option (Value → Sem Unit)) (P : Value → Shared → Prop) : Prop :=
  ∀ D C H' s', Q (.ref D) H' → HR w h₀ H' s'.heap → Evo H s.heap H' s'.heap → Sm s s' → (∃ m, s'.heap.Ns C m) → H' C = none → h₀.get? C = none → Nw H s.heap C → compPost (model PR w) A NoE use P (.ref D) C (.ok .next) s'
theorem fin_none : Fin w A h₀ H s Q none (EP w h₀ H s Q) := fun D C H' s' q R E S ⟨m, hn⟩ hC h0 n0 => by
  refine ⟨m, hn, fun h' hs => ?_⟩
  have k := R.poke (h' := h') hC h0 (nsFix hn) fun a o ne e => (hs.2 a ne).trans e
  exact ⟨.ref D, H', q, rfl, k.1, E.poke' n0 fun a o ne e => (hs.2 a ne).trans e, S.trans ⟨_, _, rfl⟩⟩
theorem nOwn {sc : Scope} {C : Addr} {vars : List Str} {caps : List Nat} {I : Nat} {H1 : HH} {h1 : Heap} (O : ScOk c sc vars caps) (S : Sit w h₀ A n Φ c) (F : FR h₀ c loc H1 h1) (nI : h1.get? I = none) (ne : I ≠ C) : ¬ Own (cxC c sc C vars caps) I := fun h => by
  rcases h with h | ⟨x, hx⟩
  · exact ne h
  · have e : c.env.cells.lookup x = some I := (clGo_back _ _ (clos_ok S.cx O) hx).elim (fun h => by cases h) id
    obtain ⟨⟨o, ho, _⟩, _⟩ := F.own (.inr ⟨x, e⟩)
    rw [nI] at ho; cases ho
theorem compEnv_names {sc : Scope} {C : Addr} {vars : List Str} {caps : List Nat} (S : Sit w h₀ A n Φ c) : (cxC c sc C vars caps).env.scope.names = relab c.env.scope.names sc.names := relabel_names S.cx.kind

theorem comp1_core {elt : CE} {y : Str} {yp : Pos} {it : CE} {cond : CEs} {caps : List Nat} {sc : Scope} {p : Pos} {pos : Pos} {use : Option (Value → Sem Unit)} {P : Value → Shared → Prop} (ie : SndE elt) (ii : SndE it) (ic : SndL cond)
    (S : Sit w h₀ A n Φ c) (o : okE c.env.scope.names c.ns c.gl (.comp1 elt y yp it cond caps sc p) = true) (R : HR w h₀ H s.heap) (F : FR h₀ c loc H s.heap) (h : wpE Φ (.comp1 elt y yp it cond caps sc p) false loc H Q) (fin : Fin w A h₀ H s Q use P) :
    wpAny (model PR w) A (comprehension (up c.ns (.comp1 elt y yp it cond caps sc p)) sc c.env pos (newList []) false (eval (up c.ns it) c.env) use) P NoE s := by
  obtain ⟨o, ol⟩ := Bool.and_eq_true_iff.mp o
  obtain ⟨o, oc⟩ := Bool.and_eq_true_iff.mp o
  obtain ⟨o, oe⟩ := Bool.and_eq_true_iff.mp o
  obtain ⟨oi, os⟩ := Bool.and_eq_true_iff.mp o
  have O := scOk_of (c := c) os
  obtain ⟨_, h⟩ := isF_iff h
  refine wpAny_comprehension_free rfl (set_up it c.ns c.env) (closureFor_eq (clos_ok S.cx O)) O.kind O.nloc ?_
  refine se_next (ii w h₀ A n Φ c loc H s false _ S oi R F h) fun src H1 x s1 h1 r1 R1 E1 S1 => ?_
  obtain ⟨all, hi, hsz, q⟩ := h1
  refine it_start R1 r1 hi fun oI z => ?_
  have nD : H1 (s1.heap.objs.size + 1) = none := R1.fresh (get_size1 _ oI)
  refine wpAny_mono (comp_lay (vars := [y]) (caps := caps) (vvs := [none]) (P := fun cenv s4 => codeAny (model PR w) A (.compStart (up c.ns (.comp1 elt y yp it cond caps sc p)) 0 (.ref s1.heap.objs.size) (.ref (s1.heap.objs.size + 1)) { cenv with scope := relabel sc c.env }) (compPost (model PR w) A NoE use P (.ref (s1.heap.objs.size + 1)) cenv.locals) s4)
    S O R1 (F.evo E1) r1 z rfl (fun i v e => by cases i with | zero => cases e | succ i => cases e) fun s4 C S4 L c1 c2 c3 c4 => ?_) (fun acc s' z => by obtain ⟨rfl, z⟩ := z; exact z) fun _ _ f => f
  have key : codeAny (model PR w) A (.compLoop (up c.ns (.comp1 elt y yp it cond caps sc p)) 0 (.ref s1.heap.objs.size) (.ref (s1.heap.objs.size + 1)) (cxC c sc C [y] caps).env) (compPost (model PR w) A NoE use P (.ref (s1.heap.objs.size + 1)) C) s4 :=
    comp_last (c := cxC c sc C [y] caps) (base := [none] ++ capL loc caps) (j := 0) (cond := cond) (elt := elt) (iter := up c.ns it) (yp := yp) (src := src) (x := x) (H1 := H1) (s1 := s1) (Ha := H1) (ha := s1.heap)
      (Qe := fun H5 => Q (.ref (s1.heap.objs.size + 1)) H5) (fun it acc env => turn_one _ _ _ _ _ _ _ _ _ _) S4 ie ic (by rw [compEnv_names S]; exact oe) (by rw [compEnv_names S]; exact oc) (of_decide_eq_true ol) rfl
      (lookup_relabel_local (O.vloc y (.head _)).1) (.of (get_size _)) (.of c1) (nOwn O S (F.evo E1) (get_size _) c3) (R1.old (get_size _))
      (fun H' s' R' F' E' S' X' q => fin _ C H' s' q R' (E1.trans E') (S1.trans S') (by obtain ⟨m, hm, _⟩ := F'.map; exact ⟨m, hm⟩) F'.off.1 c2 (Nw.back E1 c1)) _ _ L (q _ nD)
  exact codeAny_compStart_list key (it_self L.it key)

theorem start_one {elt : Expr} {g1 g2 : Comprehension} {sc : Scope} {pos : Pos} {it acc : Value} {env : Env} {R : Result → Shared → Prop} {s : Shared} (h2 : (g2.is_async != 0) = false)
    (h : codeAny (model PR w) A (.compLoop (.ListComp elt [g1, g2] sc pos) 1 it acc env) R s)
    (hp : ∀ {P : Value → Shared → Prop} {E : Value → Shared → Prop}, P it s → wpAny (model PR w) A (pyIter it) P E s) :
    codeAny (model PR w) A (.compStart (.ListComp elt [g1, g2] sc pos) 1 it acc env) R s := by
  refine codeAny_of_tree ?_
  show wpAny _ A ((compStart (.ListComp elt [g1, g2] sc pos) 1 it acc env).onRaise (fun x => do noteFrame x env; standAt theWindowsPlace)) _ _ s
  refine wpAny_notedAt ?_
  unfold compStart
  rw [show (((clausesOf (.ListComp elt [g1, g2] sc pos))[1]?).elim false (·.is_async != 0)) = false from h2]
  show wpAny _ _ (ask >>= _) _ _ s
  refine wpAny_bind (wpAny_askSetting (wpAny_ite ?_))
  split
  · first
      | exact wpAny_bind (wpAny_pure (wpAny_pure (And.intro rfl h)))
      | exact wpAny_pure (And.intro rfl h)
  · refine wpAny_bind (wpAny_rule ?_)
    show wpAny _ _ (standAt g2.iter.pos >>= _) _ _ s
    exact wpAny_bind (wpAny_standAt (wpAny_bind (hp (wpAny_pure (And.intro rfl h)))))

noncomputable def oTurn (Φ : Calls) (elt it2 : CE) (cond : CEs) (lc : V → Loc) (lc2 : V → V → Loc) (D : Nat) : V → HH → (HH → Prop) → Prop := fun u H2 k2 => wpE Φ it2 false (lc u) H2 fun src2 H3 => ∃ all2, items H3 src2 = some all2 ∧ all2.length ≤ 1000 ∧
  cLoop src2 all2 (cTurn Φ elt cond (lc2 u) D) k2 all2 H3

theorem comp_outer {elt it2 : CE} {cond : CEs} {sc : Scope} {pos : Pos} {xp yp : Pos} {iter : Expr} {D : Nat} {cl : Loc} {src : V} {xv : Value} {I : Nat} {H1 : HH} {s1 : Shared} {all : List V} {R : Result → Shared → Prop} {Qe : HH → Prop}
    (S : Sit w h₀ A n Φ c) (ie : SndE elt) (i2 : SndE it2) (ic : SndL cond) (oe : okE c.env.scope.names c.ns c.gl elt = true) (o2 : okE c.env.scope.names c.ns c.gl it2 = true) (oc : okEs c.env.scope.names c.ns c.gl cond = true) (hlen : cond.len = 1)
    (hk0 : c.env.kindOf (c.ns.getD 0 "") = some .local) (hk1 : c.env.kindOf (c.ns.getD 1 "") = some .local) (nI : Nw H1 s1.heap I) (nC : Nw H1 s1.heap c.env.locals) (oI : ¬ Own c I) (h0 : h₀.get? I = none)
    (fin : ∀ H' s', HR w h₀ H' s'.heap → FR h₀ c (none :: none :: cl) H' s'.heap → Evo H1 s1.heap H' s'.heap → Sm s1 s' → Qe H' → R (.ok .next) s') (H : HH) (s : Shared)
    (L : LI w h₀ c (none :: none :: cl) src xv I H1 s1 H1 s1.heap 0 H s)
    (q : cLoop src all (oTurn Φ elt it2 cond (fun u => some u :: none :: cl) (fun u v => some u :: some v :: cl) D) Qe all H) :
    codeAny (model PR w) A (.compLoop (.ListComp (up c.ns elt) [⟨.Name (c.ns.getD 0 "") xp, iter, [], 0⟩, ⟨.Name (c.ns.getD 1 "") yp, up c.ns it2, ups c.ns cond, 0⟩] sc pos) 0 (.ref I) (.ref D) c.env) R s := by
  refine codeAny_loop rfl (fun k s => ∃ i H, k = all.length - i ∧ LI w h₀ c (none :: none :: cl) src xv I H1 s1 H1 s1.heap i H s ∧ cLoop src all (oTurn Φ elt it2 cond (fun u => some u :: none :: cl) (fun u v => some u :: some v :: cl) D) Qe (all.drop i) H) (fun k s => ?_) _ ⟨0, H, rfl, L, q⟩
  rintro ⟨i, H, rfl, L, q⟩
  show wpAny _ A ((compTurn (.ListComp (up c.ns elt) [⟨.Name (c.ns.getD 0 "") xp, iter, [], 0⟩, ⟨.Name (c.ns.getD 1 "") yp, up c.ns it2, ups c.ns cond, 0⟩] sc pos) 0 (.ref I) (.ref D) c.env).onRaise (fun x => do noteFrame x c.env; theTreesLotGoes x)) _ _ s
  refine wpAny_noted ?_
  rw [turn_fst]
  refine wpAny_bind (wpAny_standAt (wpAny_bind ?_))
  cases hv : all[i]? with
  | none =>
    have hle : all.length ≤ i := by simpa using hv
    rw [List.drop_eq_nil_of_le hle] at q
    obtain ⟨hi, q⟩ := q
    exact LI.stop S.ao.hh L hi hle h0 nI oI fun s' R1 F1 E1 S1 X1 => wpAny_pure (fin _ _ R1 F1 E1 S1 q)
  | some u =>
    rw [drop_at hv] at q
    obtain ⟨hi, q⟩ := q
    have hlt := (List.getElem?_eq_some_iff.mp hv).1
    refine LI.next L hi hv h0 nI oI fun s2 y L2 ry => ?_
    refine wpAny_bind (wpAny_of_eq (a := ()) rfl (wpAny_bind (wpAny_assign_Name (LI.store (j := 0) S.cx L2 (Nat.succ_pos _) ry hk0 nC oI fun s3 L3 => wpAny_bind ?_))))
    have L3 : LI w h₀ c (some u :: none :: cl) src xv I H1 s1 H1 s1.heap (i + 1) H s3 := L3
    refine wpAny_mono (i2 w h₀ A n Φ c _ H s3 false _ S o2 L3.hr L3.fr q) (fun z s4 r => ?_) fun _ _ f => f.elim
    obtain ⟨src2, H4, ⟨all2, hi2, hsz2, q2⟩, r2, R4, E4, S4⟩ := r
    have L4 := L3.evo R4 E4 S4
    refine wpAny_bind (wpAny_standAt (wpAny_bind (wpAny_of_eq (set_up it2 c.ns c.env z) (wpAny_bind (wpAny_holding (it_start R4 r2 hi2 fun o2 z2 => ?_))))))
    have g := R4.grow (push_keeps s4.heap o2)
    have n5 : s4.heap.get? s4.heap.objs.size = none := get_size _
    have L5 := L4.evo (s' := { s4 with heap := s4.heap.push o2 }) g.1 g.2 ⟨_, _, rfl⟩
    have oI2 : ¬ Own c s4.heap.objs.size := fun h => by
      obtain ⟨⟨o', ho', _⟩, _⟩ := L4.fr.own h
      rw [n5] at ho'; cases ho'
    have L6 : LI w h₀ c (some u :: none :: cl) src2 z s4.heap.objs.size H1 s1 H4 (s4.heap.push o2) 0 H4 { s4 with heap := s4.heap.push o2 } := ⟨g.1, L5.fr, L5.e1, L5.sm, fun a o e n _ => ⟨e, n⟩, r2.mono g.2, z2, R4.fresh n5⟩
    have key : codeAny (model PR w) A (.compLoop (.ListComp (up c.ns elt) [⟨.Name (c.ns.getD 0 "") xp, iter, [], 0⟩, ⟨.Name (c.ns.getD 1 "") yp, up c.ns it2, ups c.ns cond, 0⟩] sc pos) 1 (.ref s4.heap.objs.size) (.ref D) c.env) (fun r s' => match r with
        | .ok f => ∃ H', LI w h₀ c (none :: none :: cl) src xv I H1 s1 H1 s1.heap (i + 1) H' s' ∧ cLoop src all (oTurn Φ elt it2 cond (fun u => some u :: none :: cl) (fun u v => some u :: some v :: cl) D) Qe (all.drop (i + 1)) H'
        | .error e => False) { s4 with heap := s4.heap.push o2 } := by
      refine comp_last (c := c) (base := some u :: none :: cl) (j := 1) (cond := cond) (elt := elt) (src := src2) (x := z) (H1 := H1) (s1 := s1) (Ha := H4) (ha := s4.heap.push o2) (all := all2)
        (Qe := cLoop src all (oTurn Φ elt it2 cond (fun u => some u :: none :: cl) (fun u v => some u :: some v :: cl) D) Qe (all.drop (i + 1))) (fun it acc env => turn_two _ _ _ _ _ _ _ _ _ _ _) S ie ic oe oc (Nat.le_of_eq hlen) rfl hk1
        (Nw.back L4.e1 n5) nC oI2 (R4.old n5) (fun H' s' R' F' E' S' X' q' => ?_) _ _ L6 q2
      obtain ⟨m, hn, _⟩ := L6.fr.map
      have T : EvoT H4 (s4.heap.push o2) H' s'.heap := fun a o e nn f => X' a o e nn fun hx => by
        rcases hx with rfl | rfl
        · exact L6.it.fix.2 o e f
        · exact nsFix hn o e f
      have iI : I ≠ s4.heap.objs.size := fun h => by
        obtain ⟨⟨o', ho'⟩, _⟩ := L4.it.fix
        rw [h, n5] at ho'; cases ho'
      refine ⟨H', ⟨R', F'.weaken 0, E', S', fun a o e nn hx => ?_, L5.vr.monoT T, L5.it.keep fun o e => (X' I o e L5.hI (fun h => h.elim iI fun h => oI (.inl h))).1, ?_⟩, q'⟩
      · obtain ⟨e4, n4⟩ := L4.ex a o e nn hx
        exact X' a o (push_keeps _ _ a o e4) n4 fun h => h.elim (fun h => by rw [h, n5] at e4; cases e4) fun h => hx (.inr h)
      · obtain ⟨⟨o', ho'⟩, _⟩ := L5.it.fix
        exact (X' I o' ho' L5.hI (fun h => h.elim iI fun h => oI (.inl h))).2
    refine wpAny_bind (wpAny_runOwn ?_)
    rw [Around.mark_none]
    refine codeAny_mono (start_one rfl key fun {P E} hP => it_self L6.it hP) fun r s' z => ?_
    rcases r with e | f
    · exact z.elim
    · obtain ⟨H', L7, q7⟩ := z
      exact wpAny_pure ⟨rfl, all.length - (i + 1), by omega, i + 1, _, rfl, L7, q7⟩

theorem comp2_core {elt : CE} {x : Str} {xp : Pos} {it : CE} {y : Str} {yp : Pos} {it2 : CE} {cond : CEs} {caps : List Nat} {sc : Scope} {p : Pos} {pos : Pos} {use : Option (Value → Sem Unit)} {P : Value → Shared → Prop} (ie : SndE elt) (ii : SndE it) (i2 : SndE it2) (ic : SndL cond)
    (S : Sit w h₀ A n Φ c) (o : okE c.env.scope.names c.ns c.gl (.comp2 elt x xp it y yp it2 cond caps sc p) = true) (R : HR w h₀ H s.heap) (F : FR h₀ c loc H s.heap) (h : wpE Φ (.comp2 elt x xp it y yp it2 cond caps sc p) false loc H Q) (fin : Fin w A h₀ H s Q use P) :
    wpAny (model PR w) A (comprehension (up c.ns (.comp2 elt x xp it y yp it2 cond caps sc p)) sc c.env pos (newList []) false (eval (up c.ns it) c.env) use) P NoE s := by
  obtain ⟨o, ol⟩ := Bool.and_eq_true_iff.mp o
  obtain ⟨o, oc⟩ := Bool.and_eq_true_iff.mp o
  obtain ⟨o, oe⟩ := Bool.and_eq_true_iff.mp o
  obtain ⟨o, o2⟩ := Bool.and_eq_true_iff.mp o
  obtain ⟨oi, os⟩ := Bool.and_eq_true_iff.mp o
  have O := scOk_of (c := c) os
  obtain ⟨_, h⟩ := isF_iff h
  refine wpAny_comprehension_free rfl (set_up it c.ns c.env) (closureFor_eq (clos_ok S.cx O)) O.kind O.nloc ?_
  refine se_next (ii w h₀ A n Φ c loc H s false _ S oi R F h) fun src H1 xv s1 h1 r1 R1 E1 S1 => ?_
  obtain ⟨all, hi, hsz, q⟩ := h1
  refine it_start R1 r1 hi fun oI z => ?_
  have nD : H1 (s1.heap.objs.size + 1) = none := R1.fresh (get_size1 _ oI)
  refine wpAny_mono (comp_lay (vars := [x, y]) (caps := caps) (vvs := [none, none]) (P := fun cenv s4 => codeAny (model PR w) A (.compStart (up c.ns (.comp2 elt x xp it y yp it2 cond caps sc p)) 0 (.ref s1.heap.objs.size) (.ref (s1.heap.objs.size + 1)) { cenv with scope := relabel sc c.env }) (compPost (model PR w) A NoE use P (.ref (s1.heap.objs.size + 1)) cenv.locals) s4)
    S O R1 (F.evo E1) r1 z rfl (fun i v e => by rcases i with _ | _ | i <;> cases e) fun s4 C S4 L c1 c2 c3 c4 => ?_) (fun acc s' z => by obtain ⟨rfl, z⟩ := z; exact z) fun _ _ f => f
  have key : codeAny (model PR w) A (.compLoop (up c.ns (.comp2 elt x xp it y yp it2 cond caps sc p)) 0 (.ref s1.heap.objs.size) (.ref (s1.heap.objs.size + 1)) (cxC c sc C [x, y] caps).env) (compPost (model PR w) A NoE use P (.ref (s1.heap.objs.size + 1)) C) s4 :=
    comp_outer (c := cxC c sc C [x, y] caps) (cl := capL loc caps) (cond := cond) (elt := elt) (it2 := it2) (iter := up c.ns it) (yp := yp) (xp := xp) (src := src) (xv := xv) (H1 := H1) (s1 := s1) (all := all)
      (Qe := fun H5 => Q (.ref (s1.heap.objs.size + 1)) H5) S4 ie i2 ic (by rw [compEnv_names S]; exact oe) (by rw [compEnv_names S]; exact o2) (by rw [compEnv_names S]; exact oc) (of_decide_eq_true ol)
      (lookup_relabel_local (O.vloc x (.head _)).1) (lookup_relabel_local (O.vloc y (.tail _ (.head _))).1) (.of (get_size _)) (.of c1) (nOwn O S (F.evo E1) (get_size _) c3) (R1.old (get_size _))
      (fun H' s' R' F' E' S' q => fin _ C H' s' q R' (E1.trans E') (S1.trans S') (by obtain ⟨m, hm, _⟩ := F'.map; exact ⟨m, hm⟩) F'.off.1 c2 (Nw.back E1 c1)) _ _ L (q _ nD)
  exact codeAny_compStart_list key (it_self L.it key)

theorem snd_comp1 {elt : CE} {y : Str} {yp : Pos} {it : CE} {cond : CEs} {caps : List Nat} {sc : Scope} {p : Pos} (ie : SndE elt) (ii : SndE it) (ic : SndL cond) : SndE (.comp1 elt y yp it cond caps sc p) := fun w h₀ A n Φ c loc H s m Q S o R F h => by
  obtain ⟨rfl, h'⟩ := isF_iff h
  exact comp1_core ie ii ic S o R F h fin_none
theorem snd_comp2 {elt : CE} {x : Str} {xp : Pos} {it : CE} {y : Str} {yp : Pos} {it2 : CE} {cond : CEs} {caps : List Nat} {sc : Scope} {p : Pos} (ie : SndE elt) (ii : SndE it) (i2 : SndE it2) (ic : SndL cond) : SndE (.comp2 elt x xp it y yp it2 cond caps sc p) := fun w h₀ A n Φ c loc H s m Q S o R F h => by
  obtain ⟨rfl, h'⟩ := isF_iff h
  exact comp2_core ie ii i2 ic S o R F h fin_none
end

mutual
theorem sndE : ∀ e : CE, SndE e
  | .int i p => snd_int i p
  | .bool b p => snd_bool b p
  | .none p => snd_none p
  | .var i p => snd_vare i p
  | .gint g p => snd_gint g p
  | .gtup g p => snd_gtup g p
  | .bin op a b p => snd_bin (sndE a) (sndE b)
  | .un op a p => snd_un (sndE a)
  | .cmp op a b p => snd_cmp (sndE a) (sndE b)
  | .cmp2 o1 o2 a b c p => snd_cmp2 (sndE a) (sndE b) (sndE c)
  | .bop op es p => snd_bop (sndL es).1
  | .ife c a b p => snd_ife (sndE c) (sndE a) (sndE b)
  | .tup es k p => snd_tup (sndL es).2.1
  | .lst es p => snd_lst (sndL es).2.1
  | .sdict kvs p => snd_sdict
  | .idict g p1 p2 p => snd_idict
  | .sub a i p => snd_sub (sndE a) (sndE i)
  | .skey i ip k kp p => snd_skey
  | .upto i ip hp sp p => snd_upto
  | .attr i ip n p => snd_attr
  | .call g fp es p => snd_call (sndL es).2.1
  | .make fp es p => snd_make (sndL es).2.1
  | .bi b fp es p => snd_bi (sndL es).2.1
  | .index i ip e ap p => snd_index (sndE e)
  | .comp1 elt x xp it cond caps sc p => snd_comp1 (sndE elt) (sndE it) (sndL cond)
  | .comp2 elt x xp it y yp it2 cond caps sc p => snd_comp2 (sndE elt) (sndE it) (sndE it2) (sndL cond)
theorem sndL : ∀ es : CEs, SndL es
  | .nil => ⟨sndB_nil, sndEs_nil, fun _ _ e => by cases e⟩
  | .cons e r => ⟨sndB_cons (sndE e) (sndL r).1, sndEs_cons (sndE e) (sndL r).2.1, fun e' r' h => by cases h; exact sndE e⟩
end
open PySem PySem.W PyProof.Rows PySem.Calls PySem.SeqAt

theorem put_same {nm : Str} {hsh : Int} {t : Tok} {v : Value} : ∀ es : List DictEntry, ∃ e, (putL nm hsh (.str nm t) v es).find? (·.key.isStr nm) = some e ∧ e.val = v
  | [] => ⟨⟨hsh, .str nm t, v⟩, by simp [putL, Value.isStr], rfl⟩
  | e :: r => by
    unfold putL
    cases h : e.key.isStr nm with
    | true => exact ⟨⟨e.hash, e.key, v⟩, by simp [List.find?_cons, h], rfl⟩
    | false =>
      obtain ⟨e', h1, h2⟩ := put_same (nm := nm) (hsh := hsh) (t := t) (v := v) r
      exact ⟨e', by simp [List.find?_cons, h, h1], h2⟩
theorem put_other {nm y : Str} {hsh : Int} {t : Tok} {v : Value} (ne : y ≠ nm) : ∀ es : List DictEntry, (∀ e ∈ es, ∃ x t, e.key = .str x t) → (putL nm hsh (.str nm t) v es).find? (·.key.isStr y) = es.find? (·.key.isStr y)
  | [], _ => by
    have : (nm == y) = false := by simpa using fun h => ne h.symm
    simp [putL, Value.isStr, this]
  | e :: r, hk => by
    unfold putL
    obtain ⟨x, u, hx⟩ := hk e List.mem_cons_self
    cases h : e.key.isStr nm with
    | true =>
      have h' : (x == nm) = true := by rw [hx] at h; exact h
      have e1 : x = nm := by simpa using h'
      have h2 : e.key.isStr y = false := by
        rw [hx, e1]
        show (nm == y) = false
        simpa using fun h => ne h.symm
      simp [List.find?_cons, h2]
    | false =>
      simp only [Bool.false_eq_true, if_false, List.find?_cons]
      rw [put_other ne r fun e he => hk e (List.mem_cons_of_mem _ he)]
theorem put_keys {nm : Str} {hsh : Int} {t : Tok} {v : Value} : ∀ es : List DictEntry, (∀ e ∈ es, ∃ x t, e.key = .str x t) → ∀ e ∈ putL nm hsh (.str nm t) v es, ∃ x t, e.key = .str x t
  | [], _, e, he => by
    simp only [putL, List.mem_singleton] at he
    subst he; exact ⟨_, _, rfl⟩
  | e :: r, hk, e', he => by
    unfold putL at he
    split at he
    · rcases List.mem_cons.mp he with rfl | he
      · exact hk e List.mem_cons_self
      · exact hk e' (List.mem_cons_of_mem _ he)
    · rcases List.mem_cons.mp he with rfl | he
      · exact hk _ List.mem_cons_self
      · exact put_keys r (fun e he => hk e (List.mem_cons_of_mem _ he)) e' he
theorem put_len {nm : Str} {hsh : Int} {k v : Value} : ∀ es : List DictEntry, (putL nm hsh k v es).length ≤ es.length + 1
  | [] => Nat.le_refl _
  | e :: r => by
    unfold putL
    split
    · exact Nat.le_succ _
    · exact Nat.succ_le_succ (put_len r)

theorem k_over (P : Params) : plainOver (KK P) 65 = true := by kernel_rfl
theorem k_takers (P : Params) : (attn.all fun a => takerIn (KK P) 65 a == some none) = true := by kernel_rfl
theorem k_sa (P : Params) : findIn (KK P) (.ref 65) "__setattr__" = some (some (.builtin "object.__setattr__")) := by kernel_rfl
theorem k_taker (P : Params) {i : Nat} (h : i < 14) : takerIn (KK P) 65 (attn.getD i "") = some none :=
  beq_iff_eq.mp (List.all_eq_true.mp (k_takers P) _ (getD_mem' (show i < attn.length from h)))
theorem attn_nod : attn.Nodup := by decide +kernel

section
variable {w : World} {A : Around} {h₀ : Heap} {n : Nat} {Φ : Calls} {c : Cx} {loc : Loc} {H : HH} {s : Shared}

theorem snd_setattr {g dx k i : Nat} {sl : List (Option V)} {v : V} {x : Value} {P : Unit → Shared → Prop} {E : Value → Shared → Prop} (S : Sit w h₀ A n Φ c) (R : HR w h₀ H s.heap) (h1 : H g = some (.inst dx)) (h2 : H dx = some (.attrs k sl)) (hi : i < 14) (hk : k < 1000) (r : VR H s.heap v x)
    (q : ∀ h' tk, HR w h₀ (H.set dx (.attrs (k + 1) (sl.set i (some v)))) h' → Evo H s.heap (H.set dx (.attrs (k + 1) (sl.set i (some v)))) h' → P () { s with heap := h', toks := tk }) :
    wpAny (model PR w) A (setAttr (.ref g) (attn.getD i "") x) P E s := by
  have X := inK S R
  obtain ⟨es, ep, ho, hkeys, hsz, hv⟩ := R.obj _ _ h2
  have I : InstAt s.heap g (instObj 65 dx) 65 (some (dictOf es ep)) := ⟨R.obj _ _ h1, rfl, rfl, ho⟩
  obtain ⟨cd, hcd, hdd⟩ := any_some (k_geo w.params)
  refine set_plain X I (k_sa _) ?_
  refine osa_open (s := { s with toks := s.toks + 1 }) X I (k_over _) (k_taker _ hi) fun b => ?_
  refine wpAny_bind (wpAny_pure (wpAny_bind (wpAny_bind (wpAny_loadPart I.at_ (wpAny_bind (Looks.here (s := { s with toks := s.toks + 1 }) (looks_clsIn (K := KK w.params) X hcd) ?_))))))
  rw [hdd]
  refine wpAny_pure (a := some dx) (wpAny_bind (wpAny_pure (wpAny_bind ?_)))
  unfold nsSet
  refine wpAny_bind (wpAny_bind (wpAny_askSetting (wpAny_pure (wpAny_bind (wpAny_mkText (wpAny_bind (wpAny_loadPart ho ?_)))))))
  have hany : (es.toArray.any (·.refKey)) = false := by
    rw [Array.any_eq_false']; intro e he; obtain ⟨y, t, h⟩ := hkeys e (by simpa using he); simp [DictEntry.refKey, h]
  show wpAny _ _ (if aRefKeyMayBeTheName (attn.getD i "") es.toArray = true then _ else _) _ _ _
  rw [aRefKeyMayBeTheName_at, hany, Bool.and_false, if_neg (by decide)]
  refine wpAny_updatePart ho ?_
  have hD : ∀ hsh key, (s.heap.update dx (Obj.putName (attn.getD i "") hsh key x)).get? dx = some (dictOf (putL (attn.getD i "") hsh key x es) (putN (attn.getD i "") es ep)) := fun hsh key => by
    rw [Heap.get?_update_self _ ho (by rw [putName_dict]; rfl), putName_dict]
  refine wpAny_bind (wpAny_lookBehind (hD _ _) (pastItsLine_dict ?_) ?_)
  · rw [List.size_toArray, sizeLine_eq]; exact Nat.le_trans (put_len es) (by omega)
  · refine wpAny_pure ?_
    have u := R.upd (h' := s.heap.update dx (Obj.putName (attn.getD i "") (PyData.keyHash w.params (attn.getD i "")) (.str (attn.getD i "") (s.toks + 1)) x)) (co' := .attrs (k + 1) (sl.set i (some v))) h2 (fun a ne => (Heap.SameBut.update ..).2 a ne) fun E => by
      refine ⟨_, _, hD _ _, put_keys es hkeys, Nat.le_trans (put_len es) (Nat.succ_le_succ hsz), fun j u e => ?_⟩
      by_cases z : i = j
      · subst z
        have hl : i < sl.length := by
          have := (List.getElem?_eq_some_iff.mp e).1
          rwa [List.length_set] at this
        rw [List.getElem?_set_self hl] at e
        cases e
        obtain ⟨e', h3, h4⟩ := put_same (nm := attn.getD i "") (hsh := PyData.keyHash w.params (attn.getD i "")) (t := s.toks + 1) (v := x) es
        exact ⟨e', h3, by rw [h4]; exact r.mono E⟩
      · rw [List.getElem?_set_ne z] at e
        obtain ⟨e', h3, h4⟩ := hv j u e
        by_cases hj : j < 14
        · exact ⟨e', by rw [put_other (fun h => z (nod_inj attn_nod (show i < attn.length from hi) (show j < attn.length from hj) h.symm)) es hkeys]; exact h3, h4.mono E⟩
        · have e0 : attn.getD j "" = "" := by rw [List.getD_eq_getElem?_getD, List.getElem?_eq_none (show attn.length ≤ j from Nat.not_lt.mp hj)]; rfl
          have hmem := getD_mem' (show i < attn.length from hi)
          have hno : ("" : Str) ∉ attn := by decide +kernel
          have nne : attn.getD j "" ≠ attn.getD i "" := fun h => hno (by rw [← e0, h]; exact hmem)
          exact ⟨e', by rw [put_other nne es hkeys]; exact h3, h4.mono E⟩
    exact q _ _ u.1 u.2

theorem snd_setlist {l : Nat} {its : Array Value} {k : Int} {t : Tok} {v : Value} {Q : Unit → Shared → Prop} {E : Value → Shared → Prop} (hl : s.heap.PlainList l its) (h0 : 0 ≤ k) (hfit : k < 2 ^ 63) (hn : k < its.size)
    (hQ : ∀ h', h'.PlainList l (its.setIfInBounds k.toNat v) → Heap.SameBut l s.heap h' → Q () { s with heap := h' }) : wpAny (model PR w) A (setItem (.ref l) (.int k t) v) Q E s := by
  have hL := hl.isList
  obtain ⟨m, ho⟩ := hl
  unfold setItem
  try with_reducible refine wpAny_holding ?_
  first | refine wpAny_bind (wpAny_pure ?_) | skip
  refine wpAny_bind (wpAny_sequenceKey hL.typeIs (by decide) ?_)
  refine wpAny_bind (wpAny_callSpecial?_slot (name := Str.ofString "__setitem__") hL.typeIs PySem.F.slot_list_setitem
    (wpAny_call_entry PySem.F.slot_list_setitem hL.typeIs PySem.F.entry_list_setitem ?_ (PySem.F.args_list_setitem_3 _ _ _)))
  show wpAny _ _ (Builtin.List.listSubscript? (.int k t) >>= _) _ _ s
  refine wpAny_bind (wpAny_listSubscript_int (fitsIndex_of h0 hfit) ?_)
  clear hfit
  obtain ⟨j, rfl⟩ := Int.eq_ofNat_of_zero_le h0
  have hj : j < its.size := by omega
  show wpAny _ _ ((seqItemAt l j >>= fun r => pure (r.map (j, ·))) >>= _) _ _ s
  refine wpAny_bind (wpAny_bind (wpAny_seqItemAt ho rfl (wpAny_pure ?_)))
  rw [Array.getElem?_eq_getElem hj]
  show wpAny _ _ (setSeqItemAt l j v >>= _) _ _ s
  have hp : ∃ m', Obj.mapSeq (·.setIfInBounds j v) ({ cls := .type "list", data := .seq its m } : Obj) = { cls := .type "list", data := .seq (its.setIfInBounds j v) m' } := ⟨_, rfl⟩
  obtain ⟨m', hp⟩ := hp
  have fin : (s.heap.update l (Obj.mapSeq (·.setIfInBounds j v))).PlainList l (its.setIfInBounds j v) := ⟨m', by rw [Heap.get?_update_self _ ho (by rw [hp]; rfl), hp]⟩
  refine wpAny_bind (wpAny_setSeqItemAt ho rfl ?_)
  first
    | exact wpAny_bind (wpAny_pure (wpAny_pure ⟨.none, rfl, wpAny_pure (hQ _ fin (Heap.SameBut.update ..))⟩))
    | exact wpAny_pure ⟨.none, rfl, wpAny_pure (hQ _ fin (Heap.SameBut.update ..))⟩
end
open PySem PySem.W PyProof.Rows PySem.Calls PySem.SeqAt

noncomputable def notTup : CE → Bool
  | .tup .. => false
  | _ => true
mutual
noncomputable def okS (k : Kinds) (ns gl : List Str) : CS → Bool
  | .asg i _ e _ => decide (i < ns.length) && okE k ns gl e
  | .asgT xs _ _ e _ => xs.all (fun q => decide (q.1 < ns.length)) && okE k ns gl e && notTup e
  | .asgA i _ n _ e _ => decide (i < ns.length) && decide (n < 14) && okE k ns gl e
  | .asgI o i _ e _ => okE k ns gl o && okE k ns gl i && okE k ns gl e
  | .aug i _ _ e _ => decide (i < ns.length) && okE k ns gl e
  | .augI o i _ _ e _ => okE k ns gl o && okE k ns gl i && okE k ns gl e
  | .ifs c th el _ => okE k ns gl c && okSs k ns gl th && okSs k ns gl el
  | .whl c b _ => okE k ns gl c && okSs k ns gl b
  | .for1 i _ it b _ => decide (i < ns.length) && okE k ns gl it && okSs k ns gl b
  | .forT xs _ _ it b _ => xs.all (fun q => decide (q.1 < ns.length)) && okE k ns gl it && okSs k ns gl b
  | .ret e _ => okE k ns gl e
  | .cont _ => true
  | .brk _ => true
  | .app o e ap cp _ => okE k ns gl o && okE k ns gl e && bare o && ap.endLine == cp.line
  | .exp e _ => okE k ns gl e && !isComp e
  | .rais .. => true
noncomputable def okSs (k : Kinds) (ns gl : List Str) : CSs → Bool
  | .nil => true
  | .cons e r => okS k ns gl e && okSs k ns gl r
end

noncomputable def FlR (H : HH) (h : Heap) : Fl → Flow → Prop
  | .next, .next => True
  | .cont, .cont => True
  | .brk, .brk => True
  | .ret v, .ret x => VR H h v x
  | _, _ => False
noncomputable def SP (w : World) (h₀ : Heap) (c : Cx) (H : HH) (s : Shared) (Q : Fl → Loc → HH → Prop) (f : Flow) (s' : Shared) : Prop :=
  ∃ fl loc' H', Q fl loc' H' ∧ FlR H' s'.heap fl f ∧ HR w h₀ H' s'.heap ∧ FR h₀ c loc' H' s'.heap ∧ EvoX (Own c) H s.heap H' s'.heap ∧ Sm s s'
noncomputable def SndS (st : CS) : Prop := ∀ (w : World) (h₀ : Heap) (A : Around) (n : Nat) (Φ : Calls) (c : Cx) (loc : Loc) (H : HH) (s : Shared) (Q : Fl → Loc → HH → Prop),
  Sit w h₀ A n Φ c → okS c.env.scope.names c.ns c.gl st = true → HR w h₀ H s.heap → FR h₀ c loc H s.heap → wpS Φ st loc H Q → wpAny (model PR w) A (exec (upS c.ns st) c.env) (SP w h₀ c H s Q) NoE s
noncomputable def SndSs (st : CSs) : Prop := ∀ (w : World) (h₀ : Heap) (A : Around) (n : Nat) (Φ : Calls) (c : Cx) (loc : Loc) (H : HH) (s : Shared) (Q : Fl → Loc → HH → Prop),
  Sit w h₀ A n Φ c → okSs c.env.scope.names c.ns c.gl st = true → HR w h₀ H s.heap → FR h₀ c loc H s.heap → wpSs Φ st loc H Q → wpAny (model PR w) A (execs (upSs c.ns st) c.env) (SP w h₀ c H s Q) NoE s

section
variable {w : World} {A : Around} {h₀ : Heap} {n : Nat} {Φ : Calls} {c : Cx} {loc : Loc} {H : HH} {s : Shared} {Q : Fl → Loc → HH → Prop}

theorem sp_trans {H1 : HH} {s1 s2 : Shared} {f : Flow} (E : EvoX (Own c) H s.heap H1 s1.heap) (S : Sm s s1) (h : SP w h₀ c H1 s1 Q f s2) : SP w h₀ c H s Q f s2 :=
  let ⟨fl, l, H', q, r, R, F, E', S'⟩ := h; ⟨fl, l, H', q, r, R, F, E.trans E', S.trans S'⟩
theorem own_t {H' : HH} {h' : Heap} (F : FR h₀ c loc H s.heap) (E : EvoX (Own c) H s.heap H' h') : EvoT H s.heap H' h' := fun a o e nn f => E a o e nn fun ow => by
  obtain ⟨⟨o', ho', hf⟩, _⟩ := F.own ow
  rw [e] at ho'; cases ho'; exact hf f
theorem load_at {i : Nat} {v : V} {P : Value → Shared → Prop} {E : Value → Shared → Prop} (S : Sit w h₀ A n Φ c) (F : FR h₀ c loc H s.heap) (h : loc[i]? = some (some v)) (q : ∀ x, VR H s.heap v x → P x s) :
    wpAny (model PR w) A (loadName c.env (c.ns.getD i "")) P E s := by
  obtain ⟨m, hn, hm⟩ := F.map
  obtain ⟨x, hx, r⟩ := hm i v h
  rcases hx with ⟨h1, h2⟩ | ⟨h1, a, h2, h3⟩
  · exact wpAny_loadName_local S.cx.kind h1 hn h2 (q x r)
  · exact wpAny_loadName_cell S.cx.kind h1 h2 h3 (q x r)

theorem snd_asg_plain {i : Nat} {xp : Pos} {e : CE} {p : Pos} (S : Sit w h₀ A n Φ c) (o : okE c.env.scope.names c.ns c.gl e = true) (R : HR w h₀ H s.heap) (F : FR h₀ c loc H s.heap)
    (h : wpE Φ e false loc H fun v H1 => vset loc i v fun l => Q .next l H1) (hs : swapsWith (up c.ns e) (some (.Name (c.ns.getD i "") xp)) p.line c.env = pure false) :
    wpAny (model PR w) A (exec (.Assign [.Name (c.ns.getD i "") xp] (up c.ns e) p) c.env) (SP w h₀ c H s Q) NoE s := by
  refine wpAny_Assign_Name (se_next (sndE e w h₀ A n Φ c loc H s false _ S o R F h) fun v H1 x s1 q0 r R1 E1 S1 => ?_) hs
  obtain ⟨hi, q⟩ := vset_iff q0
  exact snd_store S.cx R1 (F.evo E1) hi r fun h' tk R2 F2 T k _ _ => ⟨.next, _, H1, q, trivial, R2, F2, fun a o e nn no => let ⟨e1, n1⟩ := E1 a o e nn; ⟨k a o no e1, n1⟩, S1.trans ⟨_, _, rfl⟩⟩
theorem snd_asg_comp {i : Nat} {xp : Pos} {p : Pos} {elt : Expr} {gens : List Comprehension} {sc : Scope} {cp : Pos} {pos : Pos} (R : HR w h₀ H s.heap) (F : FR h₀ c loc H s.heap) (S : Sit w h₀ A n Φ c) (hi : i < loc.length) (hk : c.env.kindOf (c.ns.getD i "") = some .local)
    (hs : swapsWith (.ListComp elt gens sc cp) (some (.Name (c.ns.getD i "") xp)) p.line c.env = pure true) (first : Sem Value)
    (he : evalThenUse (.ListComp elt gens sc cp) c.env = fun use => (do let _ ← comprehension (.ListComp elt gens sc cp) sc c.env pos (newList []) false first (some use)))
    (core : ∀ (use : Option (Value → Sem Unit)) (P : Value → Shared → Prop), Fin w A h₀ H s (fun v H1 => Q .next (loc.set i (some v)) H1) use P → wpAny (model PR w) A (comprehension (.ListComp elt gens sc cp) sc c.env pos (newList []) false first use) P NoE s) :
    wpAny (model PR w) A (exec (.Assign [.Name (c.ns.getD i "") xp] (.ListComp elt gens sc cp) p) c.env) (SP w h₀ c H s Q) NoE s := by
  rw [exec_Assign_Name_used _ _ _ _ hs, he]
  refine wpAny_bind (wpAny_standAt (wpAny_bind (wpAny_bind (wpAny_mono (core (some (assign (.Name (c.ns.getD i "") xp) c.env)) (fun _ s' => SP w h₀ c H s Q .next s') ?_) (fun _ _ z => wpAny_pure (wpAny_pure z)) fun _ _ f => f))))
  intro D C H' s' q R1 E1 S1 ⟨m, hn⟩ hC h0 n0
  refine wpAny_assign_Name ?_
  have F1 := F.evo E1
  refine snd_store S.cx R1 F1 hi (v := .ref D) rfl fun h' tk R2 F2 T k _ kl => ?_
  have noC : ¬ Own c C := fun ow => by
    obtain ⟨⟨o, ho, _⟩, hn, _⟩ := F.own ow
    exact n0 o ho hn
  have hn' : h'.Ns C m := hn.at fun o e => k C o noC e
  refine ⟨m, hn', fun h'' hs => ?_⟩
  obtain ⟨R3, T3, X3⟩ := R2.poke (h' := h'') hC h0 (nsFix hn') fun a o ne e => (hs.2 a ne).trans e
  refine ⟨.next, _, H', q, trivial, R3, F2.poke T3 (fun a o ne e => (hs.2 a ne).trans e) noC, fun a o e nn no => ?_, S1.trans ⟨_, _, rfl⟩⟩
  obtain ⟨e1, n1⟩ := E1 a o e nn
  exact ⟨(hs.2 a fun z => n0 o (z ▸ e) (z ▸ nn)).trans (k a o no e1), n1⟩
theorem swaps_comp {elt : Expr} {gens : List Comprehension} {sc : Scope} {cp xp : Pos} {x : Str} {line : Nat} {env : Env} (h : (env.blockKind == .function && env.kindOf x == some .local && xp.line == cp.line && !(sc.names.any fun (n, k) => n == x && (k == .local || k == .cell))) = true) :
    swapsWith (.ListComp elt gens sc cp) (some (.Name x xp)) line env = pure true := by
  show (pure _ : Sem Bool) = _
  exact congrArg pure h
theorem swaps_comp' {elt : Expr} {gens : List Comprehension} {sc : Scope} {cp xp : Pos} {x : Str} {line : Nat} {env : Env} (h : (env.blockKind == .function && env.kindOf x == some .local && xp.line == cp.line && !(sc.names.any fun (n, k) => n == x && (k == .local || k == .cell))) = false) :
    swapsWith (.ListComp elt gens sc cp) (some (.Name x xp)) line env = pure false := by
  show (pure _ : Sem Bool) = _
  exact congrArg pure h

theorem snd_asg {i : Nat} {xp : Pos} {e : CE} {p : Pos} : SndS (.asg i xp e p) := fun w h₀ A n Φ c loc H s Q S o R F h => by
  obtain ⟨oi, oe⟩ := Bool.and_eq_true_iff.mp o
  have hiL : i < loc.length := by rw [F.len]; exact of_decide_eq_true oi
  cases e with
  | comp1 elt y yp it cond caps sc cp =>
    cases hb : (c.env.blockKind == .function && c.env.kindOf (c.ns.getD i "") == some .local && xp.line == cp.line && !(sc.names.any fun (n, k) => n == c.ns.getD i "" && (k == .local || k == .cell))) with
    | false => exact snd_asg_plain S oe R F h (swaps_comp' hb)
    | true =>
      have hk : c.env.kindOf (c.ns.getD i "") = some .local := by
        simp only [Bool.and_eq_true] at hb
        exact beq_iff_eq.mp hb.1.1.2
      have h' : wpE Φ (.comp1 elt y yp it cond caps sc cp) false loc H fun v H1 => vset loc i v fun l => Q .next l H1 := h
      exact snd_asg_comp R F S hiL hk (swaps_comp hb) _ rfl fun use P fin => comp1_core (sndE elt) (sndE it) (sndL cond) S oe R F h' (fun D C H' s' q => fin D C H' s' (vset_iff q).2)
  | comp2 elt x xp2 it y yp it2 cond caps sc cp =>
    cases hb : (c.env.blockKind == .function && c.env.kindOf (c.ns.getD i "") == some .local && xp.line == cp.line && !(sc.names.any fun (n, k) => n == c.ns.getD i "" && (k == .local || k == .cell))) with
    | false => exact snd_asg_plain S oe R F h (swaps_comp' hb)
    | true =>
      have hk : c.env.kindOf (c.ns.getD i "") = some .local := by
        simp only [Bool.and_eq_true] at hb
        exact beq_iff_eq.mp hb.1.1.2
      have h' : wpE Φ (.comp2 elt x xp2 it y yp it2 cond caps sc cp) false loc H fun v H1 => vset loc i v fun l => Q .next l H1 := h
      exact snd_asg_comp R F S hiL hk (swaps_comp hb) _ rfl fun use P fin => comp2_core (sndE elt) (sndE it) (sndE it2) (sndL cond) S oe R F h' (fun D C H' s' q => fin D C H' s' (vset_iff q).2)
  | _ => exact snd_asg_plain S oe R F h rfl
end
open PySem PySem.W PyProof.Rows PySem.Calls PySem.SeqAt
section
variable {w : World} {A : Around} {h₀ : Heap} {n : Nat} {Φ : Calls} {c : Cx} {loc : Loc} {H : HH} {s : Shared}

theorem each_up (ns : List Str) (env : Env) : ∀ xs : List (Nat × Pos), assignEach (upT ns xs) env = xs.map fun q => (false, assign (.Name (ns.getD q.1 "") q.2) env)
  | [] => rfl
  | q :: xs => by
    show (false, assign (.Name (ns.getD q.1 "") q.2) env) :: assignEach (upT ns xs) env = _
    rw [each_up ns env xs]; rfl
theorem put_all {P : Unit → Shared → Prop} {E : Value → Shared → Prop} (S : Sit w h₀ A n Φ c) : ∀ (xs : List (Nat × Pos)) (vs : List V) (ys : List Value) (loc loc1 : Loc) (s : Shared), putAll loc xs vs = some loc1 → HR w h₀ H s.heap → FR h₀ c loc H s.heap → VRs H s.heap vs ys →
    (∀ s', HR w h₀ H s'.heap → FR h₀ c loc1 H s'.heap → EvoX (Own c) H s.heap H s'.heap → Sm s s' → P () s') → wpAny (model PR w) A (assignInOrder ((xs.map fun q => (false, assign (.Name (c.ns.getD q.1 "") q.2) c.env)).map (·.2)) ys) P E s
  | [], [], ys, loc, loc1, s, h, R, F, r, q => by
    cases h
    rw [r.nil_inv]
    exact wpAny_assignInOrder_none (q s R F (fun a o e n _ => ⟨e, n⟩) (Sm.refl s))
  | (i, p) :: xs, v :: vs, ys, loc, loc1, s, h, R, F, r, q => by
    unfold putAll at h
    split at h
    · rename_i hi
      obtain ⟨y, ys, rfl, r1, r2⟩ := r.cons_inv
      refine wpAny_assignInOrder_more (wpAny_assign_Name (snd_store S.cx R F hi r1 fun h' tk R' F' T k _ _ => ?_))
      exact put_all S xs vs ys _ loc1 _ h R' F' (r2.monoT T) fun s' R2 F2 E2 S2 => q s' R2 F2 (EvoX.trans (h' := h') (fun a o e n no => ⟨k a o no e, n⟩) E2) (Sm.trans ⟨_, _, rfl⟩ S2)
    · cases h
  | [], _ :: _, _, _, _, _, h, _, _, _, _ => by cases h
  | _ :: _, [], _, _, _, _, h, _, _, _, _ => by cases h
theorem putAll_len : ∀ (xs : List (Nat × Pos)) (vs : List V) (loc loc1 : Loc), putAll loc xs vs = some loc1 → xs.length = vs.length
  | [], [], _, _, _ => rfl
  | (i, p) :: xs, v :: vs, loc, loc1, h => by
    unfold putAll at h
    split at h
    · rw [List.length_cons, List.length_cons, putAll_len xs vs _ _ h]
    · cases h
  | [], _ :: _, _, _, h => by cases h
  | _ :: _, [], _, _, h => by cases h
theorem star_up (ns : List Str) (env : Env) (xs : List (Nat × Pos)) : (assignEach (upT ns xs) env).findIdx? (·.1) = none := by
  rw [each_up, List.findIdx?_eq_none_iff]
  intro x hx
  obtain ⟨q, _, rfl⟩ := List.mem_map.mp hx
  rfl
theorem assign_tup {xs : List (Nat × Pos)} {k : Nat} {tp : Pos} {vs : List V} {x : Value} {loc1 : Loc} {P : Unit → Shared → Prop} {E : Value → Shared → Prop} (S : Sit w h₀ A n Φ c) (h : putAll loc xs vs = some loc1) (R : HR w h₀ H s.heap) (F : FR h₀ c loc H s.heap) (r : VR H s.heap (.tup vs) x)
    (q : ∀ s', HR w h₀ H s'.heap → FR h₀ c loc1 H s'.heap → EvoX (Own c) H s.heap H s'.heap → Sm s s' → P () s') : wpAny (model PR w) A (assign (.Tuple (upT c.ns xs) k tp) c.env x) P E s := by
  obtain ⟨t, its, rfl, ht, hn, rr⟩ := r
  refine wpAny_assign_Tuple S.ao.hh ht ?_ (star_up _ _ _) fun h' ext => ?_
  · rw [each_up, List.length_map, putAll_len _ _ _ _ h, rr.length, Array.length_toList]
  · have k : ∀ a o, s.heap.get? a = some o → h'.get? a = some o := fun a o e => ext a o (fun z => by rw [z, get_size] at e; cases e) e
    obtain ⟨R1, E1⟩ := R.grow k
    rw [each_up]
    exact put_all S xs vs its.toList loc loc1 { s with heap := h' } h R1 (F.evo E1) (rr.mono E1) fun s' R2 F2 E2 S2 => q s' R2 F2 (E1.x.trans E2) (Sm.trans ⟨_, _, rfl⟩ S2)

theorem snd_asgT {xs : List (Nat × Pos)} {k : Nat} {tp : Pos} {e : CE} {p : Pos} : SndS (.asgT xs k tp e p) := fun w h₀ A n Φ c loc H s Q S o R F h => by
  obtain ⟨o, ot⟩ := Bool.and_eq_true_iff.mp o
  obtain ⟨_, oe⟩ := Bool.and_eq_true_iff.mp o
  refine Assign_Tuple (se_next (sndE e w h₀ A n Φ c loc H s false _ S oe R F h) fun v H1 x s1 z r R1 E1 S1 => ?_) (by cases e <;> rfl) (by cases e <;> first | rfl | cases ot)
  obtain ⟨vs, rfl, z1⟩ := isT_iff z
  obtain ⟨loc1, hp, q⟩ := putK_iff z1
  exact assign_tup S hp R1 (F.evo E1) r fun s' R2 F2 E2 S2 => ⟨.next, _, H1, q, trivial, R2, F2, E1.x.trans E2, S1.trans S2⟩
theorem snd_asgA {i : Nat} {ip : Pos} {k : Nat} {ap : Pos} {e : CE} {p : Pos} : SndS (.asgA i ip k ap e p) := fun w h₀ A n Φ c loc H s Q S o R F h => by
  obtain ⟨_, oe⟩ := Bool.and_eq_true_iff.mp o
  refine plainObj_wpAny_Assign_Attribute (se_next (sndE e w h₀ A n Φ c loc H s false _ S oe R F h) fun v H1 x s1 z r R1 E1 S1 => ?_) (by cases e <;> rfl)
  obtain ⟨_, h1, z⟩ := vget_iff z
  obtain ⟨g, rfl, dx, d, sl, h2, h3, h4, h5, h6, q⟩ := isR_iff z
  have F1 := F.evo E1
  refine var_at S F1 h1 fun y ry => ?_
  cases ry
  exact snd_setattr S R1 h2 h3 h6 h5 r fun h' tk R2 E2 => ⟨.next, loc, _, q, trivial, R2, F1.evo E2, E1.x.trans E2.x, S1.trans ⟨_, _, rfl⟩⟩
theorem snd_asgI {o i : CE} {sp : Pos} {e : CE} {p : Pos} : SndS (.asgI o i sp e p) := fun w h₀ A n Φ c loc H s Q S ok R F h => by
  obtain ⟨ok, oe⟩ := Bool.and_eq_true_iff.mp ok
  obtain ⟨oo, oi⟩ := Bool.and_eq_true_iff.mp ok
  refine wpAny_Assign_Subscript (se_next (sndE e w h₀ A n Φ c loc H s false _ S oe R F h) fun v H1 x s1 z r R1 E1 S1 => ?_) (by cases e <;> rfl)
  refine se_next (sndE o w h₀ A n Φ c loc H1 s1 false _ S oo R1 (F.evo E1) z) fun vo H2 xo s2 z ro R2 E2 S2 => ?_
  refine se_next (sndE i w h₀ A n Φ c loc H2 s2 false _ S oi R2 ((F.evo E1).evo E2) z) fun vi H3 xi s3 z ri R3 E3 S3 => ?_
  obtain ⟨l, rfl, z1⟩ := isR_iff z
  clear z
  obtain ⟨k, rfl, z⟩ := isI_iff z1
  clear z1
  cases ro
  obtain ⟨t, rfl⟩ := ri
  unfold wrI at z
  have F3 := ((F.evo E1).evo E2).evo E3
  have E : EvoX (Own c) H s.heap H3 s3.heap := ((E1.trans E2).trans E3).x
  have SS := (S1.trans S2).trans S3
  have r3 := (r.mono E2).mono E3
  split at z
  · rename_i vs hl
    obtain ⟨h0, hk, hsm, q⟩ := z
    obtain ⟨its, pl, rr⟩ := R3.obj _ _ hl
    have len : its.size = vs.length := by rw [rr.length, Array.length_toList]
    refine snd_setlist pl h0 (by have := hsm.2; omega) (by omega) fun h' pl' k' => ?_
    obtain ⟨R4, E4⟩ := R3.upd (h' := h') (co' := .list (vs.set k.toNat v)) hl (fun a ne => k'.2 a ne) fun E => ⟨_, pl', by rw [Array.toList_setIfInBounds]; exact VRs.set _ (rr.mono E) (r3.mono E)⟩
    exact ⟨.next, loc, _, q, trivial, R4, F3.evo E4, E.trans E4.x, SS.trans ⟨_, _, rfl⟩⟩
  · rename_i m f hl
    obtain ⟨hm, q⟩ := z
    obtain ⟨g, im, le, hv⟩ := R3.obj _ _ hl
    refine wpAny_setItem_intMap_le im le (by rw [sizeLine_eq]; exact Nat.le_trans hm (by decide)) fun h' im' le' k' => ?_
    obtain ⟨R4, E4⟩ := R3.upd (h' := h') (co' := .idict (m + 1) fun j => if j = k then some v else f j) hl (fun a ne => k'.2 a ne) fun E => ⟨_, im', le', fun j u e => by
      have e : (if j = k then some v else f j) = some u := e
      by_cases z : j = k
      · subst z; rw [if_pos rfl] at e; cases e; exact ⟨_, if_pos rfl, r3.mono E⟩
      · rw [if_neg z] at e
        obtain ⟨y, hy, ry⟩ := hv j u e
        exact ⟨y, (if_neg z).trans hy, ry.mono E⟩⟩
    exact ⟨.next, loc, _, q, trivial, R4, F3.evo E4, E.trans E4.x, SS.trans ⟨_, _, rfl⟩⟩
  · exact z.elim

theorem snd_iop {op : Operator} {x y r : Int} {t u : Tok} {P : Value → Shared → Prop} {E : Value → Shared → Prop} (h : augV op x y = some r) (q : P (.int r s.toks) { s with toks := s.toks + 1 }) : wpAny (model PR w) A (inplaceOp op (.int x t) (.int y u)) P E s := by
  unfold augV at h
  split at h <;> cases h
  · exact PyProof.Rows.iadd_int q
  · exact PyProof.Rows.isub_int q
  · exact PyProof.Rows.ior_int q
theorem snd_aug {i : Nat} {xp : Pos} {op : Operator} {e : CE} {p : Pos} : SndS (.aug i xp op e p) := fun w h₀ A n Φ c loc H s Q S o R F h => by
  obtain ⟨oi, oe⟩ := Bool.and_eq_true_iff.mp o
  have hiL : i < loc.length := by rw [F.len]; exact of_decide_eq_true oi
  obtain ⟨u, hu, h⟩ := vget_iff h
  refine wpAny_AugAssign_Name (load_at S F hu fun x r => ?_)
  refine se_next (sndE e w h₀ A n Φ c loc H s false _ S oe R F h) fun v H1 y s1 z ry R1 E1 S1 => ?_
  obtain ⟨a, rfl, z1⟩ := isI_iff z
  clear z
  obtain ⟨b, rfl, z⟩ := isI_iff z1
  clear z1
  obtain ⟨k, hop, z⟩ := augK_iff z
  have q := (vset_iff z).2
  obtain ⟨t, rfl⟩ := r
  obtain ⟨t2, rfl⟩ := ry
  refine snd_iop hop ?_
  refine snd_store (s := { s1 with toks := s1.toks + 1 }) S.cx R1 (F.evo E1) hiL (v := .int k) ⟨_, rfl⟩ fun h' tk R2 F2 T kk _ _ => ?_
  exact ⟨.next, _, H1, q, trivial, R2, F2, fun a o e nn no => let ⟨e1, n1⟩ := E1 a o e nn; ⟨kk a o no e1, n1⟩, S1.trans ⟨_, _, rfl⟩⟩
theorem store_up (ns : List Str) (i : CE) (ov iv new : Value) : augStore (up ns i) ov iv new = (do holding [new, ov, iv] (setItem ov iv new); release [new, ov, iv] []; pure .next) := by cases i <;> rfl
theorem snd_augI {o i : CE} {sp : Pos} {op : Operator} {e : CE} {p : Pos} : SndS (.augI o i sp op e p) := fun w h₀ A n Φ c loc H s Q S ok R F h => by
  obtain ⟨ok, oe⟩ := Bool.and_eq_true_iff.mp ok
  obtain ⟨oo, oi⟩ := Bool.and_eq_true_iff.mp ok
  refine wpAny_AugAssign_SubscriptAny (se_next (sndE o w h₀ A n Φ c loc H s false _ S oo R F h) fun vo H1 xo s1 z ro R1 E1 S1 => ?_) (store_up _ _)
  refine se_next (sndE i w h₀ A n Φ c loc H1 s1 false _ S oi R1 (F.evo E1) z) fun vi H2 xi s2 z ri R2 E2 S2 => ?_
  obtain ⟨l, rfl, z1⟩ := isR_iff z
  clear z
  obtain ⟨k, rfl, h0, hsm, z⟩ := isI_iff z1
  clear z1
  have F2 := (F.evo E1).evo E2
  refine (snd_get R2 (ro.mono E2) ri z fun u y tk z ry => ?_).2
  refine se_next (sndE e w h₀ A n Φ c loc H2 { s2 with toks := tk } false _ S oe R2 F2 z) fun v H3 yv s3 z rv R3 E3 S3 => ?_
  obtain ⟨a, rfl, z1⟩ := isI_iff z
  clear z
  obtain ⟨b, rfl, z⟩ := isI_iff z1
  clear z1
  obtain ⟨r, hop, vs, hl, hk, q⟩ := augK_iff z
  cases ro
  obtain ⟨t, rfl⟩ := ri
  obtain ⟨t1, rfl⟩ := ry
  obtain ⟨t2, rfl⟩ := rv
  refine snd_iop hop ?_
  obtain ⟨its, pl, rr⟩ := R3.obj _ _ hl
  have len : its.size = vs.length := by rw [rr.length, Array.length_toList]
  refine snd_setlist (s := { s3 with toks := s3.toks + 1 }) pl h0 (by have := hsm.2; omega) (by omega) fun h' pl' k' => ?_
  obtain ⟨R4, E4⟩ := R3.upd (h' := h') (co' := .list (vs.set k.toNat (.int r))) hl (fun a ne => k'.2 a ne) fun E => ⟨_, pl', by rw [Array.toList_setIfInBounds]; exact VRs.set _ (rr.mono E) ⟨_, rfl⟩⟩
  exact ⟨.next, loc, _, q, trivial, R4, (F2.evo E3).evo E4, ((E1.trans E2).trans (Evo.trans E3 E4)).x, (S1.trans S2).trans ((Sm.trans ⟨_, _, rfl⟩ S3).trans ⟨_, _, rfl⟩)⟩
theorem snd_ret {e : CE} {p : Pos} : SndS (.ret e p) := fun w h₀ A n Φ c loc H s Q S o R F h =>
  wpAny_Return_some (se_next (sndE e w h₀ A n Φ c loc H s false _ S o R F h) fun v H1 x s1 q r R1 E1 S1 => ⟨.ret v, loc, H1, q, r, R1, F.evo E1, E1.x, S1⟩)
theorem snd_cont {p : Pos} : SndS (.cont p) := fun w h₀ A n Φ c loc H s Q S o R F h => by
  rw [show upS c.ns (.cont p) = .Continue p from rfl, arm_exec_Continue]
  exact wpAny_bind (wpAny_standAt (wpAny_pure ⟨.cont, loc, H, h, trivial, R, F, fun a o e n _ => ⟨e, n⟩, Sm.refl s⟩))
theorem snd_brk {p : Pos} : SndS (.brk p) := fun w h₀ A n Φ c loc H s Q S o R F h => by
  rw [show upS c.ns (.brk p) = .Break p from rfl, arm_exec_Break]
  exact wpAny_bind (wpAny_standAt (wpAny_pure ⟨.brk, loc, H, h, trivial, R, F, fun a o e n _ => ⟨e, n⟩, Sm.refl s⟩))
theorem inter_no (S : Sit w h₀ A n Φ c) : interactive c.env = false := by unfold interactive; rw [S.cx.kind]; rfl
theorem snd_app {o e : CE} {ap cp p : Pos} : SndS (.app o e ap cp p) := fun w h₀ A n Φ c loc H s Q S ok R F h => by
  obtain ⟨ok, ol⟩ := Bool.and_eq_true_iff.mp ok
  obtain ⟨ok, ob⟩ := Bool.and_eq_true_iff.mp ok
  obtain ⟨oo, oe⟩ := Bool.and_eq_true_iff.mp ok
  refine wpAny_Expr ?_ (inter_no S) rfl
  refine wpAny_Call_method (T := "list") (id := "list.append") (by cases o <;> first | rfl | cases ob) (by cases e <;> rfl) ol PySem.F.plainAttrs_list PySem.F.slot_list_append (by kernel_rfl) ?_
  refine se_next (sndE o w h₀ A n Φ c loc H s false _ S oo R F h) fun vo H1 xo s1 z ro R1 E1 S1 => ?_
  obtain ⟨l, rfl, ⟨us, h1⟩, z⟩ := isR_iff z
  cases ro
  obtain ⟨its, ⟨k, ho⟩, rr⟩ := R1.obj _ _ h1
  refine ⟨⟨_, ho, rfl⟩, fun a e => by cases e; exact ⟨_, ho, rfl⟩, ?_⟩
  have oes : okEs c.env.scope.names c.ns c.gl (.cons e .nil) = true := by unfold okEs okEs; rw [oe]; rfl
  have key := sndEs_cons (sndE e) sndEs_nil w h₀ A n Φ c loc H1 s1 (fun vs H2 => match vs with
    | [v] => apL H2 l v fun H3 => Q .next loc H3
    | _ => False) cp S oes R1 (F.evo E1) z
  refine call_args (K := fun _ => True) (es := .nil) (fun h _ => ⟨.machine, .inr (.inl rfl), Looks.of_pure rfl⟩) (wpAny_mono key (fun xs s2 z => ?_) fun _ _ f => f)
  obtain ⟨vs, H2, q, rv, R2, E2, S2⟩ := z
  split at q
  case h_2 => exact q.elim
  obtain ⟨vs, hl, hsz, q⟩ := q
  obtain ⟨x, rfl, rx⟩ := vrs1 rv
  obtain ⟨its, pl, rr⟩ := R2.obj _ _ hl
  have hlen : its.size ≤ sizeLine := by rw [sizeLine_eq, ← Array.length_toList, ← rr.length]; exact Nat.le_trans hsz (by decide)
  refine ⟨trivial, wpAny_list_append_plain (hsz := hlen) pl fun h' pl' k => ?_⟩
  obtain ⟨R3, E3⟩ := R2.upd (h' := h') (co' := .list (vs ++ [_])) hl (fun a ne => k.2 a ne) fun E => ⟨_, pl', by rw [Array.toList_push]; exact VRs.append (rr.mono E) ⟨rx.mono E, trivial⟩⟩
  exact ⟨.next, loc, _, q, trivial, R3, ((F.evo E1).evo E2).evo E3, ((E1.trans E2).trans E3).x, (S1.trans S2).trans ⟨_, _, rfl⟩⟩
theorem swaps_up (ns : List Str) (e : CE) (line : Nat) (env : Env) (h : isComp e = false) : swapsWith (up ns e) none line env = pure false := by cases e <;> first | rfl | cases h
theorem snd_exp {e : CE} {p : Pos} : SndS (.exp e p) := fun w h₀ A n Φ c loc H s Q S o R F h => by
  obtain ⟨oe, oc⟩ := Bool.and_eq_true_iff.mp o
  refine wpAny_Expr (se_next (sndE e w h₀ A n Φ c loc H s false _ S oe R F h) fun v H1 x s1 q r R1 E1 S1 => ?_) (inter_no S) (swaps_up _ _ _ _ (by simpa using oc))
  obtain ⟨rfl, q⟩ := isN_iff q
  cases r
  exact ⟨.next, loc, H1, q, trivial, R1, F.evo E1, E1.x, S1⟩
theorem snd_ifs {e : CE} {th el : CSs} {p : Pos} (ith : SndSs th) (iel : SndSs el) : SndS (.ifs e th el p) := fun w h₀ A n Φ c loc H s Q S o R F h => by
  obtain ⟨o, o3⟩ := Bool.and_eq_true_iff.mp o
  obtain ⟨o1, o2⟩ := Bool.and_eq_true_iff.mp o
  refine wpAny_If (wp_ep (sndE e w h₀ A n Φ c loc H s true _ S o1 R F h) fun b s1 z => ?_)
  obtain ⟨H1, z, R1, E1, S1⟩ := z
  cases b with
  | true => exact wp_ep (ith w h₀ A n Φ c loc H1 s1 Q S o2 R1 (F.evo E1) z) fun f s2 z => sp_trans E1.x S1 z
  | false => exact wp_ep (iel w h₀ A n Φ c loc H1 s1 Q S o3 R1 (F.evo E1) z) fun f s2 z => sp_trans E1.x S1 z
theorem sndSs_nil : SndSs .nil := fun w h₀ A n Φ c loc H s Q S o R F h => wpAny_execs_nil ⟨.next, loc, H, h, trivial, R, F, fun a o e n _ => ⟨e, n⟩, Sm.refl s⟩
theorem sndSs_cons {e : CS} {r : CSs} (ie : SndS e) (ir : SndSs r) : SndSs (.cons e r) := fun w h₀ A n Φ c loc H s Q S o R F h => by
  obtain ⟨o1, o2⟩ := Bool.and_eq_true_iff.mp o
  refine wpAny_execs_cons (wp_ep (ie w h₀ A n Φ c loc H s _ S o1 R F h) fun f s1 z => ?_)
  obtain ⟨fl, loc1, H1, q, fr, R1, F1, E1, S1⟩ := z
  cases fl with
  | next => cases f <;> first | exact fr.elim | exact wp_ep (ir w h₀ A n Φ c loc1 H1 s1 Q S o2 R1 F1 q.h) fun f s2 z => sp_trans E1 S1 z
  | cont => cases f <;> first | exact fr.elim | exact ⟨.cont, loc1, H1, q, trivial, R1, F1, E1, S1⟩
  | brk => cases f <;> first | exact fr.elim | exact ⟨.brk, loc1, H1, q, trivial, R1, F1, E1, S1⟩
  | ret v => cases f <;> first | exact fr.elim | exact ⟨.ret v, loc1, H1, q, fr, R1, F1, E1, S1⟩
end
open PySem PySem.W PyProof.Rows PySem.Calls PySem.SeqAt
section
variable {w : World} {A : Around} {h₀ : Heap} {n : Nat} {Φ : Calls} {c : Cx} {loc : Loc} {H : HH} {s : Shared}

theorem snd_whl {e : CE} {body : CSs} {p : Pos} (ib : SndSs body) : SndS (.whl e body p) := fun w h₀ A n Φ c loc H s Q S o R F h => by
  obtain ⟨o1, o2⟩ := Bool.and_eq_true_iff.mp o
  obtain ⟨I, k, hI, step⟩ := h
  refine wpAny_While ?_
  refine codeAny_loop' rfl (fun k s' => ∃ loc1 H1, I k loc1 H1 ∧ HR w h₀ H1 s'.heap ∧ FR h₀ c loc1 H1 s'.heap ∧ EvoX (Own c) H s.heap H1 s'.heap ∧ Sm s s') (fun k s1 => ?_) k ⟨loc, H, hI, R, F, fun a o e n _ => ⟨e, n⟩, Sm.refl s⟩
  rintro ⟨loc1, H1, hI, R1, F1, E1, S1⟩
  show wpAny _ A ((whileTurn (up c.ns e) (upSs c.ns body) [] c.env).onRaise (fun x => do noteFrame x c.env; theTreesLotGoes x)) _ _ s1
  refine wpAny_noted ?_
  unfold whileTurn
  refine wpAny_bind (wpAny_mono (sndE e w h₀ A n Φ c loc1 H1 s1 true _ S o1 R1 F1 (step k loc1 H1 hI)) (fun b s2 z => ?_) fun _ _ f => f.elim)
  obtain ⟨H2, z, R2, E2, S2⟩ := z
  cases b with
  | false =>
    show wpAny _ A (execs [] c.env >>= fun f => pure (Fin.done f)) _ _ s2
    exact wpAny_bind (wpAny_execs_nil (wpAny_pure ⟨.next, loc1, H2, z, trivial, R2, F1.evo E2, E1.trans E2.x, S1.trans S2⟩))
  | true =>
    show wpAny _ A (execs (upSs c.ns body) c.env >>= _) _ _ s2
    refine wpAny_bind (wpAny_mono (ib w h₀ A n Φ c loc1 H2 s2 _ S o2 R2 (F1.evo E2) z) (fun f s3 z => ?_) fun _ _ f => f.elim)
    obtain ⟨fl, loc3, H3, q, fr, R3, F3, E3, S3⟩ := z
    have E := (E1.trans E2.x).trans E3
    have SS := (S1.trans S2).trans S3
    cases fl with
    | next => cases f <;> first | exact fr.elim | (obtain ⟨m, hm, q⟩ := q; exact wpAny_pure (.inl ⟨rfl, m, hm, loc3, H3, q, R3, F3, E, SS⟩))
    | cont => cases f <;> first | exact fr.elim | (obtain ⟨m, hm, q⟩ := q; exact wpAny_pure (.inl ⟨rfl, m, hm, loc3, H3, q, R3, F3, E, SS⟩))
    | brk => cases f <;> first | exact fr.elim | exact wpAny_pure ⟨.next, loc3, H3, q, trivial, R3, F3, E, SS⟩
    | ret v => cases f <;> first | exact fr.elim | exact wpAny_pure ⟨.ret v, loc3, H3, q, fr, R3, F3, E, SS⟩

theorem go_any {src : V} {x y : Value} {I i : Nat} {tgt : Expr} {P : Unit → Shared → Prop} {E : Value → Shared → Prop} (z : ItAt s.heap I x i src) (q : P () s) : wpAny (model PR w) A (letOwnedTupleGo tgt (.ref I) y) P E s := by
  have key : ∀ o, s.heap.get? I = some o → o.cls = .type "list_iterator" ∨ o.cls = .type "tuple_iterator" ∨ o.cls = .type "range_iterator" → wpAny (model PR w) A (letOwnedTupleGo tgt (.ref I) y) P E s := fun o ho hc => by
    unfold letOwnedTupleGo
    split
    all_goals first
      | exact wpAny_pure q
      | (cases y with
        | ref a =>
          obtain ⟨oc, od, odt, osl⟩ := o
          refine wpAny_bind (wpAny_load ho ?_)
          cases odt with
          | fields vs =>
            dsimp only at hc ⊢
            rcases hc with rfl | rfl | rfl <;>
            · dsimp only
              rw [if_neg (by simp (decide := true))]
              exact wpAny_pure q
          | _ => rcases hc with hc | hc | hc <;> (dsimp only at hc; subst hc; exact wpAny_pure q)
        | _ => exact wpAny_pure q)
  cases src with
  | ref l => obtain ⟨o, ho, hc, _⟩ := z; exact key o ho (.inl hc)
  | tup vs => obtain ⟨t, rfl, o, ho, hc, _⟩ := z; exact key o ho (.inr (.inl hc))
  | rng a b c => exact key _ z (.inr (.inr rfl))
  | _ => exact z.elim

/-- where a for stands -/
structure LF (w : World) (h₀ : Heap) (c : Cx) (H0 : HH) (s0 : Shared) (src : V) (x : Value) (I : Nat) (i : Nat) (loc : Loc) (H : HH) (s : Shared) : Prop where
  hr : HR w h₀ H s.heap
  fr : FR h₀ c loc H s.heap
  ex : EvoX (Own c) H0 s0.heap H s.heap
  sm : Sm s0 s
  vr : VR H s.heap src x
  it : ItAt s.heap I x i src
  hI : H I = none
theorem LF.go {H0 : HH} {s0 : Shared} {src : V} {x : Value} {I i : Nat} {loc' : Loc} {H' : HH} {s' : Shared} (L : LF w h₀ c H0 s0 src x I i loc H s) (oI : ¬ Own c I) (R : HR w h₀ H' s'.heap) (F : FR h₀ c loc' H' s'.heap) (E : EvoX (Own c) H s.heap H' s'.heap) (S : Sm s s') :
    LF w h₀ c H0 s0 src x I i loc' H' s' where
  hr := R
  fr := F
  ex := L.ex.trans E
  sm := L.sm.trans S
  vr := L.vr.monoT (own_t L.fr E)
  it := L.it.keep fun o e => (E I o e L.hI oI).1
  hI := let ⟨o, ho⟩ := L.it.fix.1; (E I o ho L.hI oI).2

theorem for_core {tgt : Expr} {it : CE} {body : CSs} {p : Pos} {turn : V → Loc → HH → (Fl → Loc → HH → Prop) → Prop} {Q : Fl → Loc → HH → Prop} (ib : SndSs body) (S : Sit w h₀ A n Φ c) (o1 : okE c.env.scope.names c.ns c.gl it = true) (o2 : okSs c.env.scope.names c.ns c.gl body = true)
    (asgn : ∀ v y loc2 H2 s2 k (P : Unit → Shared → Prop) (E : Value → Shared → Prop), turn v loc2 H2 k → HR w h₀ H2 s2.heap → FR h₀ c loc2 H2 s2.heap → loc2.length = loc.length → VR H2 s2.heap v y →
      (∀ loc3 s3, wpSs Φ body loc3 H2 k → HR w h₀ H2 s3.heap → FR h₀ c loc3 H2 s3.heap → EvoX (Own c) H2 s2.heap H2 s3.heap → Sm s2 s3 → P () s3) → wpAny (model PR w) A (assign tgt c.env y) P E s2)
    (R : HR w h₀ H s.heap) (F : FR h₀ c loc H s.heap) (h : wpE Φ it false loc H fun src H1 => ∃ all, items H1 src = some all ∧ fLoop src all turn Q all loc H1) :
    wpAny (model PR w) A (exec (.For tgt (up c.ns it) (upSs c.ns body) [] p) c.env) (SP w h₀ c H s Q) NoE s := by
  refine wpAny_For (se_next (sndE it w h₀ A n Φ c loc H s false _ S o1 R F h) fun src H1 x s1 z r R1 E1 S1 => ?_) (set_up _ _ _)
  obtain ⟨all, hi, q⟩ := z
  refine it_start R1 r hi fun o z => ?_
  have n1 : s1.heap.get? s1.heap.objs.size = none := get_size _
  have F1 := F.evo E1
  have oI : ¬ Own c s1.heap.objs.size := fun h => by
    obtain ⟨⟨o', ho', _⟩, _⟩ := F1.own h
    rw [n1] at ho'; cases ho'
  have h0 := R1.old n1
  have nI : Nw H s.heap s1.heap.objs.size := Nw.back E1 n1
  obtain ⟨R2, E2⟩ := R1.grow (push_keeps s1.heap o)
  generalize hIn : s1.heap.objs.size = I at *
  refine codeAny_forLoop_any (fun k s' => ∃ i loc1 H', k = all.length - i ∧ LF w h₀ c H s src x I i loc1 H' s' ∧ fLoop src all turn Q (all.drop i) loc1 H') (fun k s2 => ?_) _
    ⟨0, loc, H1, rfl, ⟨R2, F1.evo E2, E1.x.trans E2.x, S1.trans ⟨_, _, rfl⟩, r.mono E2, z, by rw [← hIn]; exact R1.fresh (get_size _)⟩, q⟩
  rintro ⟨i, loc1, H2, rfl, L, q⟩
  cases hv : all[i]? with
  | none =>
    have hle : all.length ≤ i := by simpa using hv
    rw [List.drop_eq_nil_of_le hle] at q
    obtain ⟨hi2, q⟩ := q
    refine it_end S.ao.hh L.hr L.vr hi2 L.it hle fun h' k => wpAny_execs_nil ?_
    obtain ⟨R3, T, X⟩ := L.hr.poke (h' := h') L.hI h0 L.it.fix.2 fun a o ne e => k a o ne e
    exact ⟨.next, loc1, H2, q, trivial, R3, L.fr.poke T (fun a o ne e => k a o ne e) oI, fun a o e nn no => let ⟨e1, n1⟩ := L.ex a o e nn no; ⟨k a o (fun z => nI o (z ▸ e) (z ▸ nn)) e1, n1⟩, L.sm.trans ⟨_, _, rfl⟩⟩
  | some v =>
    rw [drop_at hv] at q
    obtain ⟨hi2, q⟩ := q
    have hlt := (List.getElem?_eq_some_iff.mp hv).1
    refine it_item L.hr L.vr hi2 L.it hv fun h' y tk ry z k => ?_
    have kk : ∀ a o, a ≠ I → s2.heap.get? a = some o → h'.get? a = some o := fun a o ne e => (k.2 a ne).trans e
    obtain ⟨R3, T, X⟩ := L.hr.poke (h' := h') L.hI h0 L.it.fix.2 kk
    have L3 : LF w h₀ c H s src x I (i + 1) loc1 H2 { s2 with heap := h', toks := tk } := ⟨R3, L.fr.poke T kk oI, fun a o e nn no => let ⟨e1, n1⟩ := L.ex a o e nn no; ⟨kk a o (fun z => nI o (z ▸ e) (z ▸ nn)) e1, n1⟩, L.sm.trans ⟨_, _, rfl⟩, L.vr.monoT T, z, L.hI⟩
    refine go_any (s := { s2 with heap := h', toks := tk }) z ?_
    refine asgn v y loc1 H2 { s2 with heap := h', toks := tk } _ _ _ q R3 L3.fr (by rw [L.fr.len, F.len]) (ry.monoT T) fun loc3 s3 q R4 F4 E4 S4 => ?_
    have L4 := L3.go oI R4 F4 E4 S4
    refine wpAny_mono (ib w h₀ A n Φ c loc3 H2 s3 _ S o2 R4 F4 q) (fun f s5 z => ?_) fun _ _ f => f.elim
    obtain ⟨fl, loc5, H5, q, fr, R5, F5, E5, S5⟩ := z
    have L5 := L4.go oI R5 F5 E5 S5
    cases fl with
    | next => cases f <;> first | exact fr.elim | exact ⟨all.length - (i + 1), by omega, i + 1, loc5, H5, rfl, L5, q⟩
    | cont => cases f <;> first | exact fr.elim | exact ⟨all.length - (i + 1), by omega, i + 1, loc5, H5, rfl, L5, q⟩
    | brk => cases f <;> first | exact fr.elim | exact ⟨.next, loc5, H5, q, trivial, R5, F5, L5.ex, L5.sm⟩
    | ret v => cases f <;> first | exact fr.elim | exact ⟨.ret v, loc5, H5, q, fr, R5, F5, L5.ex, L5.sm⟩

theorem snd_for1 {i : Nat} {xp : Pos} {it : CE} {body : CSs} {p : Pos} (ib : SndSs body) : SndS (.for1 i xp it body p) := fun w h₀ A n Φ c loc H s Q S o R F h => by
  obtain ⟨o, o2⟩ := Bool.and_eq_true_iff.mp o
  obtain ⟨oi, o1⟩ := Bool.and_eq_true_iff.mp o
  have hiL : i < loc.length := by rw [F.len]; exact of_decide_eq_true oi
  refine for_core (turn := fun v loc2 H2 k => vset loc2 i v fun l => Bx (wpSs Φ body l H2 k)) ib S o1 o2 (fun v y loc2 H2 s2 k P E t R2 F2 hl r q => ?_) R F h
  exact wpAny_assign_Name (snd_store S.cx R2 F2 (hl ▸ hiL) r fun h' tk R3 F3 T kk _ _ => q _ _ (vset_iff t).2.h R3 F3 (fun a o e nn no => ⟨kk a o no e, nn⟩) ⟨_, _, rfl⟩)
theorem snd_forT {xs : List (Nat × Pos)} {k : Nat} {tp : Pos} {it : CE} {body : CSs} {p : Pos} (ib : SndSs body) : SndS (.forT xs k tp it body p) := fun w h₀ A n Φ c loc H s Q S o R F h => by
  obtain ⟨o, o2⟩ := Bool.and_eq_true_iff.mp o
  obtain ⟨oi, o1⟩ := Bool.and_eq_true_iff.mp o
  refine for_core (turn := fun v loc2 H2 k => isT v fun vs => putK loc2 xs vs fun l => Bx (wpSs Φ body l H2 k)) ib S o1 o2 (fun v y loc2 H2 s2 k P E t R2 F2 hl r q => ?_) R F h
  obtain ⟨vs, rfl, t1⟩ := isT_iff t
  obtain ⟨loc3, hp, t⟩ := putK_iff t1
  exact assign_tup S hp R2 F2 r fun s' R3 F3 E3 S3 => q _ _ t.h R3 F3 E3 S3
end

mutual
theorem sndS : ∀ st : CS, SndS st
  | .asg i xp e p => snd_asg
  | .asgT xs k tp e p => snd_asgT
  | .asgA i ip k ap e p => snd_asgA
  | .asgI o i sp e p => snd_asgI
  | .aug i xp op e p => snd_aug
  | .augI o i sp op e p => snd_augI
  | .ifs c th el p => snd_ifs (sndSs th) (sndSs el)
  | .whl c b p => snd_whl (sndSs b)
  | .for1 i xp it b p => snd_for1 (sndSs b)
  | .forT xs k tp it b p => snd_forT (sndSs b)
  | .ret e p => snd_ret
  | .cont p => snd_cont
  | .brk p => snd_brk
  | .app o e ap cp p => snd_app
  | .exp e p => snd_exp
  | .rais .. => fun _ _ _ _ _ _ _ _ _ _ _ _ _ _ h => h.elim
theorem sndSs : ∀ st : CSs, SndSs st
  | .nil => sndSs_nil
  | .cons e r => sndSs_cons (sndS e) (sndSs r)
end
open PySem PySem.W PyProof.Rows PySem.Calls PySem.SeqAt

structure FD where
  ns : List Str
  gl : List Str
  names : Kinds
  np : Nat
  body : CSs
noncomputable def fdOk (d : FD) : Bool :=
  decide d.ns.Nodup && d.ns.all (fun x => (d.names.lookup x == some .local || d.names.lookup x == some .cell) && x != "__debug__") && d.gl.all (fun x => d.names.lookup x == some .globalImplicit && x != "__debug__") &&
    decide (d.np ≤ d.ns.length) && decide ((cellsFrom 0 d.names []).map (·.1)).Nodup && okSs d.names d.ns d.gl d.body
structure FOk (P : Params) (a : Nat) (d : FD) : Prop where
  dat : ∃ fd oc od osl, (KK P).lookup a = some ⟨oc, od, .func fd, osl⟩ ∧ fd.body = .stmts (upSs d.ns d.body) ∧ fd.scope.kind = .function ∧ fd.scope.names = d.names ∧ fd.scope.isGenerator = false ∧ fd.scope.isCoroutine = false ∧
    fd.globals = mainGlobals ∧ fd.builtins = builtinsNs ∧ fd.closure = [] ∧ codeIn (KK P) fd.code fd.qualname = true ∧ ∀ xs : List Value, xs.length = d.np → bindArgs fd ⟨xs, []⟩ = pure ((d.ns.take d.np).zip xs)
  ok : fdOk d = true

noncomputable def loc0 (d : FD) (vs : List V) : Loc := vs.map some ++ List.replicate (d.ns.length - d.np) none
noncomputable def wpCall (fns : Nat → Option FD) : Nat → Calls
  | 0 => fun _ _ _ _ => False
  | n + 1 => fun g vs H Q => ∃ d, fns g = some d ∧ vs.length = d.np ∧ wpSs (wpCall fns n) d.body (loc0 d vs) H fun f _ H' => match f with
    | .ret v => Q v H'
    | .next => Q .none H'
    | _ => False

theorem bindL_not {kf : Str → Option NameKind} {x : Str} : ∀ (bs : List (Str × Value)) (m : Str → Option Value), x ∉ bs.map (·.1) → bindL kf bs m x = m x
  | [], m, _ => rfl
  | (n, v) :: r, m, h => by
    rw [List.map_cons, List.mem_cons, not_or] at h
    unfold bindL
    rw [bindL_not r _ h.2]
    split
    · exact if_neg h.1
    · rfl
theorem bindC_not {kf : Str → Option NameKind} {x : Str} : ∀ (bs : List (Str × Value)) (m : Str → Option Value), x ∉ bs.map (·.1) → bindC kf bs m x = m x
  | [], m, _ => rfl
  | (n, v) :: r, m, h => by
    rw [List.map_cons, List.mem_cons, not_or] at h
    unfold bindC
    rw [bindC_not r _ h.2]
    split
    · rfl
    · exact if_neg h.1
theorem zip_names : ∀ (ns : List Str) (xs : List Value), ∀ x ∈ (ns.zip xs).map (·.1), x ∈ ns
  | [], _, x, h => by simp at h
  | _ :: _, [], x, h => by simp at h
  | n :: ns, v :: xs, x, h => by
    rw [List.zip_cons_cons, List.map_cons] at h
    rcases List.mem_cons.mp h with rfl | h
    · exact List.mem_cons_self
    · exact List.mem_cons_of_mem _ (zip_names ns xs x h)
theorem bindL_at {kf : Str → Option NameKind} : ∀ (ns : List Str) (xs : List Value) (m : Str → Option Value) (i : Nat) (nm : Str) (x : Value), ns.Nodup → ns[i]? = some nm → xs[i]? = some x → kf nm = some .local → bindL kf (ns.zip xs) m nm = some x
  | n :: ns, v :: xs, m, 0, nm, x, hn, h1, h2, hk => by
    cases h1; cases h2
    rw [List.zip_cons_cons]
    unfold bindL
    rw [if_pos hk, bindL_not _ _ fun h => (List.nodup_cons.mp hn).1 (zip_names _ _ _ h)]
    exact if_pos rfl
  | n :: ns, v :: xs, m, i + 1, nm, x, hn, h1, h2, hk => by
    rw [List.zip_cons_cons]
    unfold bindL
    exact bindL_at ns xs _ i nm x (List.nodup_cons.mp hn).2 h1 h2 hk
  | [], _, _, _, _, _, _, h1, _, _ => by simp at h1
  | _ :: _, [], _, _, _, _, _, _, h2, _ => by simp at h2
theorem bindC_at {kf : Str → Option NameKind} : ∀ (ns : List Str) (xs : List Value) (m : Str → Option Value) (i : Nat) (nm : Str) (x : Value), ns.Nodup → ns[i]? = some nm → xs[i]? = some x → kf nm ≠ some .local → bindC kf (ns.zip xs) m nm = some x
  | n :: ns, v :: xs, m, 0, nm, x, hn, h1, h2, hk => by
    cases h1; cases h2
    rw [List.zip_cons_cons]
    unfold bindC
    rw [if_neg hk, bindC_not _ _ fun h => (List.nodup_cons.mp hn).1 (zip_names _ _ _ h)]
    exact if_pos rfl
  | n :: ns, v :: xs, m, i + 1, nm, x, hn, h1, h2, hk => by
    rw [List.zip_cons_cons]
    unfold bindC
    exact bindC_at ns xs _ i nm x (List.nodup_cons.mp hn).2 h1 h2 hk
  | [], _, _, _, _, _, _, h1, _, _ => by simp at h1
  | _ :: _, [], _, _, _, _, _, _, h2, _ => by simp at h2
theorem look_in {x : Str} : ∀ {l : List (Str × Addr)}, x ∈ l.map (·.1) → (l.lookup x).isSome = true
  | [], h => by cases h
  | (y, v) :: r, h => by
    rw [List.lookup_cons]
    by_cases e : x = y
    · subst e; rw [beq_self_eq_true]; rfl
    · rw [beq_eq_false_iff_ne.mpr e]
      rcases List.mem_cons.mp h with q | q
      · exact absurd q e
      · exact look_in q
theorem look_mem {x : Str} {k : NameKind} : ∀ {l : Kinds}, l.lookup x = some k → (x, k) ∈ l
  | [], h => by cases h
  | (y, v) :: r, h => by
    rw [List.lookup_cons] at h
    by_cases e : x = y
    · subst e; rw [beq_self_eq_true] at h; cases h; exact .head _
    · rw [beq_eq_false_iff_ne.mpr e] at h; exact .tail _ (look_mem h)
theorem cells_have {x : Str} : ∀ (names : Kinds) (n : Nat) (acc : List (Str × Addr)), (x, NameKind.cell) ∈ names ∨ x ∈ acc.map (·.1) → x ∈ (cellsFrom n names acc).map (·.1)
  | [], _, _, h => h.elim (fun e => nomatch e) id
  | (y, k) :: r, n, acc, h => by
    rw [cellsFrom]
    split
    · refine cells_have r _ _ ?_
      rcases h with h | h
      · rcases List.mem_cons.mp h with e | h
        · cases e; exact .inr (.head _)
        · exact .inl h
      · exact .inr (.tail _ h)
    · rename_i hk
      refine cells_have r _ _ ?_
      rcases h with h | h
      · rcases List.mem_cons.mp h with e | h
        · cases e; exact absurd rfl hk
        · exact .inl h
      · exact .inr h
theorem cell_here {x : Str} {names : Kinds} (n : Nat) (h : names.lookup x = some .cell) : ((cellsFrom n names []).lookup x).isSome = true := look_in (cells_have names n [] (.inl (look_mem h)))
theorem mem_of_look {a : Addr} {x : Str} : ∀ {l : List (Str × Addr)}, l.lookup x = some a → (x, a) ∈ l
  | [], h => by cases h
  | (n, b) :: r, h => by
    rw [List.lookup_cons] at h
    split at h
    · rename_i q; cases h; rw [beq_iff_eq.mp q]; exact List.mem_cons_self
    · exact List.mem_cons_of_mem _ (mem_of_look h)
theorem pw_inj : ∀ {l : List (Str × Addr)}, l.Pairwise (fun x y => x.2 ≠ y.2) → ∀ p ∈ l, ∀ q ∈ l, p.2 = q.2 → p = q
  | [], _, p, hp, _, _, _ => by cases hp
  | x :: l, h, p, hp, q, hq, e => by
    obtain ⟨h1, h2⟩ := List.pairwise_cons.mp h
    rcases List.mem_cons.mp hp with hp' | hp' <;> rcases List.mem_cons.mp hq with hq' | hq'
    · rw [hp', hq']
    · subst hp'; exact absurd e (h1 q hq')
    · subst hq'; exact absurd e.symm (h1 p hp')
    · exact pw_inj h2 p hp' q hq' e

section
variable {w : World} {h₀ : Heap} {fns : Nat → Option FD}
theorem call_sound (G : GB w h₀) (hf : ∀ g d, fns g = some d → FOk w.params (fad g) d) : ∀ n, SPh w h₀ n (wpCall fns n)
  | 0 => fun _ _ _ _ _ _ _ _ _ _ h => h.elim
  | n + 1 => fun g vs H Q A s xs hA R rv h => by
    have ih := call_sound G hf n
    obtain ⟨d, hd, hl, h⟩ := h
    obtain ⟨⟨fd, oc, od, osl, ho, hb, hk, hnm, hgen, hco, hgl, hbl, hcl, hcd, hbind⟩, ok⟩ := hf g d hd
    have X : (KK w.params).In s.heap := fun a o e => (R.base a o (G.X a o e)).1
    unfold fdOk at ok
    simp only [Bool.and_eq_true] at ok
    obtain ⟨⟨⟨⟨⟨k1, k2⟩, k3⟩, k4⟩, k5⟩, k6⟩ := ok
    have nod := of_decide_eq_true k1
    have hnp := of_decide_eq_true k4
    have hlx : xs.length = d.np := rv.length.symm.trans hl
    have hloc : ∀ x ∈ d.ns, (d.names.lookup x = some .local ∨ d.names.lookup x = some .cell) ∧ (x == ("__debug__" : Str)) = false := fun x hx => by
      have := List.all_eq_true.mp k2 x hx
      simp only [Bool.and_eq_true, Bool.or_eq_true, beq_iff_eq] at this
      exact ⟨this.1, by simpa [bne] using this.2⟩
    refine codeAny_call_function (by show A.depth < 1000; have := hA.dp; omega) (X _ _ ho) rfl hco hgen hb (codeRec_of X hcd) ?_
    rw [hbind xs hlx]
    refine wpAny_pure ?_
    have hkind : ∀ m, ∀ x ∈ (d.ns.take d.np).zip xs, fd.scope.names.lookup x.1 = some .local ∨ (fd.scope.names.lookup x.1 = some .cell ∧ ((cellsFrom m fd.scope.names []).lookup x.1).isSome = true) := fun m x hx => by
      have h1 : x.1 ∈ d.ns := List.mem_of_mem_take (zip_names _ _ _ (List.mem_map_of_mem hx))
      rw [hnm]
      exact (hloc _ h1).1.imp id fun h => ⟨h, cell_here m h⟩
    rw [hcl]
    refine wpAny_newFunctionEnv_cells hk (hkind _) fun env he s' x => ?_
    have NL : s'.heap.NoLimit := ((G.lim.keeps fun b o e => (R.base b o e).1).keeps x.toInCall.keep)
    refine ⟨NL, codeAny_func ?_⟩
    have kO : env.kindOf = fun y => d.names.lookup y := by subst he; funext y; show fd.scope.names.lookup y = _; rw [hnm]
    have eL : env.cells = cellsFrom (s.heap.objs.size + 1) fd.scope.names [] := by subst he; rfl
    have eK : env.scope = fd.scope := by subst he; rfl
    have fresh : ∀ a, s.heap.objs.size ≤ a → s.heap.get? a = none := fun a ha => by
      cases e : s.heap.get? a with
      | none => rfl
      | some o' => exact absurd (Heap.lt_size e) (Nat.not_lt.mpr ha)
    have lo : s.heap.objs.size ≤ env.locals := x.toInCall.fresh
    obtain ⟨R1, E1⟩ := R.grow x.toInCall.keep
    have ok : CxOk ⟨d.ns, d.gl, env⟩ := {
      kind := by rw [eK]; exact hk
      glob := by subst he; exact hgl
      blt := by subst he; exact hbl
      nod := nod
      slots := fun y hy => by
        show env.kindOf y = _ ∨ (env.kindOf y = _ ∧ _)
        rw [kO]
        rcases (hloc y hy).1 with h | h
        · exact .inl h
        · refine .inr ⟨h, ?_⟩
          rw [eL]
          have := cell_here (names := fd.scope.names) (x := y) (s.heap.objs.size + 1) (by rw [hnm]; exact h)
          exact Option.isSome_iff_exists.mp this
      inj := fun y z a h1 h2 => by
        have := pw_inj x.apart _ (mem_of_look h1) _ (mem_of_look h2) rfl
        exact congrArg Prod.fst this
      gls := fun y hy => by
        have := List.all_eq_true.mp k3 y hy
        simp only [Bool.and_eq_true, beq_iff_eq] at this
        show env.kindOf y = _
        rw [kO]; exact this.1
      dbg := fun y hy => (hloc y hy).2
      gdbg := fun y hy => by
        have := List.all_eq_true.mp k3 y hy
        simp only [Bool.and_eq_true] at this
        simpa [bne] using this.2 }
    have S : Sit w h₀ (A.deeper env) n (wpCall fns n) ⟨d.ns, d.gl, env⟩ := ⟨G, ok, ⟨hA.hh, by show A.depth + 1 + _ + _ < _; have := hA.dp; omega, by show A.units + 3 + _ + _ < _; have := hA.un; omega⟩, by show A.depth + 1 + _ + _ < _; have := hA.dp; omega, by show A.units + 3 + _ + _ < _; have := hA.un; omega, ih⟩
    have F : FR h₀ ⟨d.ns, d.gl, env⟩ (loc0 d vs) H s'.heap := {
      len := by
        show (vs.map some ++ List.replicate (d.ns.length - d.np) none).length = d.ns.length
        rw [List.length_append, List.length_map, List.length_replicate, hl]; omega
      off := ⟨R.fresh (fresh _ lo), R.old (fresh _ lo)⟩
      map := by
        refine ⟨_, x.toInCall.ns, fun i v e => ?_⟩
        have hi : i < vs.length := by
          by_cases q : i < vs.length
          · exact q
          · unfold loc0 at e
            rw [List.getElem?_append_right (by rw [List.length_map]; omega), List.getElem?_replicate] at e
            split at e <;> cases e
        have e' : vs[i]? = some v := by
          unfold loc0 at e
          rw [List.getElem?_append_left (by rw [List.length_map]; exact hi), List.getElem?_map] at e
          obtain ⟨u, hu, e⟩ := Option.map_eq_some_iff.mp e
          cases e; exact hu
        obtain ⟨y, hy, ry⟩ := rv.get i e'
        have hin : i < d.np := hl ▸ hi
        have hnt : (d.ns.take d.np)[i]? = some (d.ns.getD i "") := by
          rw [List.getElem?_take, if_pos hin, List.getD_eq_getElem?_getD, List.getElem?_eq_getElem (by omega)]; rfl
        have nt : (d.ns.take d.np).Nodup := nod.sublist (List.take_sublist _ _)
        refine ⟨y, ?_, ry.mono E1⟩
        have hmem : d.ns.getD i "" ∈ d.ns := getD_mem' (by omega)
        rcases (hloc _ hmem).1 with h | h
        · exact .inl ⟨by show env.kindOf _ = _; rw [kO]; exact h, bindL_at _ _ _ i _ _ nt hnt hy (by rw [kO]; exact h)⟩
        · have hs := cell_here (names := fd.scope.names) (x := d.ns.getD i "") (s.heap.objs.size + 1) (by rw [hnm]; exact h)
          obtain ⟨a, ha⟩ := Option.isSome_iff_exists.mp hs
          refine .inr ⟨by show env.kindOf _ = _; rw [kO]; exact h, a, by show env.cells.lookup _ = _; rw [eL]; exact ha, ?_⟩
          have := x.cell (d.ns.getD i "") a (by rw [eL]; exact ha)
          rwa [bindC_at _ _ _ i _ _ nt hnt hy (by rw [kO]; show d.names.lookup _ ≠ _; rw [h]; decide)] at this
      cell := fun y a e => by
        have := x.above y a (mem_of_look e)
        have h2 := fresh a (Nat.le_of_lt (Nat.lt_of_le_of_lt lo this))
        exact ⟨⟨_, x.cell y a e⟩, R.fresh h2, R.old h2⟩ }
    have okb : okSs env.scope.names d.ns d.gl d.body = true := by rw [eK, hnm]; exact k6
    obtain ⟨hp, tk, hs⟩ := x.toInCall.same
    refine wpAny_mono (sndSs d.body w h₀ (A.deeper env) n (wpCall fns n) ⟨d.ns, d.gl, env⟩ (loc0 d vs) H s' _ S okb R1 F h) (fun f s2 z => ?_) fun _ _ f => f.elim
    obtain ⟨fl, loc', H', q, fr, R2, F2, E2, S2⟩ := z
    have E : Evo H s.heap H' s2.heap := fun a o e nn => by
      obtain ⟨e1, n1⟩ := E1 a o e nn
      refine E2 a o e1 n1 fun ow => ?_
      rcases ow with rfl | ⟨y, hy⟩
      · have h3 := fresh _ lo; rw [e] at h3; cases h3
      · have := x.above y a (mem_of_look hy)
        have h3 := fresh a (Nat.le_of_lt (Nat.lt_of_le_of_lt lo this)); rw [e] at h3; cases h3
    have SS : Sm s s2 := Sm.trans ⟨hp, tk, hs⟩ S2
    cases fl with
    | next => cases f <;> first | exact fr.elim | exact ⟨.none, H', q, rfl, R2, E, SS⟩
    | cont => exact q.elim
    | brk => exact q.elim
    | ret v => cases f <;> first | exact fr.elim | exact ⟨v, H', q, fr, R2, E, SS⟩
end
open PySem PySem.W PyProof.Rows PySem.Calls
noncomputable def fnDat (K : Frag) (a : Nat) : Option FuncData := match K.lookup a with
  | some ⟨_, _, .func fd, _⟩ => some fd
  | _ => none
noncomputable def mkP (l : List (Str × Pos)) : Arguments := ⟨[], l.map fun q => ⟨q.1, none, q.2⟩, none, [], [], none, []⟩
noncomputable def fnCk (K : Frag) (a : Nat) (names : Kinds) : Bool := (fnDat K a).any fun fd => fd.scope.kind == .function && fd.scope.names == names && !fd.scope.isGenerator && !fd.scope.isCoroutine && fd.globals == mainGlobals && fd.builtins == builtinsNs && fd.closure == [] && codeIn K fd.code fd.qualname && fd.defaults == .none && fd.kwdefaults == .none
theorem fok {P : Params} {a : Nat} {d : FD} {ps : List (Str × Pos)} (h1 : fnCk (KK P) a d.names = true) (h2 : (fnDat (KK P) a).map (·.body) = some (.stmts (upSs d.ns d.body))) (h3 : (fnDat (KK P) a).map (·.params) = some (mkP ps)) (h4 : fdOk d = true)
    (h5 : ∀ fd : FuncData, fd.params = mkP ps → fd.defaults = .none → fd.kwdefaults = .none → ∀ xs : List Value, xs.length = d.np → bindArgs fd ⟨xs, []⟩ = pure ((d.ns.take d.np).zip xs)) : FOk P a d := by
  refine ⟨?_, h4⟩
  unfold fnCk at h1
  unfold fnDat at h1 h2 h3
  split at h1
  · rename_i oc od fd osl ho
    rw [ho] at h2 h3
    simp only [Option.any_some, Bool.and_eq_true, beq_iff_eq, Bool.not_eq_true'] at h1
    obtain ⟨⟨⟨⟨⟨⟨⟨⟨⟨k1, k2⟩, k3⟩, k4⟩, k5⟩, k6⟩, k7⟩, k8⟩, k9⟩, k10⟩ := h1
    exact ⟨fd, oc, od, osl, ho, by simpa using h2, k1, k2, k3, k4, k5, k6, k7, k8, h5 fd (by simpa using h3) k9 k10⟩
  · cases h1

theorem lenS {xs : List Value} {n : Nat} (h : xs.length = n + 1) : ∃ a r, xs = a :: r ∧ r.length = n := by
  cases xs with
  | nil => cases h
  | cons a r => exact ⟨a, r, rfl, Nat.succ.inj h⟩
theorem len1 {xs : List Value} (h : xs.length = 1) : ∃ a, xs = [a] := by
  obtain ⟨a, r, rfl, h1⟩ := lenS h
  exact ⟨a, by rw [List.eq_nil_of_length_eq_zero h1]⟩
theorem len2 {xs : List Value} (h : xs.length = 2) : ∃ a b, xs = [a, b] := by
  obtain ⟨a, r, rfl, h1⟩ := lenS h
  obtain ⟨b, rfl⟩ := len1 h1
  exact ⟨a, b, rfl⟩
theorem len3 {xs : List Value} (h : xs.length = 3) : ∃ a b c, xs = [a, b, c] := by
  obtain ⟨a, r, rfl, h1⟩ := lenS h
  obtain ⟨b, c, rfl⟩ := len2 h1
  exact ⟨a, b, c, rfl⟩
theorem len4 {xs : List Value} (h : xs.length = 4) : ∃ a b c d, xs = [a, b, c, d] := by
  obtain ⟨a, r, rfl, h1⟩ := lenS h
  obtain ⟨b, c, d, rfl⟩ := len3 h1
  exact ⟨a, b, c, d, rfl⟩
theorem len5 {xs : List Value} (h : xs.length = 5) : ∃ a b c d e, xs = [a, b, c, d, e] := by
  obtain ⟨a, r, rfl, h1⟩ := lenS h
  obtain ⟨b, c, d, e, rfl⟩ := len4 h1
  exact ⟨a, b, c, d, e, rfl⟩
theorem len6 {xs : List Value} (h : xs.length = 6) : ∃ a b c d e f, xs = [a, b, c, d, e, f] := by
  obtain ⟨a, r, rfl, h1⟩ := lenS h
  obtain ⟨b, c, d, e, f, rfl⟩ := len5 h1
  exact ⟨a, b, c, d, e, f, rfl⟩
theorem len7 {xs : List Value} (h : xs.length = 7) : ∃ a b c d e f g, xs = [a, b, c, d, e, f, g] := by
  obtain ⟨a, r, rfl, h1⟩ := lenS h
  obtain ⟨b, c, d, e, f, g, rfl⟩ := len6 h1
  exact ⟨a, b, c, d, e, f, g, rfl⟩
noncomputable def B_init : CSs :=
 (.cons (.asgA 0 ⟨22, 8, 22, 12⟩ 0 ⟨22, 8, 22, 18⟩ (.var 1 ⟨22, 21, 22, 26⟩) ⟨22, 8, 22, 26⟩)
 (.cons (.asgA 0 ⟨23, 8, 23, 12⟩ 1 ⟨23, 8, 23, 18⟩ (.var 2 ⟨23, 21, 23, 26⟩) ⟨23, 8, 23, 26⟩)
 (.cons (.asgA 0 ⟨24, 8, 24, 12⟩ 2 ⟨24, 8, 24, 17⟩ (.bin .Mult (.var 1 ⟨24, 20, 24, 25⟩) (.var 2 ⟨24, 28, 24, 33⟩) ⟨24, 20, 24, 33⟩) ⟨24, 8, 24, 33⟩)
 (.cons (.asgA 0 ⟨25, 8, 25, 12⟩ 3 ⟨25, 8, 25, 17⟩ (.bin .Sub (.bin .LShift (.int 1 ⟨25, 21, 25, 22⟩) (.bin .Mult (.var 1 ⟨25, 26, 25, 31⟩) (.var 2 ⟨25, 34, 25, 39⟩) ⟨25, 26, 25, 39⟩) ⟨25, 21, 25, 39⟩) (.int 1 ⟨25, 43, 25, 44⟩) ⟨25, 20, 25, 44⟩) ⟨25, 8, 25, 44⟩)
 (.cons (.asgA 0 ⟨26, 8, 26, 12⟩ 4 ⟨26, 8, 26, 23⟩ (.bop .And (.cons (.var 3 ⟨26, 26, 26, 36⟩) (.cons (.cmp .GtE (.var 2 ⟨26, 41, 26, 46⟩) (.int 5 ⟨26, 50, 26, 51⟩) ⟨26, 41, 26, 51⟩) .nil)) ⟨26, 26, 26, 51⟩) ⟨26, 8, 26, 51⟩)
 (.cons (.asgA 0 ⟨27, 8, 27, 12⟩ 5 ⟨27, 8, 27, 25⟩ (.var 4 ⟨27, 28, 27, 40⟩) ⟨27, 8, 27, 40⟩)
 (.cons (.asgA 0 ⟨28, 8, 28, 12⟩ 6 ⟨28, 8, 28, 23⟩ (.lst .nil ⟨28, 26, 28, 28⟩) ⟨28, 8, 28, 28⟩)
 (.cons (.asgA 0 ⟨29, 8, 29, 12⟩ 7 ⟨29, 8, 29, 23⟩ (.lst .nil ⟨29, 26, 29, 28⟩) ⟨29, 8, 29, 28⟩)
 (.cons (.asgA 0 ⟨30, 8, 30, 12⟩ 8 ⟨30, 8, 30, 17⟩ (.lst .nil ⟨30, 20, 30, 22⟩) ⟨30, 8, 30, 22⟩)
 (.cons (.asgA 0 ⟨31, 8, 31, 12⟩ 9 ⟨31, 8, 31, 17⟩ (.lst .nil ⟨31, 20, 31, 22⟩) ⟨31, 8, 31, 22⟩)
 (.cons (.asgA 0 ⟨32, 8, 32, 12⟩ 10 ⟨32, 8, 32, 19⟩ (.lst .nil ⟨32, 22, 32, 24⟩) ⟨32, 8, 32, 24⟩)
 (.cons (.asgA 0 ⟨33, 8, 33, 12⟩ 11 ⟨33, 8, 33, 17⟩ (.lst (.cons (.lst .nil ⟨33, 21, 33, 23⟩) (.cons (.lst .nil ⟨33, 25, 33, 27⟩) .nil)) ⟨33, 20, 33, 28⟩) ⟨33, 8, 33, 28⟩)
 (.cons (.asgA 0 ⟨34, 8, 34, 12⟩ 12 ⟨34, 8, 34, 20⟩ (.lst .nil ⟨34, 23, 34, 25⟩) ⟨34, 8, 34, 25⟩)
 (.cons (.asgA 0 ⟨35, 8, 35, 12⟩ 13 ⟨35, 8, 35, 24⟩ (.lst .nil ⟨35, 27, 35, 29⟩) ⟨35, 8, 35, 29⟩)
 .nil))))))))))))))
noncomputable def D_init : FD := ⟨[Str.ofString "self", Str.ofString "files", Str.ofString "ranks", Str.ofString "has_double", Str.ofString "has_castling"], [], [(Str.ofString "self", .local), (Str.ofString "files", .local), (Str.ofString "ranks", .local), (Str.ofString "has_double", .local), (Str.ofString "has_castling", .local)], 5, B_init⟩
theorem F_init (P : Params) : FOk P 62 D_init := fok (ps := [(Str.ofString "self", ⟨21, 17, 21, 21⟩), (Str.ofString "files", ⟨21, 23, 21, 28⟩), (Str.ofString "ranks", ⟨21, 30, 21, 35⟩), (Str.ofString "has_double", ⟨21, 37, 21, 47⟩), (Str.ofString "has_castling", ⟨21, 49, 21, 61⟩)]) (by kernel_rfl) (by kernel_rfl) (by kernel_rfl) (by kernel_rfl) fun fd h1 h2 h3 xs hl => by
  obtain ⟨n1, n2, n3, n4, n5, n6, n7, n8, n9, n10, n11, n12, n13, n14, n15⟩ := fd
  dsimp only at h1 h2 h3
  subst h1 h2 h3
  obtain ⟨a, b, c, d, e, rfl⟩ := len5 hl
  rfl
noncomputable def B_is_growing : CSs :=
 (.cons (.ret (.bop .Or (.cons (.cmp .Gt (.sub (.gtup 1 ⟨37, 11, 37, 21⟩) (.var 0 ⟨37, 22, 37, 23⟩) ⟨37, 11, 37, 24⟩) (.int 0 ⟨37, 27, 37, 28⟩) ⟨37, 11, 37, 28⟩) (.cons (.cmp .Eq (.var 0 ⟨37, 32, 37, 33⟩) (.int 1 ⟨37, 37, 37, 38⟩) ⟨37, 32, 37, 38⟩) .nil)) ⟨37, 11, 37, 38⟩) ⟨37, 4, 37, 38⟩)
 .nil)
noncomputable def D_is_growing : FD := ⟨[Str.ofString "d"], [Str.ofString "STEP_RANKS"], [(Str.ofString "d", .local), (Str.ofString "STEP_RANKS", .globalImplicit)], 1, B_is_growing⟩
theorem F_is_growing (P : Params) : FOk P 76 D_is_growing := fok (ps := [(Str.ofString "d", ⟨36, 15, 36, 16⟩)]) (by kernel_rfl) (by kernel_rfl) (by kernel_rfl) (by kernel_rfl) fun fd h1 h2 h3 xs hl => by
  obtain ⟨n1, n2, n3, n4, n5, n6, n7, n8, n9, n10, n11, n12, n13, n14, n15⟩ := fd
  dsimp only at h1 h2 h3
  subst h1 h2 h3
  obtain ⟨a, rfl⟩ := len1 hl
  rfl
noncomputable def B_add_masks : CSs :=
 (.cons (.asg 1 ⟨39, 4, 39, 7⟩ (.bin .Sub (.bin .LShift (.int 1 ⟨39, 11, 39, 12⟩) (.attr 0 ⟨39, 16, 39, 19⟩ 0 ⟨39, 16, 39, 25⟩) ⟨39, 11, 39, 25⟩) (.int 1 ⟨39, 29, 39, 30⟩) ⟨39, 10, 39, 30⟩) ⟨39, 4, 39, 30⟩)
 (.cons (.asg 2 ⟨40, 4, 40, 10⟩ (.int 0 ⟨40, 13, 40, 14⟩) ⟨40, 4, 40, 14⟩)
 (.cons (.for1 3 ⟨41, 8, 41, 9⟩ (.bi .range ⟨41, 13, 41, 18⟩ (.cons (.attr 0 ⟨41, 19, 41, 22⟩ 1 ⟨41, 19, 41, 28⟩) .nil) ⟨41, 13, 41, 29⟩) (.cons (.app (.attr 0 ⟨42, 8, 42, 11⟩ 7 ⟨42, 8, 42, 22⟩) (.bin .LShift (.var 1 ⟨42, 30, 42, 33⟩) (.bin .Mult (.var 3 ⟨42, 37, 42, 38⟩) (.attr 0 ⟨42, 41, 42, 44⟩ 0 ⟨42, 41, 42, 50⟩) ⟨42, 37, 42, 50⟩) ⟨42, 30, 42, 50⟩) ⟨42, 8, 42, 29⟩ ⟨42, 8, 42, 51⟩ ⟨42, 8, 42, 51⟩)
 (.cons (.aug 2 ⟨43, 8, 43, 14⟩ .BitOr (.bin .LShift (.int 1 ⟨43, 18, 43, 19⟩) (.bin .Mult (.var 3 ⟨43, 23, 43, 24⟩) (.attr 0 ⟨43, 27, 43, 30⟩ 0 ⟨43, 27, 43, 36⟩) ⟨43, 23, 43, 36⟩) ⟨43, 18, 43, 36⟩) ⟨43, 8, 43, 36⟩)
 .nil)) ⟨41, 4, 43, 36⟩)
 (.cons (.for1 4 ⟨44, 8, 44, 9⟩ (.bi .range ⟨44, 13, 44, 18⟩ (.cons (.attr 0 ⟨44, 19, 44, 22⟩ 0 ⟨44, 19, 44, 28⟩) .nil) ⟨44, 13, 44, 29⟩) (.cons (.app (.attr 0 ⟨45, 8, 45, 11⟩ 6 ⟨45, 8, 45, 22⟩) (.bin .LShift (.var 2 ⟨45, 30, 45, 36⟩) (.var 4 ⟨45, 40, 45, 41⟩) ⟨45, 30, 45, 41⟩) ⟨45, 8, 45, 29⟩ ⟨45, 8, 45, 42⟩ ⟨45, 8, 45, 42⟩)
 .nil) ⟨44, 4, 45, 42⟩)
 .nil))))
noncomputable def D_add_masks : FD := ⟨[Str.ofString "geo", Str.ofString "row", Str.ofString "column", Str.ofString "r", Str.ofString "f"], [Str.ofString "range"], [(Str.ofString "geo", .local), (Str.ofString "row", .local), (Str.ofString "column", .local), (Str.ofString "r", .local), (Str.ofString "f", .local), (Str.ofString "range", .globalImplicit)], 1, B_add_masks⟩
theorem F_add_masks (P : Params) : FOk P 83 D_add_masks := fok (ps := [(Str.ofString "geo", ⟨38, 14, 38, 17⟩)]) (by kernel_rfl) (by kernel_rfl) (by kernel_rfl) (by kernel_rfl) fun fd h1 h2 h3 xs hl => by
  obtain ⟨n1, n2, n3, n4, n5, n6, n7, n8, n9, n10, n11, n12, n13, n14, n15⟩ := fd
  dsimp only at h1 h2 h3
  subst h1 h2 h3
  obtain ⟨a, rfl⟩ := len1 hl
  rfl
noncomputable def B_inner_squares : CSs :=
 (.cons (.asg 2 ⟨47, 4, 47, 8⟩ (.int 0 ⟨47, 11, 47, 12⟩) ⟨47, 4, 47, 12⟩)
 (.cons (.ifs (.cmp .Gt (.sub (.gtup 0 ⟨48, 7, 48, 17⟩) (.var 1 ⟨48, 18, 48, 19⟩) ⟨48, 7, 48, 20⟩) (.int 0 ⟨48, 23, 48, 24⟩) ⟨48, 7, 48, 24⟩) (.cons (.aug 2 ⟨49, 8, 49, 12⟩ .BitOr (.sub (.attr 0 ⟨49, 16, 49, 19⟩ 6 ⟨49, 16, 49, 30⟩) (.bin .Sub (.attr 0 ⟨49, 31, 49, 34⟩ 0 ⟨49, 31, 49, 40⟩) (.int 1 ⟨49, 43, 49, 44⟩) ⟨49, 31, 49, 44⟩) ⟨49, 16, 49, 45⟩) ⟨49, 8, 49, 45⟩)
 .nil) .nil ⟨48, 4, 49, 45⟩)
 (.cons (.ifs (.cmp .Lt (.sub (.gtup 0 ⟨50, 7, 50, 17⟩) (.var 1 ⟨50, 18, 50, 19⟩) ⟨50, 7, 50, 20⟩) (.int 0 ⟨50, 23, 50, 24⟩) ⟨50, 7, 50, 24⟩) (.cons (.aug 2 ⟨51, 8, 51, 12⟩ .BitOr (.sub (.attr 0 ⟨51, 16, 51, 19⟩ 6 ⟨51, 16, 51, 30⟩) (.int 0 ⟨51, 31, 51, 32⟩) ⟨51, 16, 51, 33⟩) ⟨51, 8, 51, 33⟩)
 .nil) .nil ⟨50, 4, 51, 33⟩)
 (.cons (.ifs (.cmp .Gt (.sub (.gtup 1 ⟨52, 7, 52, 17⟩) (.var 1 ⟨52, 18, 52, 19⟩) ⟨52, 7, 52, 20⟩) (.int 0 ⟨52, 23, 52, 24⟩) ⟨52, 7, 52, 24⟩) (.cons (.aug 2 ⟨53, 8, 53, 12⟩ .BitOr (.sub (.attr 0 ⟨53, 16, 53, 19⟩ 7 ⟨53, 16, 53, 30⟩) (.bin .Sub (.attr 0 ⟨53, 31, 53, 34⟩ 1 ⟨53, 31, 53, 40⟩) (.int 1 ⟨53, 43, 53, 44⟩) ⟨53, 31, 53, 44⟩) ⟨53, 16, 53, 45⟩) ⟨53, 8, 53, 45⟩)
 .nil) .nil ⟨52, 4, 53, 45⟩)
 (.cons (.ifs (.cmp .Lt (.sub (.gtup 1 ⟨54, 7, 54, 17⟩) (.var 1 ⟨54, 18, 54, 19⟩) ⟨54, 7, 54, 20⟩) (.int 0 ⟨54, 23, 54, 24⟩) ⟨54, 7, 54, 24⟩) (.cons (.aug 2 ⟨55, 8, 55, 12⟩ .BitOr (.sub (.attr 0 ⟨55, 16, 55, 19⟩ 7 ⟨55, 16, 55, 30⟩) (.int 0 ⟨55, 31, 55, 32⟩) ⟨55, 16, 55, 33⟩) ⟨55, 8, 55, 33⟩)
 .nil) .nil ⟨54, 4, 55, 33⟩)
 (.cons (.ret (.bin .BitAnd (.attr 0 ⟨56, 11, 56, 14⟩ 3 ⟨56, 11, 56, 19⟩) (.un .Invert (.var 2 ⟨56, 23, 56, 27⟩) ⟨56, 22, 56, 27⟩) ⟨56, 11, 56, 27⟩) ⟨56, 4, 56, 27⟩)
 .nil))))))
noncomputable def D_inner_squares : FD := ⟨[Str.ofString "geo", Str.ofString "d", Str.ofString "edge"], [Str.ofString "STEP_FILES", Str.ofString "STEP_RANKS"], [(Str.ofString "geo", .local), (Str.ofString "d", .local), (Str.ofString "edge", .local), (Str.ofString "STEP_FILES", .globalImplicit), (Str.ofString "STEP_RANKS", .globalImplicit)], 2, B_inner_squares⟩
theorem F_inner_squares (P : Params) : FOk P 90 D_inner_squares := fok (ps := [(Str.ofString "geo", ⟨46, 18, 46, 21⟩), (Str.ofString "d", ⟨46, 23, 46, 24⟩)]) (by kernel_rfl) (by kernel_rfl) (by kernel_rfl) (by kernel_rfl) fun fd h1 h2 h3 xs hl => by
  obtain ⟨n1, n2, n3, n4, n5, n6, n7, n8, n9, n10, n11, n12, n13, n14, n15⟩ := fd
  dsimp only at h1 h2 h3
  subst h1 h2 h3
  obtain ⟨a, b, rfl⟩ := len2 hl
  rfl
noncomputable def B_add_rays : CSs :=
 (.cons (.asgA 0 ⟨58, 4, 58, 7⟩ 9 ⟨58, 4, 58, 12⟩ (.bin .Mult (.lst (.cons (.int 0 ⟨58, 16, 58, 17⟩) .nil) ⟨58, 15, 58, 18⟩) (.attr 0 ⟨58, 21, 58, 24⟩ 2 ⟨58, 21, 58, 29⟩) ⟨58, 15, 58, 29⟩) ⟨58, 4, 58, 29⟩)
 (.cons (.for1 1 ⟨59, 8, 59, 9⟩ (.bi .range ⟨59, 13, 59, 18⟩ (.cons (.int 8 ⟨59, 19, 59, 20⟩) .nil) ⟨59, 13, 59, 21⟩) (.cons (.asg 2 ⟨60, 8, 60, 13⟩ (.call 2 ⟨60, 16, 60, 29⟩ (.cons (.var 0 ⟨60, 30, 60, 33⟩) (.cons (.var 1 ⟨60, 35, 60, 36⟩) .nil)) ⟨60, 16, 60, 37⟩) ⟨60, 8, 60, 37⟩)
 (.cons (.asg 3 ⟨61, 8, 61, 13⟩ (.bin .Add (.bin .Mult (.sub (.gtup 1 ⟨61, 16, 61, 26⟩) (.var 1 ⟨61, 27, 61, 28⟩) ⟨61, 16, 61, 29⟩) (.attr 0 ⟨61, 32, 61, 35⟩ 0 ⟨61, 32, 61, 41⟩) ⟨61, 16, 61, 41⟩) (.sub (.gtup 0 ⟨61, 44, 61, 54⟩) (.var 1 ⟨61, 55, 61, 56⟩) ⟨61, 44, 61, 57⟩) ⟨61, 16, 61, 57⟩) ⟨61, 8, 61, 57⟩)
 (.cons (.asg 4 ⟨62, 8, 62, 11⟩ (.bin .Mult (.lst (.cons (.int 0 ⟨62, 15, 62, 16⟩) .nil) ⟨62, 14, 62, 17⟩) (.attr 0 ⟨62, 20, 62, 23⟩ 2 ⟨62, 20, 62, 28⟩) ⟨62, 14, 62, 28⟩) ⟨62, 8, 62, 28⟩)
 (.cons (.asg 5 ⟨63, 8, 63, 13⟩ (.bi .range ⟨63, 16, 63, 21⟩ (.cons (.attr 0 ⟨63, 22, 63, 25⟩ 2 ⟨63, 22, 63, 30⟩) .nil) ⟨63, 16, 63, 31⟩) ⟨63, 8, 63, 31⟩)
 (.cons (.ifs (.call 0 ⟨64, 11, 64, 21⟩ (.cons (.var 1 ⟨64, 22, 64, 23⟩) .nil) ⟨64, 11, 64, 24⟩) (.cons (.asg 5 ⟨65, 12, 65, 17⟩ (.bi .range ⟨65, 20, 65, 25⟩ (.cons (.bin .Sub (.attr 0 ⟨65, 26, 65, 29⟩ 2 ⟨65, 26, 65, 34⟩) (.int 1 ⟨65, 37, 65, 38⟩) ⟨65, 26, 65, 38⟩) (.cons (.un .USub (.int 1 ⟨65, 41, 65, 42⟩) ⟨65, 40, 65, 42⟩) (.cons (.un .USub (.int 1 ⟨65, 45, 65, 46⟩) ⟨65, 44, 65, 46⟩) .nil))) ⟨65, 20, 65, 47⟩) ⟨65, 12, 65, 47⟩)
 .nil) .nil ⟨64, 8, 65, 47⟩)
 (.cons (.for1 6 ⟨66, 12, 66, 18⟩ (.var 5 ⟨66, 22, 66, 27⟩) (.cons (.ifs (.bin .BitAnd (.bin .RShift (.var 2 ⟨67, 15, 67, 20⟩) (.var 6 ⟨67, 24, 67, 30⟩) ⟨67, 15, 67, 30⟩) (.int 1 ⟨67, 33, 67, 34⟩) ⟨67, 15, 67, 34⟩) (.cons (.asg 7 ⟨68, 16, 68, 20⟩ (.bin .Add (.var 6 ⟨68, 23, 68, 29⟩) (.var 3 ⟨68, 32, 68, 37⟩) ⟨68, 23, 68, 37⟩) ⟨68, 16, 68, 37⟩)
 (.cons (.asgI (.var 4 ⟨69, 16, 69, 19⟩) (.var 6 ⟨69, 20, 69, 26⟩) ⟨69, 16, 69, 27⟩ (.bin .BitOr (.sub (.var 4 ⟨69, 30, 69, 33⟩) (.var 7 ⟨69, 34, 69, 38⟩) ⟨69, 30, 69, 39⟩) (.bin .LShift (.int 1 ⟨69, 42, 69, 43⟩) (.var 7 ⟨69, 47, 69, 51⟩) ⟨69, 42, 69, 51⟩) ⟨69, 30, 69, 51⟩) ⟨69, 16, 69, 51⟩)
 (.cons (.augI (.attr 0 ⟨70, 16, 70, 19⟩ 9 ⟨70, 16, 70, 24⟩) (.var 6 ⟨70, 25, 70, 31⟩) ⟨70, 16, 70, 32⟩ .BitOr (.bin .LShift (.int 1 ⟨70, 36, 70, 37⟩) (.var 7 ⟨70, 41, 70, 45⟩) ⟨70, 36, 70, 45⟩) ⟨70, 16, 70, 45⟩)
 .nil))) .nil ⟨67, 12, 70, 45⟩)
 .nil) ⟨66, 8, 70, 45⟩)
 (.cons (.app (.attr 0 ⟨71, 8, 71, 11⟩ 8 ⟨71, 8, 71, 16⟩) (.var 4 ⟨71, 24, 71, 27⟩) ⟨71, 8, 71, 23⟩ ⟨71, 8, 71, 28⟩ ⟨71, 8, 71, 28⟩)
 .nil))))))) ⟨59, 4, 71, 28⟩)
 .nil))
noncomputable def D_add_rays : FD := ⟨[Str.ofString "geo", Str.ofString "d", Str.ofString "inner", Str.ofString "delta", Str.ofString "ray", Str.ofString "order", Str.ofString "square", Str.ofString "goal"], [Str.ofString "range", Str.ofString "inner_squares", Str.ofString "STEP_RANKS", Str.ofString "STEP_FILES", Str.ofString "is_growing"], [(Str.ofString "geo", .local), (Str.ofString "d", .local), (Str.ofString "inner", .local), (Str.ofString "delta", .local), (Str.ofString "ray", .local), (Str.ofString "order", .local), (Str.ofString "square", .local), (Str.ofString "goal", .local), (Str.ofString "range", .globalImplicit), (Str.ofString "inner_squares", .globalImplicit), (Str.ofString "STEP_RANKS", .globalImplicit), (Str.ofString "STEP_FILES", .globalImplicit), (Str.ofString "is_growing", .globalImplicit)], 1, B_add_rays⟩
theorem F_add_rays (P : Params) : FOk P 97 D_add_rays := fok (ps := [(Str.ofString "geo", ⟨57, 13, 57, 16⟩)]) (by kernel_rfl) (by kernel_rfl) (by kernel_rfl) (by kernel_rfl) fun fd h1 h2 h3 xs hl => by
  obtain ⟨n1, n2, n3, n4, n5, n6, n7, n8, n9, n10, n11, n12, n13, n14, n15⟩ := fd
  dsimp only at h1 h2 h3
  subst h1 h2 h3
  obtain ⟨a, rfl⟩ := len1 hl
  rfl
noncomputable def B_add_pawns : CSs :=
 (.cons (.for1 1 ⟨73, 8, 73, 14⟩ (.bi .range ⟨73, 18, 73, 23⟩ (.cons (.attr 0 ⟨73, 24, 73, 27⟩ 2 ⟨73, 24, 73, 32⟩) .nil) ⟨73, 18, 73, 33⟩) (.cons (.app (.sub (.attr 0 ⟨74, 8, 74, 11⟩ 11 ⟨74, 8, 74, 16⟩) (.int 0 ⟨74, 17, 74, 18⟩) ⟨74, 8, 74, 19⟩) (.bin .BitAnd (.sub (.attr 0 ⟨74, 27, 74, 30⟩ 9 ⟨74, 27, 74, 35⟩) (.var 1 ⟨74, 36, 74, 42⟩) ⟨74, 27, 74, 43⟩) (.bin .BitOr (.sub (.sub (.attr 0 ⟨74, 47, 74, 50⟩ 8 ⟨74, 47, 74, 55⟩) (.int 4 ⟨74, 56, 74, 57⟩) ⟨74, 47, 74, 58⟩) (.var 1 ⟨74, 59, 74, 65⟩) ⟨74, 47, 74, 66⟩) (.sub (.sub (.attr 0 ⟨74, 69, 74, 72⟩ 8 ⟨74, 69, 74, 77⟩) (.int 7 ⟨74, 78, 74, 79⟩) ⟨74, 69, 74, 80⟩) (.var 1 ⟨74, 81, 74, 87⟩) ⟨74, 69, 74, 88⟩) ⟨74, 47, 74, 88⟩) ⟨74, 27, 74, 89⟩) ⟨74, 8, 74, 26⟩ ⟨74, 8, 74, 90⟩ ⟨74, 8, 74, 90⟩)
 (.cons (.app (.sub (.attr 0 ⟨75, 8, 75, 11⟩ 11 ⟨75, 8, 75, 16⟩) (.int 1 ⟨75, 17, 75, 18⟩) ⟨75, 8, 75, 19⟩) (.bin .BitAnd (.sub (.attr 0 ⟨75, 27, 75, 30⟩ 9 ⟨75, 27, 75, 35⟩) (.var 1 ⟨75, 36, 75, 42⟩) ⟨75, 27, 75, 43⟩) (.bin .BitOr (.sub (.sub (.attr 0 ⟨75, 47, 75, 50⟩ 8 ⟨75, 47, 75, 55⟩) (.int 5 ⟨75, 56, 75, 57⟩) ⟨75, 47, 75, 58⟩) (.var 1 ⟨75, 59, 75, 65⟩) ⟨75, 47, 75, 66⟩) (.sub (.sub (.attr 0 ⟨75, 69, 75, 72⟩ 8 ⟨75, 69, 75, 77⟩) (.int 6 ⟨75, 78, 75, 79⟩) ⟨75, 69, 75, 80⟩) (.var 1 ⟨75, 81, 75, 87⟩) ⟨75, 69, 75, 88⟩) ⟨75, 47, 75, 88⟩) ⟨75, 27, 75, 89⟩) ⟨75, 8, 75, 26⟩ ⟨75, 8, 75, 90⟩ ⟨75, 8, 75, 90⟩)
 .nil)) ⟨73, 4, 75, 90⟩)
 .nil)
noncomputable def D_add_pawns : FD := ⟨[Str.ofString "geo", Str.ofString "square"], [Str.ofString "range"], [(Str.ofString "geo", .local), (Str.ofString "square", .local), (Str.ofString "range", .globalImplicit)], 1, B_add_pawns⟩
theorem F_add_pawns (P : Params) : FOk P 104 D_add_pawns := fok (ps := [(Str.ofString "geo", ⟨72, 14, 72, 17⟩)]) (by kernel_rfl) (by kernel_rfl) (by kernel_rfl) (by kernel_rfl) fun fd h1 h2 h3 xs hl => by
  obtain ⟨n1, n2, n3, n4, n5, n6, n7, n8, n9, n10, n11, n12, n13, n14, n15⟩ := fd
  dsimp only at h1 h2 h3
  subst h1 h2 h3
  obtain ⟨a, rfl⟩ := len1 hl
  rfl
noncomputable def B_add_knights : CSs :=
 (.cons (.asg 1 ⟨77, 4, 77, 9⟩ (.attr 0 ⟨77, 12, 77, 15⟩ 0 ⟨77, 12, 77, 21⟩) ⟨77, 4, 77, 21⟩)
 (.cons (.asg 2 ⟨78, 4, 78, 13⟩ (.bin .BitAnd (.attr 0 ⟨78, 16, 78, 19⟩ 3 ⟨78, 16, 78, 24⟩) (.un .Invert (.sub (.attr 0 ⟨78, 28, 78, 31⟩ 6 ⟨78, 28, 78, 42⟩) (.int 0 ⟨78, 43, 78, 44⟩) ⟨78, 28, 78, 45⟩) ⟨78, 27, 78, 45⟩) ⟨78, 16, 78, 45⟩) ⟨78, 4, 78, 45⟩)
 (.cons (.asg 3 ⟨79, 4, 79, 12⟩ (.bin .BitAnd (.attr 0 ⟨79, 15, 79, 18⟩ 3 ⟨79, 15, 79, 23⟩) (.un .Invert (.sub (.attr 0 ⟨79, 27, 79, 30⟩ 6 ⟨79, 27, 79, 41⟩) (.bin .Sub (.var 1 ⟨79, 42, 79, 47⟩) (.int 1 ⟨79, 50, 79, 51⟩) ⟨79, 42, 79, 51⟩) ⟨79, 27, 79, 52⟩) ⟨79, 26, 79, 52⟩) ⟨79, 15, 79, 52⟩) ⟨79, 4, 79, 52⟩)
 (.cons (.asg 4 ⟨80, 4, 80, 17⟩ (.bin .BitAnd (.var 2 ⟨80, 20, 80, 29⟩) (.un .Invert (.sub (.attr 0 ⟨80, 33, 80, 36⟩ 6 ⟨80, 33, 80, 47⟩) (.int 1 ⟨80, 48, 80, 49⟩) ⟨80, 33, 80, 50⟩) ⟨80, 32, 80, 50⟩) ⟨80, 20, 80, 50⟩) ⟨80, 4, 80, 50⟩)
 (.cons (.asg 5 ⟨81, 4, 81, 16⟩ (.bin .BitAnd (.var 3 ⟨81, 19, 81, 27⟩) (.un .Invert (.sub (.attr 0 ⟨81, 31, 81, 34⟩ 6 ⟨81, 31, 81, 45⟩) (.bin .Sub (.var 1 ⟨81, 46, 81, 51⟩) (.int 2 ⟨81, 54, 81, 55⟩) ⟨81, 46, 81, 55⟩) ⟨81, 31, 81, 56⟩) ⟨81, 30, 81, 56⟩) ⟨81, 19, 81, 56⟩) ⟨81, 4, 81, 56⟩)
 (.cons (.for1 6 ⟨82, 8, 82, 14⟩ (.bi .range ⟨82, 18, 82, 23⟩ (.cons (.attr 0 ⟨82, 24, 82, 27⟩ 2 ⟨82, 24, 82, 32⟩) .nil) ⟨82, 18, 82, 33⟩) (.cons (.asg 7 ⟨83, 8, 83, 9⟩ (.bin .LShift (.int 1 ⟨83, 12, 83, 13⟩) (.var 6 ⟨83, 17, 83, 23⟩) ⟨83, 12, 83, 23⟩) ⟨83, 8, 83, 23⟩)
 (.cons (.asg 8 ⟨84, 8, 84, 12⟩ (.bin .BitOr (.bin .BitAnd (.bin .LShift (.var 7 ⟨84, 15, 84, 16⟩) (.int 1 ⟨84, 20, 84, 21⟩) ⟨84, 15, 84, 21⟩) (.var 2 ⟨84, 24, 84, 33⟩) ⟨84, 15, 84, 33⟩) (.bin .BitAnd (.bin .RShift (.var 7 ⟨84, 36, 84, 37⟩) (.int 1 ⟨84, 41, 84, 42⟩) ⟨84, 36, 84, 42⟩) (.var 3 ⟨84, 45, 84, 53⟩) ⟨84, 36, 84, 53⟩) ⟨84, 15, 84, 53⟩) ⟨84, 8, 84, 53⟩)
 (.cons (.asg 9 ⟨85, 8, 85, 11⟩ (.bin .BitOr (.bin .BitAnd (.bin .LShift (.var 7 ⟨85, 14, 85, 15⟩) (.int 2 ⟨85, 19, 85, 20⟩) ⟨85, 14, 85, 20⟩) (.var 4 ⟨85, 23, 85, 36⟩) ⟨85, 14, 85, 36⟩) (.bin .BitAnd (.bin .RShift (.var 7 ⟨85, 39, 85, 40⟩) (.int 2 ⟨85, 44, 85, 45⟩) ⟨85, 39, 85, 45⟩) (.var 5 ⟨85, 48, 85, 60⟩) ⟨85, 39, 85, 60⟩) ⟨85, 14, 85, 60⟩) ⟨85, 8, 85, 60⟩)
 (.cons (.asg 10 ⟨86, 8, 86, 13⟩ (.bin .BitOr (.bin .BitOr (.bin .BitOr (.bin .LShift (.var 8 ⟨86, 16, 86, 20⟩) (.bin .Mult (.int 2 ⟨86, 24, 86, 25⟩) (.var 1 ⟨86, 28, 86, 33⟩) ⟨86, 24, 86, 33⟩) ⟨86, 16, 86, 33⟩) (.bin .RShift (.var 8 ⟨86, 36, 86, 40⟩) (.bin .Mult (.int 2 ⟨86, 44, 86, 45⟩) (.var 1 ⟨86, 48, 86, 53⟩) ⟨86, 44, 86, 53⟩) ⟨86, 36, 86, 53⟩) ⟨86, 16, 86, 53⟩) (.bin .LShift (.var 9 ⟨86, 56, 86, 59⟩) (.var 1 ⟨86, 63, 86, 68⟩) ⟨86, 56, 86, 68⟩) ⟨86, 16, 86, 68⟩) (.bin .RShift (.var 9 ⟨86, 71, 86, 74⟩) (.var 1 ⟨86, 78, 86, 83⟩) ⟨86, 71, 86, 83⟩) ⟨86, 16, 86, 83⟩) ⟨86, 8, 86, 83⟩)
 (.cons (.app (.attr 0 ⟨87, 8, 87, 11⟩ 10 ⟨87, 8, 87, 18⟩) (.bin .BitAnd (.var 10 ⟨87, 26, 87, 31⟩) (.attr 0 ⟨87, 34, 87, 37⟩ 3 ⟨87, 34, 87, 42⟩) ⟨87, 26, 87, 42⟩) ⟨87, 8, 87, 25⟩ ⟨87, 8, 87, 43⟩ ⟨87, 8, 87, 43⟩)
 .nil))))) ⟨82, 4, 87, 43⟩)
 .nil))))))
noncomputable def D_add_knights : FD := ⟨[Str.ofString "geo", Str.ofString "files", Str.ofString "not_first", Str.ofString "not_last", Str.ofString "not_first_two", Str.ofString "not_last_two", Str.ofString "square", Str.ofString "b", Str.ofString "near", Str.ofString "far", Str.ofString "found"], [Str.ofString "range"], [(Str.ofString "geo", .local), (Str.ofString "files", .local), (Str.ofString "not_first", .local), (Str.ofString "not_last", .local), (Str.ofString "not_first_two", .local), (Str.ofString "not_last_two", .local), (Str.ofString "square", .local), (Str.ofString "b", .local), (Str.ofString "near", .local), (Str.ofString "far", .local), (Str.ofString "found", .local), (Str.ofString "range", .globalImplicit)], 1, B_add_knights⟩
theorem F_add_knights (P : Params) : FOk P 111 D_add_knights := fok (ps := [(Str.ofString "geo", ⟨76, 16, 76, 19⟩)]) (by kernel_rfl) (by kernel_rfl) (by kernel_rfl) (by kernel_rfl) fun fd h1 h2 h3 xs hl => by
  obtain ⟨n1, n2, n3, n4, n5, n6, n7, n8, n9, n10, n11, n12, n13, n14, n15⟩ := fd
  dsimp only at h1 h2 h3
  subst h1 h2 h3
  obtain ⟨a, rfl⟩ := len1 hl
  rfl
noncomputable def B_add_castles : CSs :=
 (.cons (.asgA 0 ⟨89, 4, 89, 7⟩ 13 ⟨89, 4, 89, 19⟩ (.bin .Mult (.lst (.cons (.int 0 ⟨89, 23, 89, 24⟩) .nil) ⟨89, 22, 89, 25⟩) (.attr 0 ⟨89, 28, 89, 31⟩ 2 ⟨89, 28, 89, 36⟩) ⟨89, 22, 89, 36⟩) ⟨89, 4, 89, 36⟩)
 (.cons (.asg 1 ⟨90, 4, 90, 9⟩ (.bin .FloorDiv (.attr 0 ⟨90, 12, 90, 15⟩ 0 ⟨90, 12, 90, 21⟩) (.int 2 ⟨90, 25, 90, 26⟩) ⟨90, 12, 90, 26⟩) ⟨90, 4, 90, 26⟩)
 (.cons (.for1 2 ⟨91, 8, 91, 13⟩ (.bi .range ⟨91, 17, 91, 22⟩ (.cons (.int 4 ⟨91, 23, 91, 24⟩) .nil) ⟨91, 17, 91, 25⟩) (.cons (.asg 3 ⟨92, 8, 92, 12⟩ (.bin .Mult (.bin .Mult (.bin .RShift (.var 2 ⟨92, 16, 92, 21⟩) (.int 1 ⟨92, 25, 92, 26⟩) ⟨92, 16, 92, 26⟩) (.bin .Sub (.attr 0 ⟨92, 31, 92, 34⟩ 1 ⟨92, 31, 92, 40⟩) (.int 1 ⟨92, 43, 92, 44⟩) ⟨92, 31, 92, 44⟩) ⟨92, 15, 92, 45⟩) (.attr 0 ⟨92, 48, 92, 51⟩ 0 ⟨92, 48, 92, 57⟩) ⟨92, 15, 92, 57⟩) ⟨92, 8, 92, 57⟩)
 (.cons (.asg 4 ⟨93, 8, 93, 14⟩ (.bin .Sub (.attr 0 ⟨93, 17, 93, 20⟩ 0 ⟨93, 17, 93, 26⟩) (.int 1 ⟨93, 29, 93, 30⟩) ⟨93, 17, 93, 30⟩) ⟨93, 8, 93, 30⟩)
 (.cons (.asg 5 ⟨94, 8, 94, 11⟩ (.int 1 ⟨94, 14, 94, 15⟩) ⟨94, 8, 94, 15⟩)
 (.cons (.ifs (.bin .BitAnd (.var 2 ⟨95, 11, 95, 16⟩) (.int 1 ⟨95, 19, 95, 20⟩) ⟨95, 11, 95, 20⟩) (.cons (.asg 4 ⟨96, 12, 96, 18⟩ (.int 0 ⟨96, 21, 96, 22⟩) ⟨96, 12, 96, 22⟩)
 (.cons (.asg 5 ⟨97, 12, 97, 15⟩ (.un .USub (.int 1 ⟨97, 19, 97, 20⟩) ⟨97, 18, 97, 20⟩) ⟨97, 12, 97, 20⟩)
 .nil)) .nil ⟨95, 8, 97, 20⟩)
 (.cons (.asg 6 ⟨98, 8, 98, 12⟩ (.bin .Add (.var 1 ⟨98, 15, 98, 20⟩) (.bin .Mult (.int 2 ⟨98, 23, 98, 24⟩) (.var 5 ⟨98, 27, 98, 30⟩) ⟨98, 23, 98, 30⟩) ⟨98, 15, 98, 30⟩) ⟨98, 8, 98, 30⟩)
 (.cons (.ifs (.bop .And (.cons (.attr 0 ⟨99, 11, 99, 14⟩ 5 ⟨99, 11, 99, 27⟩) (.cons (.cmp .Gt (.bin .Mult (.bin .Sub (.var 4 ⟨99, 33, 99, 39⟩) (.var 6 ⟨99, 42, 99, 46⟩) ⟨99, 33, 99, 46⟩) (.var 5 ⟨99, 50, 99, 53⟩) ⟨99, 32, 99, 53⟩) (.int 0 ⟨99, 56, 99, 57⟩) ⟨99, 32, 99, 57⟩) .nil)) ⟨99, 11, 99, 57⟩) (.cons (.app (.attr 0 ⟨100, 12, 100, 15⟩ 12 ⟨100, 12, 100, 23⟩) (.tup (.cons (.bin .Add (.var 3 ⟨100, 32, 100, 36⟩) (.var 1 ⟨100, 39, 100, 44⟩) ⟨100, 32, 100, 44⟩) (.cons (.bin .Add (.var 3 ⟨100, 46, 100, 50⟩) (.var 6 ⟨100, 53, 100, 57⟩) ⟨100, 46, 100, 57⟩) (.cons (.bin .Add (.var 3 ⟨100, 59, 100, 63⟩) (.var 4 ⟨100, 66, 100, 72⟩) ⟨100, 59, 100, 72⟩) (.cons (.bin .Sub (.bin .Add (.var 3 ⟨100, 74, 100, 78⟩) (.var 6 ⟨100, 81, 100, 85⟩) ⟨100, 74, 100, 85⟩) (.var 5 ⟨100, 88, 100, 91⟩) ⟨100, 74, 100, 91⟩) .nil)))) 0 ⟨100, 31, 100, 92⟩) ⟨100, 12, 100, 30⟩ ⟨100, 12, 100, 93⟩ ⟨100, 12, 100, 93⟩)
 (.cons (.augI (.attr 0 ⟨101, 12, 101, 15⟩ 13 ⟨101, 12, 101, 27⟩) (.bin .Add (.var 3 ⟨101, 28, 101, 32⟩) (.var 1 ⟨101, 35, 101, 40⟩) ⟨101, 28, 101, 40⟩) ⟨101, 12, 101, 41⟩ .BitOr (.bin .LShift (.int 1 ⟨101, 45, 101, 46⟩) (.var 2 ⟨101, 50, 101, 55⟩) ⟨101, 45, 101, 55⟩) ⟨101, 12, 101, 55⟩)
 (.cons (.augI (.attr 0 ⟨102, 12, 102, 15⟩ 13 ⟨102, 12, 102, 27⟩) (.bin .Add (.var 3 ⟨102, 28, 102, 32⟩) (.var 4 ⟨102, 35, 102, 41⟩) ⟨102, 28, 102, 41⟩) ⟨102, 12, 102, 42⟩ .BitOr (.bin .LShift (.int 1 ⟨102, 46, 102, 47⟩) (.var 2 ⟨102, 51, 102, 56⟩) ⟨102, 46, 102, 56⟩) ⟨102, 12, 102, 56⟩)
 .nil))) (.cons (.app (.attr 0 ⟨104, 12, 104, 15⟩ 12 ⟨104, 12, 104, 23⟩) (.none ⟨104, 31, 104, 35⟩) ⟨104, 12, 104, 30⟩ ⟨104, 12, 104, 36⟩ ⟨104, 12, 104, 36⟩)
 .nil) ⟨99, 8, 104, 36⟩)
 .nil)))))) ⟨91, 4, 104, 36⟩)
 .nil)))
noncomputable def D_add_castles : FD := ⟨[Str.ofString "geo", Str.ofString "start", Str.ofString "index", Str.ofString "base", Str.ofString "corner", Str.ofString "way", Str.ofString "goal"], [Str.ofString "range"], [(Str.ofString "geo", .local), (Str.ofString "start", .local), (Str.ofString "index", .local), (Str.ofString "base", .local), (Str.ofString "corner", .local), (Str.ofString "way", .local), (Str.ofString "goal", .local), (Str.ofString "range", .globalImplicit)], 1, B_add_castles⟩
theorem F_add_castles (P : Params) : FOk P 118 D_add_castles := fok (ps := [(Str.ofString "geo", ⟨88, 16, 88, 19⟩)]) (by kernel_rfl) (by kernel_rfl) (by kernel_rfl) (by kernel_rfl) fun fd h1 h2 h3 xs hl => by
  obtain ⟨n1, n2, n3, n4, n5, n6, n7, n8, n9, n10, n11, n12, n13, n14, n15⟩ := fd
  dsimp only at h1 h2 h3
  subst h1 h2 h3
  obtain ⟨a, rfl⟩ := len1 hl
  rfl
noncomputable def B_make_geometry : CSs :=
 (.cons (.ifs (.bop .Or (.cons (.cmp .Lt (.var 0 ⟨106, 7, 106, 12⟩) (.int 2 ⟨106, 15, 106, 16⟩) ⟨106, 7, 106, 16⟩) (.cons (.cmp .Gt (.var 0 ⟨106, 20, 106, 25⟩) (.int 8 ⟨106, 28, 106, 29⟩) ⟨106, 20, 106, 29⟩) (.cons (.cmp .Lt (.var 1 ⟨106, 33, 106, 38⟩) (.int 3 ⟨106, 41, 106, 42⟩) ⟨106, 33, 106, 42⟩) (.cons (.cmp .Gt (.var 1 ⟨106, 47, 106, 52⟩) (.int 8 ⟨106, 55, 106, 56⟩) ⟨106, 47, 106, 56⟩) .nil)))) ⟨106, 7, 106, 57⟩) (.cons (.rais (Str.ofString "ChessError") ⟨107, 14, 107, 24⟩ (Str.ofString "no board has that many files and ranks") ⟨107, 25, 107, 65⟩ ⟨107, 14, 107, 66⟩ ⟨107, 8, 107, 66⟩)
 .nil) .nil ⟨106, 4, 107, 66⟩)
 (.cons (.asg 4 ⟨108, 4, 108, 7⟩ (.make ⟨108, 10, 108, 18⟩ (.cons (.var 0 ⟨108, 19, 108, 24⟩) (.cons (.var 1 ⟨108, 26, 108, 31⟩) (.cons (.var 2 ⟨108, 33, 108, 43⟩) (.cons (.var 3 ⟨108, 45, 108, 57⟩) .nil)))) ⟨108, 10, 108, 58⟩) ⟨108, 4, 108, 58⟩)
 (.cons (.exp (.call 1 ⟨109, 4, 109, 13⟩ (.cons (.var 4 ⟨109, 14, 109, 17⟩) .nil) ⟨109, 4, 109, 18⟩) ⟨109, 4, 109, 18⟩)
 (.cons (.exp (.call 3 ⟨110, 4, 110, 12⟩ (.cons (.var 4 ⟨110, 13, 110, 16⟩) .nil) ⟨110, 4, 110, 17⟩) ⟨110, 4, 110, 17⟩)
 (.cons (.exp (.call 4 ⟨111, 4, 111, 13⟩ (.cons (.var 4 ⟨111, 14, 111, 17⟩) .nil) ⟨111, 4, 111, 18⟩) ⟨111, 4, 111, 18⟩)
 (.cons (.exp (.call 5 ⟨112, 4, 112, 15⟩ (.cons (.var 4 ⟨112, 16, 112, 19⟩) .nil) ⟨112, 4, 112, 20⟩) ⟨112, 4, 112, 20⟩)
 (.cons (.exp (.call 6 ⟨113, 4, 113, 15⟩ (.cons (.var 4 ⟨113, 16, 113, 19⟩) .nil) ⟨113, 4, 113, 20⟩) ⟨113, 4, 113, 20⟩)
 (.cons (.ret (.var 4 ⟨114, 11, 114, 14⟩) ⟨114, 4, 114, 14⟩)
 .nil))))))))
noncomputable def D_make_geometry : FD := ⟨[Str.ofString "files", Str.ofString "ranks", Str.ofString "has_double", Str.ofString "has_castling", Str.ofString "geo"], [Str.ofString "ChessError", Str.ofString "Geometry", Str.ofString "add_masks", Str.ofString "add_rays", Str.ofString "add_pawns", Str.ofString "add_knights", Str.ofString "add_castles"], [(Str.ofString "files", .local), (Str.ofString "ranks", .local), (Str.ofString "has_double", .local), (Str.ofString "has_castling", .local), (Str.ofString "geo", .local), (Str.ofString "ChessError", .globalImplicit), (Str.ofString "Geometry", .globalImplicit), (Str.ofString "add_masks", .globalImplicit), (Str.ofString "add_rays", .globalImplicit), (Str.ofString "add_pawns", .globalImplicit), (Str.ofString "add_knights", .globalImplicit), (Str.ofString "add_castles", .globalImplicit)], 4, B_make_geometry⟩
theorem F_make_geometry (P : Params) : FOk P 125 D_make_geometry := fok (ps := [(Str.ofString "files", ⟨105, 18, 105, 23⟩), (Str.ofString "ranks", ⟨105, 25, 105, 30⟩), (Str.ofString "has_double", ⟨105, 32, 105, 42⟩), (Str.ofString "has_castling", ⟨105, 44, 105, 56⟩)]) (by kernel_rfl) (by kernel_rfl) (by kernel_rfl) (by kernel_rfl) fun fd h1 h2 h3 xs hl => by
  obtain ⟨n1, n2, n3, n4, n5, n6, n7, n8, n9, n10, n11, n12, n13, n14, n15⟩ := fd
  dsimp only at h1 h2 h3
  subst h1 h2 h3
  obtain ⟨a, b, c, d, rfl⟩ := len4 hl
  rfl
noncomputable def B_ray_attacks : CSs :=
 (.cons (.asg 4 ⟨117, 4, 117, 7⟩ (.sub (.sub (.attr 0 ⟨117, 10, 117, 13⟩ 8 ⟨117, 10, 117, 18⟩) (.var 1 ⟨117, 19, 117, 20⟩) ⟨117, 10, 117, 21⟩) (.var 2 ⟨117, 22, 117, 28⟩) ⟨117, 10, 117, 29⟩) ⟨117, 4, 117, 29⟩)
 (.cons (.asg 5 ⟨118, 4, 118, 8⟩ (.bin .BitAnd (.var 4 ⟨118, 11, 118, 14⟩) (.var 3 ⟨118, 17, 118, 25⟩) ⟨118, 11, 118, 25⟩) ⟨118, 4, 118, 25⟩)
 (.cons (.ifs (.cmp .Eq (.var 5 ⟨119, 7, 119, 11⟩) (.int 0 ⟨119, 15, 119, 16⟩) ⟨119, 7, 119, 16⟩) (.cons (.ret (.var 4 ⟨120, 15, 120, 18⟩) ⟨120, 8, 120, 18⟩)
 .nil) .nil ⟨119, 4, 120, 18⟩)
 (.cons (.ifs (.call 0 ⟨121, 7, 121, 17⟩ (.cons (.var 1 ⟨121, 18, 121, 19⟩) .nil) ⟨121, 7, 121, 20⟩) (.cons (.ret (.bin .BitAnd (.var 4 ⟨122, 15, 122, 18⟩) (.bin .BitXor (.var 5 ⟨122, 22, 122, 26⟩) (.bin .Sub (.var 5 ⟨122, 29, 122, 33⟩) (.int 1 ⟨122, 36, 122, 37⟩) ⟨122, 29, 122, 37⟩) ⟨122, 22, 122, 37⟩) ⟨122, 15, 122, 38⟩) ⟨122, 8, 122, 38⟩)
 .nil) .nil ⟨121, 4, 122, 38⟩)
 (.cons (.asg 6 ⟨123, 4, 123, 10⟩ (.bin .RShift (.var 5 ⟨123, 13, 123, 17⟩) (.int 1 ⟨123, 21, 123, 22⟩) ⟨123, 13, 123, 22⟩) ⟨123, 4, 123, 22⟩)
 (.cons (.aug 6 ⟨124, 4, 124, 10⟩ .BitOr (.bin .RShift (.var 6 ⟨124, 14, 124, 20⟩) (.int 1 ⟨124, 24, 124, 25⟩) ⟨124, 14, 124, 25⟩) ⟨124, 4, 124, 25⟩)
 (.cons (.aug 6 ⟨125, 4, 125, 10⟩ .BitOr (.bin .RShift (.var 6 ⟨125, 14, 125, 20⟩) (.int 2 ⟨125, 24, 125, 25⟩) ⟨125, 14, 125, 25⟩) ⟨125, 4, 125, 25⟩)
 (.cons (.aug 6 ⟨126, 4, 126, 10⟩ .BitOr (.bin .RShift (.var 6 ⟨126, 14, 126, 20⟩) (.int 4 ⟨126, 24, 126, 25⟩) ⟨126, 14, 126, 25⟩) ⟨126, 4, 126, 25⟩)
 (.cons (.aug 6 ⟨127, 4, 127, 10⟩ .BitOr (.bin .RShift (.var 6 ⟨127, 14, 127, 20⟩) (.int 8 ⟨127, 24, 127, 25⟩) ⟨127, 14, 127, 25⟩) ⟨127, 4, 127, 25⟩)
 (.cons (.aug 6 ⟨128, 4, 128, 10⟩ .BitOr (.bin .RShift (.var 6 ⟨128, 14, 128, 20⟩) (.int 16 ⟨128, 24, 128, 26⟩) ⟨128, 14, 128, 26⟩) ⟨128, 4, 128, 26⟩)
 (.cons (.aug 6 ⟨129, 4, 129, 10⟩ .BitOr (.bin .RShift (.var 6 ⟨129, 14, 129, 20⟩) (.int 32 ⟨129, 24, 129, 26⟩) ⟨129, 14, 129, 26⟩) ⟨129, 4, 129, 26⟩)
 (.cons (.ret (.bin .BitAnd (.var 4 ⟨130, 11, 130, 14⟩) (.un .Invert (.var 6 ⟨130, 18, 130, 24⟩) ⟨130, 17, 130, 24⟩) ⟨130, 11, 130, 24⟩) ⟨130, 4, 130, 24⟩)
 .nil))))))))))))
noncomputable def D_ray_attacks : FD := ⟨[Str.ofString "geo", Str.ofString "d", Str.ofString "square", Str.ofString "occupied", Str.ofString "ray", Str.ofString "stop", Str.ofString "behind"], [Str.ofString "is_growing"], [(Str.ofString "geo", .local), (Str.ofString "d", .local), (Str.ofString "square", .local), (Str.ofString "occupied", .local), (Str.ofString "ray", .local), (Str.ofString "stop", .local), (Str.ofString "behind", .local), (Str.ofString "is_growing", .globalImplicit)], 4, B_ray_attacks⟩
theorem F_ray_attacks (P : Params) : FOk P 132 D_ray_attacks := fok (ps := [(Str.ofString "geo", ⟨116, 16, 116, 19⟩), (Str.ofString "d", ⟨116, 21, 116, 22⟩), (Str.ofString "square", ⟨116, 24, 116, 30⟩), (Str.ofString "occupied", ⟨116, 32, 116, 40⟩)]) (by kernel_rfl) (by kernel_rfl) (by kernel_rfl) (by kernel_rfl) fun fd h1 h2 h3 xs hl => by
  obtain ⟨n1, n2, n3, n4, n5, n6, n7, n8, n9, n10, n11, n12, n13, n14, n15⟩ := fd
  dsimp only at h1 h2 h3
  subst h1 h2 h3
  obtain ⟨a, b, c, d, rfl⟩ := len4 hl
  rfl
noncomputable def B_rook_attacks : CSs :=
 (.cons (.asg 3 ⟨132, 4, 132, 9⟩ (.int 0 ⟨132, 12, 132, 13⟩) ⟨132, 4, 132, 13⟩)
 (.cons (.for1 4 ⟨133, 8, 133, 9⟩ (.bi .range ⟨133, 13, 133, 18⟩ (.cons (.int 4 ⟨133, 19, 133, 20⟩) .nil) ⟨133, 13, 133, 21⟩) (.cons (.aug 3 ⟨134, 8, 134, 13⟩ .BitOr (.call 8 ⟨134, 17, 134, 28⟩ (.cons (.var 0 ⟨134, 29, 134, 32⟩) (.cons (.var 4 ⟨134, 34, 134, 35⟩) (.cons (.var 1 ⟨134, 37, 134, 43⟩) (.cons (.var 2 ⟨134, 45, 134, 53⟩) .nil)))) ⟨134, 17, 134, 54⟩) ⟨134, 8, 134, 54⟩)
 .nil) ⟨133, 4, 134, 54⟩)
 (.cons (.ret (.var 3 ⟨135, 11, 135, 16⟩) ⟨135, 4, 135, 16⟩)
 .nil)))
noncomputable def D_rook_attacks : FD := ⟨[Str.ofString "geo", Str.ofString "square", Str.ofString "occupied", Str.ofString "found", Str.ofString "d"], [Str.ofString "range", Str.ofString "ray_attacks"], [(Str.ofString "geo", .local), (Str.ofString "square", .local), (Str.ofString "occupied", .local), (Str.ofString "found", .local), (Str.ofString "d", .local), (Str.ofString "range", .globalImplicit), (Str.ofString "ray_attacks", .globalImplicit)], 3, B_rook_attacks⟩
theorem F_rook_attacks (P : Params) : FOk P 139 D_rook_attacks := fok (ps := [(Str.ofString "geo", ⟨131, 17, 131, 20⟩), (Str.ofString "square", ⟨131, 22, 131, 28⟩), (Str.ofString "occupied", ⟨131, 30, 131, 38⟩)]) (by kernel_rfl) (by kernel_rfl) (by kernel_rfl) (by kernel_rfl) fun fd h1 h2 h3 xs hl => by
  obtain ⟨n1, n2, n3, n4, n5, n6, n7, n8, n9, n10, n11, n12, n13, n14, n15⟩ := fd
  dsimp only at h1 h2 h3
  subst h1 h2 h3
  obtain ⟨a, b, c, rfl⟩ := len3 hl
  rfl
noncomputable def B_bishop_attacks : CSs :=
 (.cons (.asg 3 ⟨137, 4, 137, 9⟩ (.int 0 ⟨137, 12, 137, 13⟩) ⟨137, 4, 137, 13⟩)
 (.cons (.for1 4 ⟨138, 8, 138, 9⟩ (.bi .range ⟨138, 13, 138, 18⟩ (.cons (.int 4 ⟨138, 19, 138, 20⟩) (.cons (.int 8 ⟨138, 22, 138, 23⟩) .nil)) ⟨138, 13, 138, 24⟩) (.cons (.aug 3 ⟨139, 8, 139, 13⟩ .BitOr (.call 8 ⟨139, 17, 139, 28⟩ (.cons (.var 0 ⟨139, 29, 139, 32⟩) (.cons (.var 4 ⟨139, 34, 139, 35⟩) (.cons (.var 1 ⟨139, 37, 139, 43⟩) (.cons (.var 2 ⟨139, 45, 139, 53⟩) .nil)))) ⟨139, 17, 139, 54⟩) ⟨139, 8, 139, 54⟩)
 .nil) ⟨138, 4, 139, 54⟩)
 (.cons (.ret (.var 3 ⟨140, 11, 140, 16⟩) ⟨140, 4, 140, 16⟩)
 .nil)))
noncomputable def D_bishop_attacks : FD := ⟨[Str.ofString "geo", Str.ofString "square", Str.ofString "occupied", Str.ofString "found", Str.ofString "d"], [Str.ofString "range", Str.ofString "ray_attacks"], [(Str.ofString "geo", .local), (Str.ofString "square", .local), (Str.ofString "occupied", .local), (Str.ofString "found", .local), (Str.ofString "d", .local), (Str.ofString "range", .globalImplicit), (Str.ofString "ray_attacks", .globalImplicit)], 3, B_bishop_attacks⟩
theorem F_bishop_attacks (P : Params) : FOk P 146 D_bishop_attacks := fok (ps := [(Str.ofString "geo", ⟨136, 19, 136, 22⟩), (Str.ofString "square", ⟨136, 24, 136, 30⟩), (Str.ofString "occupied", ⟨136, 32, 136, 40⟩)]) (by kernel_rfl) (by kernel_rfl) (by kernel_rfl) (by kernel_rfl) fun fd h1 h2 h3 xs hl => by
  obtain ⟨n1, n2, n3, n4, n5, n6, n7, n8, n9, n10, n11, n12, n13, n14, n15⟩ := fd
  dsimp only at h1 h2 h3
  subst h1 h2 h3
  obtain ⟨a, b, c, rfl⟩ := len3 hl
  rfl
noncomputable def B_queen_attacks : CSs :=
 (.cons (.ret (.bin .BitOr (.call 9 ⟨142, 11, 142, 23⟩ (.cons (.var 0 ⟨142, 24, 142, 27⟩) (.cons (.var 1 ⟨142, 29, 142, 35⟩) (.cons (.var 2 ⟨142, 37, 142, 45⟩) .nil))) ⟨142, 11, 142, 46⟩) (.call 10 ⟨142, 49, 142, 63⟩ (.cons (.var 0 ⟨142, 64, 142, 67⟩) (.cons (.var 1 ⟨142, 69, 142, 75⟩) (.cons (.var 2 ⟨142, 77, 142, 85⟩) .nil))) ⟨142, 49, 142, 86⟩) ⟨142, 11, 142, 86⟩) ⟨142, 4, 142, 86⟩)
 .nil)
noncomputable def D_queen_attacks : FD := ⟨[Str.ofString "geo", Str.ofString "square", Str.ofString "occupied"], [Str.ofString "rook_attacks", Str.ofString "bishop_attacks"], [(Str.ofString "geo", .local), (Str.ofString "square", .local), (Str.ofString "occupied", .local), (Str.ofString "rook_attacks", .globalImplicit), (Str.ofString "bishop_attacks", .globalImplicit)], 3, B_queen_attacks⟩
theorem F_queen_attacks (P : Params) : FOk P 153 D_queen_attacks := fok (ps := [(Str.ofString "geo", ⟨141, 18, 141, 21⟩), (Str.ofString "square", ⟨141, 23, 141, 29⟩), (Str.ofString "occupied", ⟨141, 31, 141, 39⟩)]) (by kernel_rfl) (by kernel_rfl) (by kernel_rfl) (by kernel_rfl) fun fd h1 h2 h3 xs hl => by
  obtain ⟨n1, n2, n3, n4, n5, n6, n7, n8, n9, n10, n11, n12, n13, n14, n15⟩ := fd
  dsimp only at h1 h2 h3
  subst h1 h2 h3
  obtain ⟨a, b, c, rfl⟩ := len3 hl
  rfl
noncomputable def B_slider_attacks : CSs :=
 (.cons (.ifs (.cmp .Eq (.var 1 ⟨144, 7, 144, 11⟩) (.gint 3 ⟨144, 15, 144, 21⟩) ⟨144, 7, 144, 21⟩) (.cons (.ret (.call 10 ⟨145, 15, 145, 29⟩ (.cons (.var 0 ⟨145, 30, 145, 33⟩) (.cons (.var 2 ⟨145, 35, 145, 41⟩) (.cons (.var 3 ⟨145, 43, 145, 51⟩) .nil))) ⟨145, 15, 145, 52⟩) ⟨145, 8, 145, 52⟩)
 .nil) .nil ⟨144, 4, 145, 52⟩)
 (.cons (.ifs (.cmp .Eq (.var 1 ⟨146, 7, 146, 11⟩) (.gint 4 ⟨146, 15, 146, 19⟩) ⟨146, 7, 146, 19⟩) (.cons (.ret (.call 9 ⟨147, 15, 147, 27⟩ (.cons (.var 0 ⟨147, 28, 147, 31⟩) (.cons (.var 2 ⟨147, 33, 147, 39⟩) (.cons (.var 3 ⟨147, 41, 147, 49⟩) .nil))) ⟨147, 15, 147, 50⟩) ⟨147, 8, 147, 50⟩)
 .nil) .nil ⟨146, 4, 147, 50⟩)
 (.cons (.ifs (.cmp .Eq (.var 1 ⟨148, 7, 148, 11⟩) (.gint 5 ⟨148, 15, 148, 20⟩) ⟨148, 7, 148, 20⟩) (.cons (.ret (.call 11 ⟨149, 15, 149, 28⟩ (.cons (.var 0 ⟨149, 29, 149, 32⟩) (.cons (.var 2 ⟨149, 34, 149, 40⟩) (.cons (.var 3 ⟨149, 42, 149, 50⟩) .nil))) ⟨149, 15, 149, 51⟩) ⟨149, 8, 149, 51⟩)
 .nil) .nil ⟨148, 4, 149, 51⟩)
 (.cons (.ret (.int 0 ⟨150, 11, 150, 12⟩) ⟨150, 4, 150, 12⟩)
 .nil))))
noncomputable def D_slider_attacks : FD := ⟨[Str.ofString "geo", Str.ofString "kind", Str.ofString "square", Str.ofString "occupied"], [Str.ofString "BISHOP", Str.ofString "bishop_attacks", Str.ofString "ROOK", Str.ofString "rook_attacks", Str.ofString "QUEEN", Str.ofString "queen_attacks"], [(Str.ofString "geo", .local), (Str.ofString "kind", .local), (Str.ofString "square", .local), (Str.ofString "occupied", .local), (Str.ofString "BISHOP", .globalImplicit), (Str.ofString "bishop_attacks", .globalImplicit), (Str.ofString "ROOK", .globalImplicit), (Str.ofString "rook_attacks", .globalImplicit), (Str.ofString "QUEEN", .globalImplicit), (Str.ofString "queen_attacks", .globalImplicit)], 4, B_slider_attacks⟩
theorem F_slider_attacks (P : Params) : FOk P 160 D_slider_attacks := fok (ps := [(Str.ofString "geo", ⟨143, 19, 143, 22⟩), (Str.ofString "kind", ⟨143, 24, 143, 28⟩), (Str.ofString "square", ⟨143, 30, 143, 36⟩), (Str.ofString "occupied", ⟨143, 38, 143, 46⟩)]) (by kernel_rfl) (by kernel_rfl) (by kernel_rfl) (by kernel_rfl) fun fd h1 h2 h3 xs hl => by
  obtain ⟨n1, n2, n3, n4, n5, n6, n7, n8, n9, n10, n11, n12, n13, n14, n15⟩ := fd
  dsimp only at h1 h2 h3
  subst h1 h2 h3
  obtain ⟨a, b, c, d, rfl⟩ := len4 hl
  rfl
noncomputable def B_piece_attacks : CSs :=
 (.cons (.ifs (.cmp .Eq (.var 2 ⟨152, 7, 152, 11⟩) (.gint 1 ⟨152, 15, 152, 19⟩) ⟨152, 7, 152, 19⟩) (.cons (.ret (.sub (.sub (.attr 0 ⟨153, 15, 153, 18⟩ 11 ⟨153, 15, 153, 23⟩) (.var 1 ⟨153, 24, 153, 28⟩) ⟨153, 15, 153, 29⟩) (.var 3 ⟨153, 30, 153, 36⟩) ⟨153, 15, 153, 37⟩) ⟨153, 8, 153, 37⟩)
 .nil) .nil ⟨152, 4, 153, 37⟩)
 (.cons (.ifs (.cmp .Eq (.var 2 ⟨154, 7, 154, 11⟩) (.gint 2 ⟨154, 15, 154, 21⟩) ⟨154, 7, 154, 21⟩) (.cons (.ret (.sub (.attr 0 ⟨155, 15, 155, 18⟩ 10 ⟨155, 15, 155, 25⟩) (.var 3 ⟨155, 26, 155, 32⟩) ⟨155, 15, 155, 33⟩) ⟨155, 8, 155, 33⟩)
 .nil) .nil ⟨154, 4, 155, 33⟩)
 (.cons (.ifs (.cmp .Eq (.var 2 ⟨156, 7, 156, 11⟩) (.gint 6 ⟨156, 15, 156, 19⟩) ⟨156, 7, 156, 19⟩) (.cons (.ret (.sub (.attr 0 ⟨157, 15, 157, 18⟩ 9 ⟨157, 15, 157, 23⟩) (.var 3 ⟨157, 24, 157, 30⟩) ⟨157, 15, 157, 31⟩) ⟨157, 8, 157, 31⟩)
 .nil) .nil ⟨156, 4, 157, 31⟩)
 (.cons (.ret (.call 12 ⟨158, 11, 158, 25⟩ (.cons (.var 0 ⟨158, 26, 158, 29⟩) (.cons (.var 2 ⟨158, 31, 158, 35⟩) (.cons (.var 3 ⟨158, 37, 158, 43⟩) (.cons (.var 4 ⟨158, 45, 158, 53⟩) .nil)))) ⟨158, 11, 158, 54⟩) ⟨158, 4, 158, 54⟩)
 .nil))))
noncomputable def D_piece_attacks : FD := ⟨[Str.ofString "geo", Str.ofString "side", Str.ofString "kind", Str.ofString "square", Str.ofString "occupied"], [Str.ofString "PAWN", Str.ofString "KNIGHT", Str.ofString "KING", Str.ofString "slider_attacks"], [(Str.ofString "geo", .local), (Str.ofString "side", .local), (Str.ofString "kind", .local), (Str.ofString "square", .local), (Str.ofString "occupied", .local), (Str.ofString "PAWN", .globalImplicit), (Str.ofString "KNIGHT", .globalImplicit), (Str.ofString "KING", .globalImplicit), (Str.ofString "slider_attacks", .globalImplicit)], 5, B_piece_attacks⟩
theorem F_piece_attacks (P : Params) : FOk P 167 D_piece_attacks := fok (ps := [(Str.ofString "geo", ⟨151, 18, 151, 21⟩), (Str.ofString "side", ⟨151, 23, 151, 27⟩), (Str.ofString "kind", ⟨151, 29, 151, 33⟩), (Str.ofString "square", ⟨151, 35, 151, 41⟩), (Str.ofString "occupied", ⟨151, 43, 151, 51⟩)]) (by kernel_rfl) (by kernel_rfl) (by kernel_rfl) (by kernel_rfl) fun fd h1 h2 h3 xs hl => by
  obtain ⟨n1, n2, n3, n4, n5, n6, n7, n8, n9, n10, n11, n12, n13, n14, n15⟩ := fd
  dsimp only at h1 h2 h3
  subst h1 h2 h3
  obtain ⟨a, b, c, d, e, rfl⟩ := len5 hl
  rfl
noncomputable def B_solve : CSs :=
 (.cons (.asg 3 ⟨166, 4, 166, 10⟩ (.bin .Mult (.lst (.cons (.gint 8 ⟨166, 14, 166, 21⟩) .nil) ⟨166, 13, 166, 22⟩) (.bi .len ⟨166, 25, 166, 28⟩ (.cons (.var 1 ⟨166, 29, 166, 34⟩) .nil) ⟨166, 25, 166, 35⟩) ⟨166, 13, 166, 35⟩) ⟨166, 4, 166, 35⟩)
 (.cons (.asg 4 ⟨167, 4, 167, 8⟩ (.lst .nil ⟨167, 11, 167, 13⟩) ⟨167, 4, 167, 13⟩)
 (.cons (.asg 6 ⟨168, 4, 168, 10⟩ (.comp1 (.lst .nil ⟨168, 14, 168, 16⟩) (Str.ofString "n") ⟨168, 21, 168, 22⟩ (.var 1 ⟨168, 26, 168, 31⟩) .nil [] ⟨.function, [(Str.ofString ".0", .local), (Str.ofString "n", .local)], false, false, []⟩ ⟨168, 13, 168, 32⟩) ⟨168, 4, 168, 32⟩)
 (.cons (.asg 7 ⟨169, 4, 169, 9⟩ (.lst .nil ⟨169, 12, 169, 14⟩) ⟨169, 4, 169, 14⟩)
 (.cons (.for1 5 ⟨170, 8, 170, 9⟩ (.bi .range ⟨170, 13, 170, 18⟩ (.cons (.bi .len ⟨170, 19, 170, 22⟩ (.cons (.var 1 ⟨170, 23, 170, 28⟩) .nil) ⟨170, 19, 170, 29⟩) .nil) ⟨170, 13, 170, 30⟩) (.cons (.app (.var 4 ⟨171, 8, 171, 12⟩) (.bi .len ⟨171, 20, 171, 23⟩ (.cons (.sub (.var 1 ⟨171, 24, 171, 29⟩) (.var 5 ⟨171, 30, 171, 31⟩) ⟨171, 24, 171, 32⟩) .nil) ⟨171, 20, 171, 33⟩) ⟨171, 8, 171, 19⟩ ⟨171, 8, 171, 34⟩ ⟨171, 8, 171, 34⟩)
 (.cons (.for1 8 ⟨172, 12, 172, 13⟩ (.sub (.var 1 ⟨172, 17, 172, 22⟩) (.var 5 ⟨172, 23, 172, 24⟩) ⟨172, 17, 172, 25⟩) (.cons (.ifs (.cmp .NotEq (.var 8 ⟨173, 15, 173, 16⟩) (.gint 9 ⟨173, 20, 173, 27⟩) ⟨173, 15, 173, 27⟩) (.cons (.app (.sub (.var 6 ⟨174, 16, 174, 22⟩) (.var 8 ⟨174, 23, 174, 24⟩) ⟨174, 16, 174, 25⟩) (.var 5 ⟨174, 33, 174, 34⟩) ⟨174, 16, 174, 32⟩ ⟨174, 16, 174, 35⟩ ⟨174, 16, 174, 35⟩)
 .nil) .nil ⟨173, 12, 174, 35⟩)
 .nil) ⟨172, 8, 174, 35⟩)
 (.cons (.ifs (.sub (.var 2 ⟨175, 11, 175, 15⟩) (.var 5 ⟨175, 16, 175, 17⟩) ⟨175, 11, 175, 18⟩) (.cons (.asgI (.var 3 ⟨176, 12, 176, 18⟩) (.var 5 ⟨176, 19, 176, 20⟩) ⟨176, 12, 176, 21⟩ (.int 0 ⟨176, 24, 176, 25⟩) ⟨176, 12, 176, 25⟩)
 (.cons (.app (.var 7 ⟨177, 12, 177, 17⟩) (.var 5 ⟨177, 25, 177, 26⟩) ⟨177, 12, 177, 24⟩ ⟨177, 12, 177, 27⟩ ⟨177, 12, 177, 27⟩)
 .nil)) .nil ⟨175, 8, 177, 27⟩)
 .nil))) ⟨170, 4, 177, 27⟩)
 (.cons (.asg 9 ⟨178, 4, 178, 6⟩ (.int 0 ⟨178, 9, 178, 10⟩) ⟨178, 4, 178, 10⟩)
 (.cons (.whl (.cmp .Lt (.var 9 ⟨179, 10, 179, 12⟩) (.bi .len ⟨179, 15, 179, 18⟩ (.cons (.var 7 ⟨179, 19, 179, 24⟩) .nil) ⟨179, 15, 179, 25⟩) ⟨179, 10, 179, 25⟩) (.cons (.asg 8 ⟨180, 8, 180, 9⟩ (.sub (.var 7 ⟨180, 12, 180, 17⟩) (.var 9 ⟨180, 18, 180, 20⟩) ⟨180, 12, 180, 21⟩) ⟨180, 8, 180, 21⟩)
 (.cons (.aug 9 ⟨181, 8, 181, 10⟩ .Add (.int 1 ⟨181, 14, 181, 15⟩) ⟨181, 8, 181, 15⟩)
 (.cons (.for1 5 ⟨182, 12, 182, 13⟩ (.sub (.var 6 ⟨182, 17, 182, 23⟩) (.var 8 ⟨182, 24, 182, 25⟩) ⟨182, 17, 182, 26⟩) (.cons (.augI (.var 4 ⟨183, 12, 183, 16⟩) (.var 5 ⟨183, 17, 183, 18⟩) ⟨183, 12, 183, 19⟩ .Sub (.int 1 ⟨183, 23, 183, 24⟩) ⟨183, 12, 183, 24⟩)
 (.cons (.ifs (.bop .And (.cons (.cmp .Eq (.sub (.var 3 ⟨184, 15, 184, 21⟩) (.var 5 ⟨184, 22, 184, 23⟩) ⟨184, 15, 184, 24⟩) (.gint 8 ⟨184, 28, 184, 35⟩) ⟨184, 15, 184, 35⟩) (.cons (.bop .Or (.cons (.cmp .Eq (.sub (.var 0 ⟨184, 41, 184, 46⟩) (.var 5 ⟨184, 47, 184, 48⟩) ⟨184, 41, 184, 49⟩) (.gint 10 ⟨184, 53, 184, 65⟩) ⟨184, 41, 184, 65⟩) (.cons (.cmp .Eq (.sub (.var 4 ⟨184, 69, 184, 73⟩) (.var 5 ⟨184, 74, 184, 75⟩) ⟨184, 69, 184, 76⟩) (.int 0 ⟨184, 80, 184, 81⟩) ⟨184, 69, 184, 81⟩) .nil)) ⟨184, 41, 184, 81⟩) .nil)) ⟨184, 15, 184, 82⟩) (.cons (.asgI (.var 3 ⟨185, 16, 185, 22⟩) (.var 5 ⟨185, 23, 185, 24⟩) ⟨185, 16, 185, 25⟩ (.bin .Add (.sub (.var 3 ⟨185, 28, 185, 34⟩) (.var 8 ⟨185, 35, 185, 36⟩) ⟨185, 28, 185, 37⟩) (.int 1 ⟨185, 40, 185, 41⟩) ⟨185, 28, 185, 41⟩) ⟨185, 16, 185, 41⟩)
 (.cons (.app (.var 7 ⟨186, 16, 186, 21⟩) (.var 5 ⟨186, 29, 186, 30⟩) ⟨186, 16, 186, 28⟩ ⟨186, 16, 186, 31⟩ ⟨186, 16, 186, 31⟩)
 .nil)) .nil ⟨184, 12, 186, 31⟩)
 .nil)) ⟨182, 8, 186, 31⟩)
 .nil))) ⟨179, 4, 186, 31⟩)
 (.cons (.ret (.var 3 ⟨187, 11, 187, 17⟩) ⟨187, 4, 187, 17⟩)
 .nil))))))))
noncomputable def D_solve : FD := ⟨[Str.ofString "sides", Str.ofString "after", Str.ofString "lost", Str.ofString "values", Str.ofString "left", Str.ofString "n", Str.ofString "before", Str.ofString "queue", Str.ofString "m", Str.ofString "at"], [Str.ofString "NO_MATE", Str.ofString "len", Str.ofString "range", Str.ofString "OUTSIDE", Str.ofString "STRONG_MOVES"], [(Str.ofString "sides", .local), (Str.ofString "after", .local), (Str.ofString "lost", .local), (Str.ofString "values", .local), (Str.ofString "left", .local), (Str.ofString "n", .local), (Str.ofString "before", .local), (Str.ofString "queue", .local), (Str.ofString "m", .local), (Str.ofString "at", .local), (Str.ofString "NO_MATE", .globalImplicit), (Str.ofString "len", .globalImplicit), (Str.ofString "range", .globalImplicit), (Str.ofString "OUTSIDE", .globalImplicit), (Str.ofString "STRONG_MOVES", .globalImplicit)], 3, B_solve⟩
theorem F_solve (P : Params) : FOk P 172 D_solve := fok (ps := [(Str.ofString "sides", ⟨165, 10, 165, 15⟩), (Str.ofString "after", ⟨165, 17, 165, 22⟩), (Str.ofString "lost", ⟨165, 24, 165, 28⟩)]) (by kernel_rfl) (by kernel_rfl) (by kernel_rfl) (by kernel_rfl) fun fd h1 h2 h3 xs hl => by
  obtain ⟨n1, n2, n3, n4, n5, n6, n7, n8, n9, n10, n11, n12, n13, n14, n15⟩ := fd
  dsimp only at h1 h2 h3
  subst h1 h2 h3
  obtain ⟨a, b, c, rfl⟩ := len3 hl
  rfl
noncomputable def B_index_of : CSs :=
 (.cons (.ret (.bin .Add (.bin .Mult (.bin .Add (.bin .Mult (.bin .Add (.bin .Mult (.var 1 ⟨189, 13, 189, 17⟩) (.var 0 ⟨189, 20, 189, 24⟩) ⟨189, 13, 189, 24⟩) (.var 2 ⟨189, 27, 189, 33⟩) ⟨189, 13, 189, 33⟩) (.var 0 ⟨189, 37, 189, 41⟩) ⟨189, 12, 189, 41⟩) (.var 3 ⟨189, 44, 189, 49⟩) ⟨189, 12, 189, 49⟩) (.var 0 ⟨189, 53, 189, 57⟩) ⟨189, 11, 189, 57⟩) (.var 4 ⟨189, 60, 189, 64⟩) ⟨189, 11, 189, 64⟩) ⟨189, 4, 189, 64⟩)
 .nil)
noncomputable def D_index_of : FD := ⟨[Str.ofString "size", Str.ofString "side", Str.ofString "strong", Str.ofString "piece", Str.ofString "weak"], [], [(Str.ofString "size", .local), (Str.ofString "side", .local), (Str.ofString "strong", .local), (Str.ofString "piece", .local), (Str.ofString "weak", .local)], 5, B_index_of⟩
theorem F_index_of (P : Params) : FOk P 179 D_index_of := fok (ps := [(Str.ofString "size", ⟨188, 13, 188, 17⟩), (Str.ofString "side", ⟨188, 19, 188, 23⟩), (Str.ofString "strong", ⟨188, 25, 188, 31⟩), (Str.ofString "piece", ⟨188, 33, 188, 38⟩), (Str.ofString "weak", ⟨188, 40, 188, 44⟩)]) (by kernel_rfl) (by kernel_rfl) (by kernel_rfl) (by kernel_rfl) fun fd h1 h2 h3 xs hl => by
  obtain ⟨n1, n2, n3, n4, n5, n6, n7, n8, n9, n10, n11, n12, n13, n14, n15⟩ := fd
  dsimp only at h1 h2 h3
  subst h1 h2 h3
  obtain ⟨a, b, c, d, e, rfl⟩ := len5 hl
  rfl
noncomputable def B_parts_of : CSs :=
 (.cons (.ret (.tup (.cons (.bin .FloorDiv (.var 1 ⟨191, 12, 191, 13⟩) (.bin .Mult (.bin .Mult (.var 0 ⟨191, 18, 191, 22⟩) (.var 0 ⟨191, 25, 191, 29⟩) ⟨191, 18, 191, 29⟩) (.var 0 ⟨191, 32, 191, 36⟩) ⟨191, 18, 191, 36⟩) ⟨191, 12, 191, 37⟩) (.cons (.bin .Mod (.bin .FloorDiv (.var 1 ⟨191, 39, 191, 40⟩) (.bin .Mult (.var 0 ⟨191, 45, 191, 49⟩) (.var 0 ⟨191, 52, 191, 56⟩) ⟨191, 45, 191, 56⟩) ⟨191, 39, 191, 57⟩) (.var 0 ⟨191, 60, 191, 64⟩) ⟨191, 39, 191, 64⟩) (.cons (.bin .Mod (.bin .FloorDiv (.var 1 ⟨191, 66, 191, 67⟩) (.var 0 ⟨191, 71, 191, 75⟩) ⟨191, 66, 191, 75⟩) (.var 0 ⟨191, 78, 191, 82⟩) ⟨191, 66, 191, 82⟩) (.cons (.bin .Mod (.var 1 ⟨191, 84, 191, 85⟩) (.var 0 ⟨191, 88, 191, 92⟩) ⟨191, 84, 191, 92⟩) .nil)))) 0 ⟨191, 11, 191, 93⟩) ⟨191, 4, 191, 93⟩)
 .nil)
noncomputable def D_parts_of : FD := ⟨[Str.ofString "size", Str.ofString "n"], [], [(Str.ofString "size", .local), (Str.ofString "n", .local)], 2, B_parts_of⟩
theorem F_parts_of (P : Params) : FOk P 186 D_parts_of := fok (ps := [(Str.ofString "size", ⟨190, 13, 190, 17⟩), (Str.ofString "n", ⟨190, 19, 190, 20⟩)]) (by kernel_rfl) (by kernel_rfl) (by kernel_rfl) (by kernel_rfl) fun fd h1 h2 h3 xs hl => by
  obtain ⟨n1, n2, n3, n4, n5, n6, n7, n8, n9, n10, n11, n12, n13, n14, n15⟩ := fd
  dsimp only at h1 h2 h3
  subst h1 h2 h3
  obtain ⟨a, b, rfl⟩ := len2 hl
  rfl
noncomputable def B_mark_places : CSs :=
 (.cons (.asg 4 ⟨193, 4, 193, 8⟩ (.attr 0 ⟨193, 11, 193, 14⟩ 2 ⟨193, 11, 193, 19⟩) ⟨193, 4, 193, 19⟩)
 (.cons (.asg 5 ⟨194, 4, 194, 10⟩ (.lst .nil ⟨194, 13, 194, 15⟩) ⟨194, 4, 194, 15⟩)
 (.cons (.for1 6 ⟨195, 8, 195, 14⟩ (.bi .range ⟨195, 18, 195, 23⟩ (.cons (.var 4 ⟨195, 24, 195, 28⟩) .nil) ⟨195, 18, 195, 29⟩) (.cons (.for1 7 ⟨196, 12, 196, 17⟩ (.bi .range ⟨196, 21, 196, 26⟩ (.cons (.var 4 ⟨196, 27, 196, 31⟩) .nil) ⟨196, 21, 196, 32⟩) (.cons (.asg 8 ⟨197, 12, 197, 16⟩ (.bin .BitAnd (.attr 0 ⟨197, 19, 197, 22⟩ 3 ⟨197, 19, 197, 27⟩) (.un .Invert (.bin .BitOr (.bin .BitOr (.sub (.attr 0 ⟨197, 32, 197, 35⟩ 9 ⟨197, 32, 197, 40⟩) (.var 6 ⟨197, 41, 197, 47⟩) ⟨197, 32, 197, 48⟩) (.bin .LShift (.int 1 ⟨197, 51, 197, 52⟩) (.var 6 ⟨197, 56, 197, 62⟩) ⟨197, 51, 197, 62⟩) ⟨197, 32, 197, 62⟩) (.bin .LShift (.int 1 ⟨197, 65, 197, 66⟩) (.var 7 ⟨197, 70, 197, 75⟩) ⟨197, 65, 197, 75⟩) ⟨197, 32, 197, 75⟩) ⟨197, 30, 197, 76⟩) ⟨197, 19, 197, 76⟩) ⟨197, 12, 197, 76⟩)
 (.cons (.ifs (.bop .Or (.cons (.cmp .Eq (.bin .BitAnd (.bin .RShift (.var 2 ⟨198, 15, 198, 19⟩) (.var 6 ⟨198, 23, 198, 29⟩) ⟨198, 15, 198, 29⟩) (.int 1 ⟨198, 32, 198, 33⟩) ⟨198, 15, 198, 33⟩) (.int 0 ⟨198, 37, 198, 38⟩) ⟨198, 15, 198, 38⟩) (.cons (.cmp .Eq (.var 7 ⟨198, 42, 198, 47⟩) (.var 6 ⟨198, 51, 198, 57⟩) ⟨198, 42, 198, 57⟩) (.cons (.cmp .Eq (.var 8 ⟨198, 61, 198, 65⟩) (.int 0 ⟨198, 69, 198, 70⟩) ⟨198, 61, 198, 70⟩) .nil))) ⟨198, 15, 198, 70⟩) (.cons (.cont ⟨199, 16, 199, 24⟩)
 .nil) .nil ⟨198, 12, 199, 24⟩)
 (.cons (.asg 9 ⟨200, 12, 200, 19⟩ (.call 13 ⟨200, 22, 200, 35⟩ (.cons (.var 0 ⟨200, 36, 200, 39⟩) (.cons (.gint 0 ⟨200, 41, 200, 46⟩) (.cons (.var 1 ⟨200, 48, 200, 52⟩) (.cons (.var 7 ⟨200, 54, 200, 59⟩) (.cons (.bin .LShift (.int 1 ⟨200, 61, 200, 62⟩) (.var 6 ⟨200, 66, 200, 72⟩) ⟨200, 61, 200, 72⟩) .nil))))) ⟨200, 22, 200, 73⟩) ⟨200, 12, 200, 73⟩)
 (.cons (.for1 10 ⟨201, 16, 201, 20⟩ (.bi .range ⟨201, 24, 201, 29⟩ (.cons (.var 4 ⟨201, 30, 201, 34⟩) .nil) ⟨201, 24, 201, 35⟩) (.cons (.ifs (.bin .BitAnd (.bin .RShift (.var 8 ⟨202, 19, 202, 23⟩) (.var 10 ⟨202, 27, 202, 31⟩) ⟨202, 19, 202, 31⟩) (.int 1 ⟨202, 34, 202, 35⟩) ⟨202, 19, 202, 35⟩) (.cons (.app (.var 5 ⟨203, 20, 203, 26⟩) (.call 15 ⟨203, 34, 203, 42⟩ (.cons (.var 4 ⟨203, 43, 203, 47⟩) (.cons (.gint 11 ⟨203, 49, 203, 59⟩) (.cons (.var 6 ⟨203, 61, 203, 67⟩) (.cons (.var 7 ⟨203, 69, 203, 74⟩) (.cons (.var 10 ⟨203, 76, 203, 80⟩) .nil))))) ⟨203, 34, 203, 81⟩) ⟨203, 20, 203, 33⟩ ⟨203, 20, 203, 82⟩ ⟨203, 20, 203, 82⟩)
 (.cons (.ifs (.cmp .Eq (.bin .BitAnd (.bin .RShift (.var 9 ⟨204, 23, 204, 30⟩) (.var 10 ⟨204, 34, 204, 38⟩) ⟨204, 23, 204, 38⟩) (.int 1 ⟨204, 41, 204, 42⟩) ⟨204, 23, 204, 42⟩) (.int 0 ⟨204, 46, 204, 47⟩) ⟨204, 23, 204, 47⟩) (.cons (.app (.var 5 ⟨205, 24, 205, 30⟩) (.call 15 ⟨205, 38, 205, 46⟩ (.cons (.var 4 ⟨205, 47, 205, 51⟩) (.cons (.gint 10 ⟨205, 53, 205, 65⟩) (.cons (.var 6 ⟨205, 67, 205, 73⟩) (.cons (.var 7 ⟨205, 75, 205, 80⟩) (.cons (.var 10 ⟨205, 82, 205, 86⟩) .nil))))) ⟨205, 38, 205, 87⟩) ⟨205, 24, 205, 37⟩ ⟨205, 24, 205, 88⟩ ⟨205, 24, 205, 88⟩)
 .nil) .nil ⟨204, 20, 205, 88⟩)
 .nil)) .nil ⟨202, 16, 205, 88⟩)
 .nil) ⟨201, 12, 205, 88⟩)
 .nil)))) ⟨196, 8, 205, 88⟩)
 .nil) ⟨195, 4, 205, 88⟩)
 (.cons (.for1 11 ⟨206, 8, 206, 9⟩ (.var 5 ⟨206, 13, 206, 19⟩) (.cons (.asgI (.var 3 ⟨207, 8, 207, 13⟩) (.var 11 ⟨207, 14, 207, 15⟩) ⟨207, 8, 207, 16⟩ (.gint 8 ⟨207, 19, 207, 26⟩) ⟨207, 8, 207, 26⟩)
 .nil) ⟨206, 4, 207, 26⟩)
 (.cons (.ret (.var 5 ⟨208, 11, 208, 17⟩) ⟨208, 4, 208, 17⟩)
 .nil)))))
noncomputable def D_mark_places : FD := ⟨[Str.ofString "geo", Str.ofString "kind", Str.ofString "zone", Str.ofString "table", Str.ofString "size", Str.ofString "places", Str.ofString "strong", Str.ofString "piece", Str.ofString "free", Str.ofString "checked", Str.ofString "weak", Str.ofString "n"], [Str.ofString "range", Str.ofString "piece_attacks", Str.ofString "WHITE", Str.ofString "index_of", Str.ofString "WEAK_MOVES", Str.ofString "STRONG_MOVES", Str.ofString "NO_MATE"], [(Str.ofString "geo", .local), (Str.ofString "kind", .local), (Str.ofString "zone", .local), (Str.ofString "table", .local), (Str.ofString "size", .local), (Str.ofString "places", .local), (Str.ofString "strong", .local), (Str.ofString "piece", .local), (Str.ofString "free", .local), (Str.ofString "checked", .local), (Str.ofString "weak", .local), (Str.ofString "n", .local), (Str.ofString "range", .globalImplicit), (Str.ofString "piece_attacks", .globalImplicit), (Str.ofString "WHITE", .globalImplicit), (Str.ofString "index_of", .globalImplicit), (Str.ofString "WEAK_MOVES", .globalImplicit), (Str.ofString "STRONG_MOVES", .globalImplicit), (Str.ofString "NO_MATE", .globalImplicit)], 4, B_mark_places⟩
theorem F_mark_places (P : Params) : FOk P 193 D_mark_places := fok (ps := [(Str.ofString "geo", ⟨192, 16, 192, 19⟩), (Str.ofString "kind", ⟨192, 21, 192, 25⟩), (Str.ofString "zone", ⟨192, 27, 192, 31⟩), (Str.ofString "table", ⟨192, 33, 192, 38⟩)]) (by kernel_rfl) (by kernel_rfl) (by kernel_rfl) (by kernel_rfl) fun fd h1 h2 h3 xs hl => by
  obtain ⟨n1, n2, n3, n4, n5, n6, n7, n8, n9, n10, n11, n12, n13, n14, n15⟩ := fd
  dsimp only at h1 h2 h3
  subst h1 h2 h3
  obtain ⟨a, b, c, d, rfl⟩ := len4 hl
  rfl
noncomputable def B_weak_moves : CSs :=
 (.cons (.asg 5 ⟨210, 4, 210, 7⟩ (.lst .nil ⟨210, 10, 210, 12⟩) ⟨210, 4, 210, 12⟩)
 (.cons (.asg 6 ⟨211, 4, 211, 9⟩ (.sub (.attr 0 ⟨211, 12, 211, 15⟩ 9 ⟨211, 12, 211, 20⟩) (.var 4 ⟨211, 21, 211, 25⟩) ⟨211, 12, 211, 26⟩) ⟨211, 4, 211, 26⟩)
 (.cons (.for1 7 ⟨212, 8, 212, 12⟩ (.bi .range ⟨212, 16, 212, 21⟩ (.cons (.attr 0 ⟨212, 22, 212, 25⟩ 2 ⟨212, 22, 212, 30⟩) .nil) ⟨212, 16, 212, 31⟩) (.cons (.ifs (.cmp .Eq (.bin .BitAnd (.bin .RShift (.var 6 ⟨213, 11, 213, 16⟩) (.var 7 ⟨213, 20, 213, 24⟩) ⟨213, 11, 213, 24⟩) (.int 1 ⟨213, 27, 213, 28⟩) ⟨213, 11, 213, 28⟩) (.int 0 ⟨213, 32, 213, 33⟩) ⟨213, 11, 213, 33⟩) (.cons (.cont ⟨214, 12, 214, 20⟩)
 .nil) .nil ⟨213, 8, 214, 20⟩)
 (.cons (.ifs (.cmp .Eq (.var 7 ⟨215, 11, 215, 15⟩) (.var 3 ⟨215, 19, 215, 24⟩) ⟨215, 11, 215, 24⟩) (.cons (.ifs (.cmp .Eq (.bin .BitAnd (.bin .RShift (.sub (.attr 0 ⟨216, 15, 216, 18⟩ 9 ⟨216, 15, 216, 23⟩) (.var 2 ⟨216, 24, 216, 30⟩) ⟨216, 15, 216, 31⟩) (.var 3 ⟨216, 35, 216, 40⟩) ⟨216, 15, 216, 40⟩) (.int 1 ⟨216, 43, 216, 44⟩) ⟨216, 15, 216, 44⟩) (.int 0 ⟨216, 48, 216, 49⟩) ⟨216, 15, 216, 49⟩) (.cons (.app (.var 5 ⟨217, 16, 217, 19⟩) (.tup (.cons (.var 4 ⟨217, 28, 217, 32⟩) (.cons (.var 7 ⟨217, 34, 217, 38⟩) (.cons (.gint 9 ⟨217, 40, 217, 47⟩) .nil))) 0 ⟨217, 27, 217, 48⟩) ⟨217, 16, 217, 26⟩ ⟨217, 16, 217, 49⟩ ⟨217, 16, 217, 49⟩)
 .nil) .nil ⟨216, 12, 217, 49⟩)
 .nil) (.cons (.asg 8 ⟨219, 12, 219, 17⟩ (.call 15 ⟨219, 20, 219, 28⟩ (.cons (.attr 0 ⟨219, 29, 219, 32⟩ 2 ⟨219, 29, 219, 37⟩) (.cons (.gint 10 ⟨219, 39, 219, 51⟩) (.cons (.var 2 ⟨219, 53, 219, 59⟩) (.cons (.var 3 ⟨219, 61, 219, 66⟩) (.cons (.var 7 ⟨219, 68, 219, 72⟩) .nil))))) ⟨219, 20, 219, 73⟩) ⟨219, 12, 219, 73⟩)
 (.cons (.ifs (.cmp .NotEq (.sub (.var 1 ⟨220, 15, 220, 20⟩) (.var 8 ⟨220, 21, 220, 26⟩) ⟨220, 15, 220, 27⟩) (.gint 7 ⟨220, 31, 220, 42⟩) ⟨220, 15, 220, 42⟩) (.cons (.app (.var 5 ⟨221, 16, 221, 19⟩) (.tup (.cons (.var 4 ⟨221, 28, 221, 32⟩) (.cons (.var 7 ⟨221, 34, 221, 38⟩) (.cons (.var 8 ⟨221, 40, 221, 45⟩) .nil))) 0 ⟨221, 27, 221, 46⟩) ⟨221, 16, 221, 26⟩ ⟨221, 16, 221, 47⟩ ⟨221, 16, 221, 47⟩)
 .nil) .nil ⟨220, 12, 221, 47⟩)
 .nil)) ⟨215, 8, 221, 47⟩)
 .nil)) ⟨212, 4, 221, 47⟩)
 (.cons (.ret (.var 5 ⟨222, 11, 222, 14⟩) ⟨222, 4, 222, 14⟩)
 .nil))))
noncomputable def D_weak_moves : FD := ⟨[Str.ofString "geo", Str.ofString "table", Str.ofString "strong", Str.ofString "piece", Str.ofString "weak", Str.ofString "out", Str.ofString "steps", Str.ofString "goal", Str.ofString "place"], [Str.ofString "range", Str.ofString "OUTSIDE", Str.ofString "index_of", Str.ofString "STRONG_MOVES", Str.ofString "NOT_A_PLACE"], [(Str.ofString "geo", .local), (Str.ofString "table", .local), (Str.ofString "strong", .local), (Str.ofString "piece", .local), (Str.ofString "weak", .local), (Str.ofString "out", .local), (Str.ofString "steps", .local), (Str.ofString "goal", .local), (Str.ofString "place", .local), (Str.ofString "range", .globalImplicit), (Str.ofString "OUTSIDE", .globalImplicit), (Str.ofString "index_of", .globalImplicit), (Str.ofString "STRONG_MOVES", .globalImplicit), (Str.ofString "NOT_A_PLACE", .globalImplicit)], 5, B_weak_moves⟩
theorem F_weak_moves (P : Params) : FOk P 200 D_weak_moves := fok (ps := [(Str.ofString "geo", ⟨209, 15, 209, 18⟩), (Str.ofString "table", ⟨209, 20, 209, 25⟩), (Str.ofString "strong", ⟨209, 27, 209, 33⟩), (Str.ofString "piece", ⟨209, 35, 209, 40⟩), (Str.ofString "weak", ⟨209, 42, 209, 46⟩)]) (by kernel_rfl) (by kernel_rfl) (by kernel_rfl) (by kernel_rfl) fun fd h1 h2 h3 xs hl => by
  obtain ⟨n1, n2, n3, n4, n5, n6, n7, n8, n9, n10, n11, n12, n13, n14, n15⟩ := fd
  dsimp only at h1 h2 h3
  subst h1 h2 h3
  obtain ⟨a, b, c, d, e, rfl⟩ := len5 hl
  rfl
noncomputable def B_strong_moves : CSs :=
 (.cons (.asg 6 ⟨224, 4, 224, 7⟩ (.lst .nil ⟨224, 10, 224, 12⟩) ⟨224, 4, 224, 12⟩)
 (.cons (.asg 7 ⟨225, 4, 225, 9⟩ (.sub (.attr 0 ⟨225, 12, 225, 15⟩ 9 ⟨225, 12, 225, 20⟩) (.var 3 ⟨225, 21, 225, 27⟩) ⟨225, 12, 225, 28⟩) ⟨225, 4, 225, 28⟩)
 (.cons (.asg 8 ⟨226, 4, 226, 10⟩ (.call 13 ⟨226, 13, 226, 26⟩ (.cons (.var 0 ⟨226, 27, 226, 30⟩) (.cons (.gint 0 ⟨226, 32, 226, 37⟩) (.cons (.var 2 ⟨226, 39, 226, 43⟩) (.cons (.var 4 ⟨226, 45, 226, 50⟩) (.cons (.bin .BitOr (.bin .LShift (.int 1 ⟨226, 52, 226, 53⟩) (.var 3 ⟨226, 57, 226, 63⟩) ⟨226, 52, 226, 63⟩) (.bin .LShift (.int 1 ⟨226, 66, 226, 67⟩) (.var 5 ⟨226, 71, 226, 75⟩) ⟨226, 66, 226, 75⟩) ⟨226, 52, 226, 75⟩) .nil))))) ⟨226, 13, 226, 76⟩) ⟨226, 4, 226, 76⟩)
 (.cons (.for1 9 ⟨227, 8, 227, 12⟩ (.bi .range ⟨227, 16, 227, 21⟩ (.cons (.attr 0 ⟨227, 22, 227, 25⟩ 2 ⟨227, 22, 227, 30⟩) .nil) ⟨227, 16, 227, 31⟩) (.cons (.ifs (.bin .BitAnd (.bin .RShift (.var 7 ⟨228, 11, 228, 16⟩) (.var 9 ⟨228, 20, 228, 24⟩) ⟨228, 11, 228, 24⟩) (.int 1 ⟨228, 27, 228, 28⟩) ⟨228, 11, 228, 28⟩) (.cons (.asg 10 ⟨229, 12, 229, 17⟩ (.call 15 ⟨229, 20, 229, 28⟩ (.cons (.attr 0 ⟨229, 29, 229, 32⟩ 2 ⟨229, 29, 229, 37⟩) (.cons (.gint 11 ⟨229, 39, 229, 49⟩) (.cons (.var 9 ⟨229, 51, 229, 55⟩) (.cons (.var 4 ⟨229, 57, 229, 62⟩) (.cons (.var 5 ⟨229, 64, 229, 68⟩) .nil))))) ⟨229, 20, 229, 69⟩) ⟨229, 12, 229, 69⟩)
 (.cons (.ifs (.cmp .NotEq (.sub (.var 1 ⟨230, 15, 230, 20⟩) (.var 10 ⟨230, 21, 230, 26⟩) ⟨230, 15, 230, 27⟩) (.gint 7 ⟨230, 31, 230, 42⟩) ⟨230, 15, 230, 42⟩) (.cons (.app (.var 6 ⟨231, 16, 231, 19⟩) (.tup (.cons (.var 3 ⟨231, 28, 231, 34⟩) (.cons (.var 9 ⟨231, 36, 231, 40⟩) (.cons (.var 10 ⟨231, 42, 231, 47⟩) .nil))) 0 ⟨231, 27, 231, 48⟩) ⟨231, 16, 231, 26⟩ ⟨231, 16, 231, 49⟩ ⟨231, 16, 231, 49⟩)
 .nil) .nil ⟨230, 12, 231, 49⟩)
 .nil)) .nil ⟨228, 8, 231, 49⟩)
 .nil) ⟨227, 4, 231, 49⟩)
 (.cons (.for1 9 ⟨232, 8, 232, 12⟩ (.bi .range ⟨232, 16, 232, 21⟩ (.cons (.attr 0 ⟨232, 22, 232, 25⟩ 2 ⟨232, 22, 232, 30⟩) .nil) ⟨232, 16, 232, 31⟩) (.cons (.ifs (.bin .BitAnd (.bin .RShift (.var 8 ⟨233, 11, 233, 17⟩) (.var 9 ⟨233, 21, 233, 25⟩) ⟨233, 11, 233, 25⟩) (.int 1 ⟨233, 28, 233, 29⟩) ⟨233, 11, 233, 29⟩) (.cons (.asg 10 ⟨234, 12, 234, 17⟩ (.call 15 ⟨234, 20, 234, 28⟩ (.cons (.attr 0 ⟨234, 29, 234, 32⟩ 2 ⟨234, 29, 234, 37⟩) (.cons (.gint 11 ⟨234, 39, 234, 49⟩) (.cons (.var 3 ⟨234, 51, 234, 57⟩) (.cons (.var 9 ⟨234, 59, 234, 63⟩) (.cons (.var 5 ⟨234, 65, 234, 69⟩) .nil))))) ⟨234, 20, 234, 70⟩) ⟨234, 12, 234, 70⟩)
 (.cons (.ifs (.cmp .NotEq (.sub (.var 1 ⟨235, 15, 235, 20⟩) (.var 10 ⟨235, 21, 235, 26⟩) ⟨235, 15, 235, 27⟩) (.gint 7 ⟨235, 31, 235, 42⟩) ⟨235, 15, 235, 42⟩) (.cons (.app (.var 6 ⟨236, 16, 236, 19⟩) (.tup (.cons (.var 4 ⟨236, 28, 236, 33⟩) (.cons (.var 9 ⟨236, 35, 236, 39⟩) (.cons (.var 10 ⟨236, 41, 236, 46⟩) .nil))) 0 ⟨236, 27, 236, 47⟩) ⟨236, 16, 236, 26⟩ ⟨236, 16, 236, 48⟩ ⟨236, 16, 236, 48⟩)
 .nil) .nil ⟨235, 12, 236, 48⟩)
 .nil)) .nil ⟨233, 8, 236, 48⟩)
 .nil) ⟨232, 4, 236, 48⟩)
 (.cons (.ret (.var 6 ⟨237, 11, 237, 14⟩) ⟨237, 4, 237, 14⟩)
 .nil))))))
noncomputable def D_strong_moves : FD := ⟨[Str.ofString "geo", Str.ofString "table", Str.ofString "kind", Str.ofString "strong", Str.ofString "piece", Str.ofString "weak", Str.ofString "out", Str.ofString "steps", Str.ofString "slides", Str.ofString "goal", Str.ofString "place"], [Str.ofString "piece_attacks", Str.ofString "WHITE", Str.ofString "range", Str.ofString "index_of", Str.ofString "WEAK_MOVES", Str.ofString "NOT_A_PLACE"], [(Str.ofString "geo", .local), (Str.ofString "table", .local), (Str.ofString "kind", .local), (Str.ofString "strong", .local), (Str.ofString "piece", .local), (Str.ofString "weak", .local), (Str.ofString "out", .local), (Str.ofString "steps", .local), (Str.ofString "slides", .local), (Str.ofString "goal", .local), (Str.ofString "place", .local), (Str.ofString "piece_attacks", .globalImplicit), (Str.ofString "WHITE", .globalImplicit), (Str.ofString "range", .globalImplicit), (Str.ofString "index_of", .globalImplicit), (Str.ofString "WEAK_MOVES", .globalImplicit), (Str.ofString "NOT_A_PLACE", .globalImplicit)], 6, B_strong_moves⟩
theorem F_strong_moves (P : Params) : FOk P 207 D_strong_moves := fok (ps := [(Str.ofString "geo", ⟨223, 17, 223, 20⟩), (Str.ofString "table", ⟨223, 22, 223, 27⟩), (Str.ofString "kind", ⟨223, 29, 223, 33⟩), (Str.ofString "strong", ⟨223, 35, 223, 41⟩), (Str.ofString "piece", ⟨223, 43, 223, 48⟩), (Str.ofString "weak", ⟨223, 50, 223, 54⟩)]) (by kernel_rfl) (by kernel_rfl) (by kernel_rfl) (by kernel_rfl) fun fd h1 h2 h3 xs hl => by
  obtain ⟨n1, n2, n3, n4, n5, n6, n7, n8, n9, n10, n11, n12, n13, n14, n15⟩ := fd
  dsimp only at h1 h2 h3
  subst h1 h2 h3
  obtain ⟨a, b, c, d, e, f, rfl⟩ := len6 hl
  rfl
noncomputable def B_moves_at : CSs :=
 (.cons (.ifs (.cmp .Eq (.var 3 ⟨239, 7, 239, 11⟩) (.gint 11 ⟨239, 15, 239, 25⟩) ⟨239, 7, 239, 25⟩) (.cons (.ret (.call 18 ⟨240, 15, 240, 25⟩ (.cons (.var 0 ⟨240, 26, 240, 29⟩) (.cons (.var 1 ⟨240, 31, 240, 36⟩) (.cons (.var 4 ⟨240, 38, 240, 44⟩) (.cons (.var 5 ⟨240, 46, 240, 51⟩) (.cons (.var 6 ⟨240, 53, 240, 57⟩) .nil))))) ⟨240, 15, 240, 58⟩) ⟨240, 8, 240, 58⟩)
 .nil) .nil ⟨239, 4, 240, 58⟩)
 (.cons (.ret (.call 19 ⟨241, 11, 241, 23⟩ (.cons (.var 0 ⟨241, 24, 241, 27⟩) (.cons (.var 1 ⟨241, 29, 241, 34⟩) (.cons (.var 2 ⟨241, 36, 241, 40⟩) (.cons (.var 4 ⟨241, 42, 241, 48⟩) (.cons (.var 5 ⟨241, 50, 241, 55⟩) (.cons (.var 6 ⟨241, 57, 241, 61⟩) .nil)))))) ⟨241, 11, 241, 62⟩) ⟨241, 4, 241, 62⟩)
 .nil))
noncomputable def D_moves_at : FD := ⟨[Str.ofString "geo", Str.ofString "table", Str.ofString "kind", Str.ofString "side", Str.ofString "strong", Str.ofString "piece", Str.ofString "weak"], [Str.ofString "WEAK_MOVES", Str.ofString "weak_moves", Str.ofString "strong_moves"], [(Str.ofString "geo", .local), (Str.ofString "table", .local), (Str.ofString "kind", .local), (Str.ofString "side", .local), (Str.ofString "strong", .local), (Str.ofString "piece", .local), (Str.ofString "weak", .local), (Str.ofString "WEAK_MOVES", .globalImplicit), (Str.ofString "weak_moves", .globalImplicit), (Str.ofString "strong_moves", .globalImplicit)], 7, B_moves_at⟩
theorem F_moves_at (P : Params) : FOk P 214 D_moves_at := fok (ps := [(Str.ofString "geo", ⟨238, 13, 238, 16⟩), (Str.ofString "table", ⟨238, 18, 238, 23⟩), (Str.ofString "kind", ⟨238, 25, 238, 29⟩), (Str.ofString "side", ⟨238, 31, 238, 35⟩), (Str.ofString "strong", ⟨238, 37, 238, 43⟩), (Str.ofString "piece", ⟨238, 45, 238, 50⟩), (Str.ofString "weak", ⟨238, 52, 238, 56⟩)]) (by kernel_rfl) (by kernel_rfl) (by kernel_rfl) (by kernel_rfl) fun fd h1 h2 h3 xs hl => by
  obtain ⟨n1, n2, n3, n4, n5, n6, n7, n8, n9, n10, n11, n12, n13, n14, n15⟩ := fd
  dsimp only at h1 h2 h3
  subst h1 h2 h3
  obtain ⟨a, b, c, d, e, f, g, rfl⟩ := len7 hl
  rfl
noncomputable def B_build_zone : CSs :=
 (.cons (.ifs (.bop .Or (.cons (.cmp .Lt (.var 1 ⟨243, 7, 243, 11⟩) (.gint 2 ⟨243, 14, 243, 20⟩) ⟨243, 7, 243, 20⟩) (.cons (.cmp .Gt (.var 1 ⟨243, 24, 243, 28⟩) (.gint 5 ⟨243, 31, 243, 36⟩) ⟨243, 24, 243, 36⟩) .nil)) ⟨243, 7, 243, 36⟩) (.cons (.rais (Str.ofString "BadTable") ⟨244, 14, 244, 22⟩ (Str.ofString "no table for this kind") ⟨244, 23, 244, 47⟩ ⟨244, 14, 244, 48⟩ ⟨244, 8, 244, 48⟩)
 .nil) .nil ⟨243, 4, 244, 48⟩)
 (.cons (.asg 3 ⟨245, 4, 245, 8⟩ (.bin .Mult (.bin .Mult (.attr 0 ⟨245, 11, 245, 14⟩ 2 ⟨245, 11, 245, 19⟩) (.attr 0 ⟨245, 22, 245, 25⟩ 2 ⟨245, 22, 245, 30⟩) ⟨245, 11, 245, 30⟩) (.attr 0 ⟨245, 33, 245, 36⟩ 2 ⟨245, 33, 245, 41⟩) ⟨245, 11, 245, 41⟩) ⟨245, 4, 245, 41⟩)
 (.cons (.asg 4 ⟨246, 4, 246, 9⟩ (.bin .Mult (.lst (.cons (.gint 7 ⟨246, 13, 246, 24⟩) .nil) ⟨246, 12, 246, 25⟩) (.bin .Mult (.int 2 ⟨246, 29, 246, 30⟩) (.var 3 ⟨246, 33, 246, 37⟩) ⟨246, 29, 246, 37⟩) ⟨246, 12, 246, 38⟩) ⟨246, 4, 246, 38⟩)
 (.cons (.asg 5 ⟨247, 4, 247, 10⟩ (.call 17 ⟨247, 13, 247, 24⟩ (.cons (.var 0 ⟨247, 25, 247, 28⟩) (.cons (.var 1 ⟨247, 30, 247, 34⟩) (.cons (.var 2 ⟨247, 36, 247, 40⟩) (.cons (.var 4 ⟨247, 42, 247, 47⟩) .nil)))) ⟨247, 13, 247, 48⟩) ⟨247, 4, 247, 48⟩)
 (.cons (.asg 6 ⟨248, 4, 248, 9⟩ (.idict 9 ⟨248, 13, 248, 20⟩ ⟨248, 22, 248, 29⟩ ⟨248, 12, 248, 30⟩) ⟨248, 4, 248, 30⟩)
 (.cons (.for1 7 ⟨249, 8, 249, 9⟩ (.bi .range ⟨249, 13, 249, 18⟩ (.cons (.bi .len ⟨249, 19, 249, 22⟩ (.cons (.var 5 ⟨249, 23, 249, 29⟩) .nil) ⟨249, 19, 249, 30⟩) .nil) ⟨249, 13, 249, 31⟩) (.cons (.asgI (.var 6 ⟨250, 8, 250, 13⟩) (.sub (.var 5 ⟨250, 14, 250, 20⟩) (.var 7 ⟨250, 21, 250, 22⟩) ⟨250, 14, 250, 23⟩) ⟨250, 8, 250, 24⟩ (.var 7 ⟨250, 27, 250, 28⟩) ⟨250, 8, 250, 28⟩)
 .nil) ⟨249, 4, 250, 28⟩)
 (.cons (.asg 8 ⟨251, 4, 251, 9⟩ (.lst .nil ⟨251, 12, 251, 14⟩) ⟨251, 4, 251, 14⟩)
 (.cons (.asg 9 ⟨252, 4, 252, 9⟩ (.lst .nil ⟨252, 12, 252, 14⟩) ⟨252, 4, 252, 14⟩)
 (.cons (.asg 10 ⟨253, 4, 253, 8⟩ (.lst .nil ⟨253, 11, 253, 13⟩) ⟨253, 4, 253, 13⟩)
 (.cons (.for1 11 ⟨254, 8, 254, 9⟩ (.var 5 ⟨254, 13, 254, 19⟩) (.cons (.asgT [(12, ⟨255, 8, 255, 12⟩), (13, ⟨255, 14, 255, 20⟩), (14, ⟨255, 22, 255, 27⟩), (15, ⟨255, 29, 255, 33⟩)] 0 ⟨255, 8, 255, 33⟩ (.call 16 ⟨255, 36, 255, 44⟩ (.cons (.attr 0 ⟨255, 45, 255, 48⟩ 2 ⟨255, 45, 255, 53⟩) (.cons (.var 11 ⟨255, 55, 255, 56⟩) .nil)) ⟨255, 36, 255, 57⟩) ⟨255, 8, 255, 57⟩)
 (.cons (.asg 16 ⟨256, 8, 256, 11⟩ (.lst .nil ⟨256, 14, 256, 16⟩) ⟨256, 8, 256, 16⟩)
 (.cons (.forT [(17, ⟨257, 12, 257, 18⟩), (18, ⟨257, 20, 257, 24⟩), (19, ⟨257, 26, 257, 31⟩)] 0 ⟨257, 12, 257, 31⟩ (.call 20 ⟨257, 35, 257, 43⟩ (.cons (.var 0 ⟨257, 44, 257, 47⟩) (.cons (.var 4 ⟨257, 49, 257, 54⟩) (.cons (.var 1 ⟨257, 56, 257, 60⟩) (.cons (.var 12 ⟨257, 62, 257, 66⟩) (.cons (.var 13 ⟨257, 68, 257, 74⟩) (.cons (.var 14 ⟨257, 76, 257, 81⟩) (.cons (.var 15 ⟨257, 83, 257, 87⟩) .nil))))))) ⟨257, 35, 257, 88⟩) (.cons (.app (.var 16 ⟨258, 12, 258, 15⟩) (.sub (.var 6 ⟨258, 23, 258, 28⟩) (.var 19 ⟨258, 29, 258, 34⟩) ⟨258, 23, 258, 35⟩) ⟨258, 12, 258, 22⟩ ⟨258, 12, 258, 36⟩ ⟨258, 12, 258, 36⟩)
 .nil) ⟨257, 8, 258, 36⟩)
 (.cons (.app (.var 8 ⟨259, 8, 259, 13⟩) (.var 12 ⟨259, 21, 259, 25⟩) ⟨259, 8, 259, 20⟩ ⟨259, 8, 259, 26⟩ ⟨259, 8, 259, 26⟩)
 (.cons (.app (.var 9 ⟨260, 8, 260, 13⟩) (.var 16 ⟨260, 21, 260, 24⟩) ⟨260, 8, 260, 20⟩ ⟨260, 8, 260, 25⟩ ⟨260, 8, 260, 25⟩)
 (.cons (.app (.var 10 ⟨261, 8, 261, 12⟩) (.bop .And (.cons (.cmp .Eq (.var 12 ⟨261, 20, 261, 24⟩) (.gint 11 ⟨261, 28, 261, 38⟩) ⟨261, 20, 261, 38⟩) (.cons (.cmp .Eq (.var 16 ⟨261, 43, 261, 46⟩) (.lst .nil ⟨261, 50, 261, 52⟩) ⟨261, 43, 261, 52⟩) (.cons (.cmp .Eq (.sub (.var 4 ⟨261, 58, 261, 63⟩) (.bin .Sub (.var 11 ⟨261, 64, 261, 65⟩) (.var 3 ⟨261, 68, 261, 72⟩) ⟨261, 64, 261, 72⟩) ⟨261, 58, 261, 73⟩) (.gint 7 ⟨261, 77, 261, 88⟩) ⟨261, 58, 261, 88⟩) .nil))) ⟨261, 20, 261, 89⟩) ⟨261, 8, 261, 19⟩ ⟨261, 8, 261, 90⟩ ⟨261, 8, 261, 90⟩)
 .nil)))))) ⟨254, 4, 261, 90⟩)
 (.cons (.asg 20 ⟨262, 4, 262, 10⟩ (.call 14 ⟨262, 13, 262, 18⟩ (.cons (.var 8 ⟨262, 19, 262, 24⟩) (.cons (.var 9 ⟨262, 26, 262, 31⟩) (.cons (.var 10 ⟨262, 33, 262, 37⟩) .nil))) ⟨262, 13, 262, 38⟩) ⟨262, 4, 262, 38⟩)
 (.cons (.for1 7 ⟨263, 8, 263, 9⟩ (.bi .range ⟨263, 13, 263, 18⟩ (.cons (.bi .len ⟨263, 19, 263, 22⟩ (.cons (.var 5 ⟨263, 23, 263, 29⟩) .nil) ⟨263, 19, 263, 30⟩) .nil) ⟨263, 13, 263, 31⟩) (.cons (.asgI (.var 4 ⟨264, 8, 264, 13⟩) (.sub (.var 5 ⟨264, 14, 264, 20⟩) (.var 7 ⟨264, 21, 264, 22⟩) ⟨264, 14, 264, 23⟩) ⟨264, 8, 264, 24⟩ (.sub (.var 20 ⟨264, 27, 264, 33⟩) (.var 7 ⟨264, 34, 264, 35⟩) ⟨264, 27, 264, 36⟩) ⟨264, 8, 264, 36⟩)
 .nil) ⟨263, 4, 264, 36⟩)
 (.cons (.ret (.var 4 ⟨265, 11, 265, 16⟩) ⟨265, 4, 265, 16⟩)
 .nil)))))))))))))
noncomputable def D_build_zone : FD := ⟨[Str.ofString "geo", Str.ofString "kind", Str.ofString "zone", Str.ofString "half", Str.ofString "table", Str.ofString "places", Str.ofString "where", Str.ofString "k", Str.ofString "sides", Str.ofString "after", Str.ofString "lost", Str.ofString "n", Str.ofString "side", Str.ofString "strong", Str.ofString "piece", Str.ofString "weak", Str.ofString "row", Str.ofString "origin", Str.ofString "goal", Str.ofString "place", Str.ofString "values"], [Str.ofString "KNIGHT", Str.ofString "QUEEN", Str.ofString "BadTable", Str.ofString "NOT_A_PLACE", Str.ofString "mark_places", Str.ofString "OUTSIDE", Str.ofString "range", Str.ofString "len", Str.ofString "parts_of", Str.ofString "moves_at", Str.ofString "WEAK_MOVES", Str.ofString "solve"], [(Str.ofString "geo", .local), (Str.ofString "kind", .local), (Str.ofString "zone", .local), (Str.ofString "half", .local), (Str.ofString "table", .local), (Str.ofString "places", .local), (Str.ofString "where", .local), (Str.ofString "k", .local), (Str.ofString "sides", .local), (Str.ofString "after", .local), (Str.ofString "lost", .local), (Str.ofString "n", .local), (Str.ofString "side", .local), (Str.ofString "strong", .local), (Str.ofString "piece", .local), (Str.ofString "weak", .local), (Str.ofString "row", .local), (Str.ofString "origin", .local), (Str.ofString "goal", .local), (Str.ofString "place", .local), (Str.ofString "values", .local), (Str.ofString "KNIGHT", .globalImplicit), (Str.ofString "QUEEN", .globalImplicit), (Str.ofString "BadTable", .globalImplicit), (Str.ofString "NOT_A_PLACE", .globalImplicit), (Str.ofString "mark_places", .globalImplicit), (Str.ofString "OUTSIDE", .globalImplicit), (Str.ofString "range", .globalImplicit), (Str.ofString "len", .globalImplicit), (Str.ofString "parts_of", .globalImplicit), (Str.ofString "moves_at", .globalImplicit), (Str.ofString "WEAK_MOVES", .globalImplicit), (Str.ofString "solve", .globalImplicit)], 3, B_build_zone⟩
theorem F_build_zone (P : Params) : FOk P 221 D_build_zone := fok (ps := [(Str.ofString "geo", ⟨242, 15, 242, 18⟩), (Str.ofString "kind", ⟨242, 20, 242, 24⟩), (Str.ofString "zone", ⟨242, 26, 242, 30⟩)]) (by kernel_rfl) (by kernel_rfl) (by kernel_rfl) (by kernel_rfl) fun fd h1 h2 h3 xs hl => by
  obtain ⟨n1, n2, n3, n4, n5, n6, n7, n8, n9, n10, n11, n12, n13, n14, n15⟩ := fd
  dsimp only at h1 h2 h3
  subst h1 h2 h3
  obtain ⟨a, b, c, rfl⟩ := len3 hl
  rfl
noncomputable def B_probe : CSs :=
 (.cons (.asg 7 ⟨267, 4, 267, 8⟩ (.attr 0 ⟨267, 11, 267, 14⟩ 2 ⟨267, 11, 267, 19⟩) ⟨267, 4, 267, 19⟩)
 (.cons (.ifs (.bop .Or (.cons (.cmp .Lt (.var 2 ⟨268, 7, 268, 11⟩) (.gint 2 ⟨268, 14, 268, 20⟩) ⟨268, 7, 268, 20⟩) (.cons (.cmp .Gt (.var 2 ⟨268, 24, 268, 28⟩) (.gint 5 ⟨268, 31, 268, 36⟩) ⟨268, 24, 268, 36⟩) .nil)) ⟨268, 7, 268, 36⟩) (.cons (.rais (Str.ofString "BadTable") ⟨269, 14, 269, 22⟩ (Str.ofString "no table for this kind") ⟨269, 23, 269, 47⟩ ⟨269, 14, 269, 48⟩ ⟨269, 8, 269, 48⟩)
 .nil) .nil ⟨268, 4, 269, 48⟩)
 (.cons (.ifs (.cmp .NotEq (.bi .len ⟨270, 7, 270, 10⟩ (.cons (.var 1 ⟨270, 11, 270, 16⟩) .nil) ⟨270, 7, 270, 17⟩) (.bin .Mult (.bin .Mult (.bin .Mult (.int 2 ⟨270, 21, 270, 22⟩) (.var 7 ⟨270, 25, 270, 29⟩) ⟨270, 21, 270, 29⟩) (.var 7 ⟨270, 32, 270, 36⟩) ⟨270, 21, 270, 36⟩) (.var 7 ⟨270, 39, 270, 43⟩) ⟨270, 21, 270, 43⟩) ⟨270, 7, 270, 43⟩) (.cons (.rais (Str.ofString "BadTable") ⟨271, 14, 271, 22⟩ (Str.ofString "the table is of another shape") ⟨271, 23, 271, 54⟩ ⟨271, 14, 271, 55⟩ ⟨271, 8, 271, 55⟩)
 .nil) .nil ⟨270, 4, 271, 55⟩)
 (.cons (.ifs (.bop .And (.cons (.cmp .NotEq (.var 3 ⟨272, 7, 272, 11⟩) (.gint 10 ⟨272, 15, 272, 27⟩) ⟨272, 7, 272, 27⟩) (.cons (.cmp .NotEq (.var 3 ⟨272, 32, 272, 36⟩) (.gint 11 ⟨272, 40, 272, 50⟩) ⟨272, 32, 272, 50⟩) .nil)) ⟨272, 7, 272, 50⟩) (.cons (.rais (Str.ofString "BadTable") ⟨273, 14, 273, 22⟩ (Str.ofString "no such side") ⟨273, 23, 273, 37⟩ ⟨273, 14, 273, 38⟩ ⟨273, 8, 273, 38⟩)
 .nil) .nil ⟨272, 4, 273, 38⟩)
 (.cons (.for1 8 ⟨274, 8, 274, 14⟩ (.tup (.cons (.var 4 ⟨274, 19, 274, 25⟩) (.cons (.var 5 ⟨274, 27, 274, 32⟩) (.cons (.var 6 ⟨274, 34, 274, 38⟩) .nil))) 0 ⟨274, 18, 274, 39⟩) (.cons (.ifs (.bop .Or (.cons (.cmp .Lt (.var 8 ⟨275, 11, 275, 17⟩) (.int 0 ⟨275, 20, 275, 21⟩) ⟨275, 11, 275, 21⟩) (.cons (.cmp .GtE (.var 8 ⟨275, 25, 275, 31⟩) (.var 7 ⟨275, 35, 275, 39⟩) ⟨275, 25, 275, 39⟩) .nil)) ⟨275, 11, 275, 39⟩) (.cons (.rais (Str.ofString "BadTable") ⟨276, 18, 276, 26⟩ (Str.ofString "no such square") ⟨276, 27, 276, 43⟩ ⟨276, 18, 276, 44⟩ ⟨276, 12, 276, 44⟩)
 .nil) .nil ⟨275, 8, 276, 44⟩)
 .nil) ⟨274, 4, 276, 44⟩)
 (.cons (.ret (.sub (.var 1 ⟨277, 11, 277, 16⟩) (.call 15 ⟨277, 17, 277, 25⟩ (.cons (.var 7 ⟨277, 26, 277, 30⟩) (.cons (.var 3 ⟨277, 32, 277, 36⟩) (.cons (.var 4 ⟨277, 38, 277, 44⟩) (.cons (.var 5 ⟨277, 46, 277, 51⟩) (.cons (.var 6 ⟨277, 53, 277, 57⟩) .nil))))) ⟨277, 17, 277, 58⟩) ⟨277, 11, 277, 59⟩) ⟨277, 4, 277, 59⟩)
 .nil))))))
noncomputable def D_probe : FD := ⟨[Str.ofString "geo", Str.ofString "table", Str.ofString "kind", Str.ofString "side", Str.ofString "strong", Str.ofString "piece", Str.ofString "weak", Str.ofString "size", Str.ofString "square"], [Str.ofString "KNIGHT", Str.ofString "QUEEN", Str.ofString "BadTable", Str.ofString "len", Str.ofString "STRONG_MOVES", Str.ofString "WEAK_MOVES", Str.ofString "index_of"], [(Str.ofString "geo", .local), (Str.ofString "table", .local), (Str.ofString "kind", .local), (Str.ofString "side", .local), (Str.ofString "strong", .local), (Str.ofString "piece", .local), (Str.ofString "weak", .local), (Str.ofString "size", .local), (Str.ofString "square", .local), (Str.ofString "KNIGHT", .globalImplicit), (Str.ofString "QUEEN", .globalImplicit), (Str.ofString "BadTable", .globalImplicit), (Str.ofString "len", .globalImplicit), (Str.ofString "STRONG_MOVES", .globalImplicit), (Str.ofString "WEAK_MOVES", .globalImplicit), (Str.ofString "index_of", .globalImplicit)], 7, B_probe⟩
theorem F_probe (P : Params) : FOk P 228 D_probe := fok (ps := [(Str.ofString "geo", ⟨266, 10, 266, 13⟩), (Str.ofString "table", ⟨266, 15, 266, 20⟩), (Str.ofString "kind", ⟨266, 22, 266, 26⟩), (Str.ofString "side", ⟨266, 28, 266, 32⟩), (Str.ofString "strong", ⟨266, 34, 266, 40⟩), (Str.ofString "piece", ⟨266, 42, 266, 47⟩), (Str.ofString "weak", ⟨266, 49, 266, 53⟩)]) (by kernel_rfl) (by kernel_rfl) (by kernel_rfl) (by kernel_rfl) fun fd h1 h2 h3 xs hl => by
  obtain ⟨n1, n2, n3, n4, n5, n6, n7, n8, n9, n10, n11, n12, n13, n14, n15⟩ := fd
  dsimp only at h1 h2 h3
  subst h1 h2 h3
  obtain ⟨a, b, c, d, e, f, g, rfl⟩ := len7 hl
  rfl
noncomputable def B_best_move : CSs :=
 (.cons (.asg 7 ⟨279, 4, 279, 8⟩ (.tup (.cons (.un .USub (.int 1 ⟨279, 13, 279, 14⟩) ⟨279, 12, 279, 14⟩) (.cons (.un .USub (.int 1 ⟨279, 17, 279, 18⟩) ⟨279, 16, 279, 18⟩) .nil)) 0 ⟨279, 11, 279, 19⟩) ⟨279, 4, 279, 19⟩)
 (.cons (.ifs (.cmp .Eq (.call 22 ⟨280, 7, 280, 12⟩ (.cons (.var 0 ⟨280, 13, 280, 16⟩) (.cons (.var 1 ⟨280, 18, 280, 23⟩) (.cons (.var 2 ⟨280, 25, 280, 29⟩) (.cons (.var 3 ⟨280, 31, 280, 35⟩) (.cons (.var 4 ⟨280, 37, 280, 43⟩) (.cons (.var 5 ⟨280, 45, 280, 50⟩) (.cons (.var 6 ⟨280, 52, 280, 56⟩) .nil))))))) ⟨280, 7, 280, 57⟩) (.gint 7 ⟨280, 61, 280, 72⟩) ⟨280, 7, 280, 72⟩) (.cons (.ret (.var 7 ⟨281, 15, 281, 19⟩) ⟨281, 8, 281, 19⟩)
 .nil) .nil ⟨280, 4, 281, 19⟩)
 (.cons (.asg 8 ⟨282, 4, 282, 7⟩ (.int 0 ⟨282, 10, 282, 11⟩) ⟨282, 4, 282, 11⟩)
 (.cons (.forT [(9, ⟨283, 8, 283, 14⟩), (10, ⟨283, 16, 283, 20⟩), (11, ⟨283, 22, 283, 27⟩)] 0 ⟨283, 8, 283, 27⟩ (.call 20 ⟨283, 31, 283, 39⟩ (.cons (.var 0 ⟨283, 40, 283, 43⟩) (.cons (.var 1 ⟨283, 45, 283, 50⟩) (.cons (.var 2 ⟨283, 52, 283, 56⟩) (.cons (.var 3 ⟨283, 58, 283, 62⟩) (.cons (.var 4 ⟨283, 64, 283, 70⟩) (.cons (.var 5 ⟨283, 72, 283, 77⟩) (.cons (.var 6 ⟨283, 79, 283, 83⟩) .nil))))))) ⟨283, 31, 283, 84⟩) (.cons (.asg 12 ⟨284, 8, 284, 13⟩ (.bi .len ⟨284, 16, 284, 19⟩ (.cons (.var 1 ⟨284, 20, 284, 25⟩) .nil) ⟨284, 16, 284, 26⟩) ⟨284, 8, 284, 26⟩)
 (.cons (.ifs (.bop .And (.cons (.cmp .NotEq (.var 11 ⟨285, 11, 285, 16⟩) (.gint 9 ⟨285, 20, 285, 27⟩) ⟨285, 11, 285, 27⟩) (.cons (.cmp .NotEq (.sub (.var 1 ⟨285, 32, 285, 37⟩) (.var 11 ⟨285, 38, 285, 43⟩) ⟨285, 32, 285, 44⟩) (.gint 8 ⟨285, 48, 285, 55⟩) ⟨285, 32, 285, 55⟩) .nil)) ⟨285, 11, 285, 55⟩) (.cons (.asg 12 ⟨286, 12, 286, 17⟩ (.sub (.var 1 ⟨286, 20, 286, 25⟩) (.var 11 ⟨286, 26, 286, 31⟩) ⟨286, 20, 286, 32⟩) ⟨286, 12, 286, 32⟩)
 .nil) .nil ⟨285, 8, 286, 32⟩)
 (.cons (.ifs (.cmp .Eq (.var 3 ⟨287, 11, 287, 15⟩) (.gint 10 ⟨287, 19, 287, 31⟩) ⟨287, 11, 287, 31⟩) (.cons (.asg 12 ⟨288, 12, 288, 17⟩ (.un .USub (.var 12 ⟨288, 21, 288, 26⟩) ⟨288, 20, 288, 26⟩) ⟨288, 12, 288, 26⟩)
 .nil) .nil ⟨287, 8, 288, 26⟩)
 (.cons (.ifs (.bop .Or (.cons (.cmp .Eq (.var 7 ⟨289, 11, 289, 15⟩) (.tup (.cons (.un .USub (.int 1 ⟨289, 21, 289, 22⟩) ⟨289, 20, 289, 22⟩) (.cons (.un .USub (.int 1 ⟨289, 25, 289, 26⟩) ⟨289, 24, 289, 26⟩) .nil)) 0 ⟨289, 19, 289, 27⟩) ⟨289, 11, 289, 27⟩) (.cons (.cmp .Gt (.var 12 ⟨289, 31, 289, 36⟩) (.var 8 ⟨289, 39, 289, 42⟩) ⟨289, 31, 289, 42⟩) .nil)) ⟨289, 11, 289, 42⟩) (.cons (.asg 7 ⟨290, 12, 290, 16⟩ (.tup (.cons (.var 9 ⟨290, 20, 290, 26⟩) (.cons (.var 10 ⟨290, 28, 290, 32⟩) .nil)) 0 ⟨290, 19, 290, 33⟩) ⟨290, 12, 290, 33⟩)
 (.cons (.asg 8 ⟨291, 12, 291, 15⟩ (.var 12 ⟨291, 18, 291, 23⟩) ⟨291, 12, 291, 23⟩)
 .nil)) .nil ⟨289, 8, 291, 23⟩)
 .nil)))) ⟨283, 4, 291, 23⟩)
 (.cons (.ret (.var 7 ⟨292, 11, 292, 15⟩) ⟨292, 4, 292, 15⟩)
 .nil)))))
noncomputable def D_best_move : FD := ⟨[Str.ofString "geo", Str.ofString "table", Str.ofString "kind", Str.ofString "side", Str.ofString "strong", Str.ofString "piece", Str.ofString "weak", Str.ofString "best", Str.ofString "top", Str.ofString "origin", Str.ofString "goal", Str.ofString "place", Str.ofString "worth"], [Str.ofString "probe", Str.ofString "NOT_A_PLACE", Str.ofString "moves_at", Str.ofString "len", Str.ofString "OUTSIDE", Str.ofString "NO_MATE", Str.ofString "STRONG_MOVES"], [(Str.ofString "geo", .local), (Str.ofString "table", .local), (Str.ofString "kind", .local), (Str.ofString "side", .local), (Str.ofString "strong", .local), (Str.ofString "piece", .local), (Str.ofString "weak", .local), (Str.ofString "best", .local), (Str.ofString "top", .local), (Str.ofString "origin", .local), (Str.ofString "goal", .local), (Str.ofString "place", .local), (Str.ofString "worth", .local), (Str.ofString "probe", .globalImplicit), (Str.ofString "NOT_A_PLACE", .globalImplicit), (Str.ofString "moves_at", .globalImplicit), (Str.ofString "len", .globalImplicit), (Str.ofString "OUTSIDE", .globalImplicit), (Str.ofString "NO_MATE", .globalImplicit), (Str.ofString "STRONG_MOVES", .globalImplicit)], 7, B_best_move⟩
theorem F_best_move (P : Params) : FOk P 235 D_best_move := fok (ps := [(Str.ofString "geo", ⟨278, 14, 278, 17⟩), (Str.ofString "table", ⟨278, 19, 278, 24⟩), (Str.ofString "kind", ⟨278, 26, 278, 30⟩), (Str.ofString "side", ⟨278, 32, 278, 36⟩), (Str.ofString "strong", ⟨278, 38, 278, 44⟩), (Str.ofString "piece", ⟨278, 46, 278, 51⟩), (Str.ofString "weak", ⟨278, 53, 278, 57⟩)]) (by kernel_rfl) (by kernel_rfl) (by kernel_rfl) (by kernel_rfl) fun fd h1 h2 h3 xs hl => by
  obtain ⟨n1, n2, n3, n4, n5, n6, n7, n8, n9, n10, n11, n12, n13, n14, n15⟩ := fd
  dsimp only at h1 h2 h3
  subst h1 h2 h3
  obtain ⟨a, b, c, d, e, f, g, rfl⟩ := len7 hl
  rfl
noncomputable def B_mate_line : CSs :=
 (.cons (.asg 7 ⟨294, 4, 294, 7⟩ (.lst .nil ⟨294, 10, 294, 12⟩) ⟨294, 4, 294, 12⟩)
 (.cons (.asg 8 ⟨295, 4, 295, 9⟩ (.call 22 ⟨295, 12, 295, 17⟩ (.cons (.var 0 ⟨295, 18, 295, 21⟩) (.cons (.var 1 ⟨295, 23, 295, 28⟩) (.cons (.var 2 ⟨295, 30, 295, 34⟩) (.cons (.var 3 ⟨295, 36, 295, 40⟩) (.cons (.var 4 ⟨295, 42, 295, 48⟩) (.cons (.var 5 ⟨295, 50, 295, 55⟩) (.cons (.var 6 ⟨295, 57, 295, 61⟩) .nil))))))) ⟨295, 12, 295, 62⟩) ⟨295, 4, 295, 62⟩)
 (.cons (.whl (.cmp .Gt (.var 8 ⟨296, 10, 296, 15⟩) (.int 0 ⟨296, 18, 296, 19⟩) ⟨296, 10, 296, 19⟩) (.cons (.asgT [(9, ⟨297, 8, 297, 14⟩), (10, ⟨297, 16, 297, 20⟩)] 0 ⟨297, 8, 297, 20⟩ (.call 23 ⟨297, 23, 297, 32⟩ (.cons (.var 0 ⟨297, 33, 297, 36⟩) (.cons (.var 1 ⟨297, 38, 297, 43⟩) (.cons (.var 2 ⟨297, 45, 297, 49⟩) (.cons (.var 3 ⟨297, 51, 297, 55⟩) (.cons (.var 4 ⟨297, 57, 297, 63⟩) (.cons (.var 5 ⟨297, 65, 297, 70⟩) (.cons (.var 6 ⟨297, 72, 297, 76⟩) .nil))))))) ⟨297, 23, 297, 77⟩) ⟨297, 8, 297, 77⟩)
 (.cons (.app (.var 7 ⟨298, 8, 298, 11⟩) (.tup (.cons (.var 9 ⟨298, 20, 298, 26⟩) (.cons (.var 10 ⟨298, 28, 298, 32⟩) .nil)) 0 ⟨298, 19, 298, 33⟩) ⟨298, 8, 298, 18⟩ ⟨298, 8, 298, 34⟩ ⟨298, 8, 298, 34⟩)
 (.cons (.ifs (.cmp .Eq (.var 9 ⟨299, 11, 299, 17⟩) (.var 4 ⟨299, 21, 299, 27⟩) ⟨299, 11, 299, 27⟩) (.cons (.asg 4 ⟨300, 12, 300, 18⟩ (.var 10 ⟨300, 21, 300, 25⟩) ⟨300, 12, 300, 25⟩)
 .nil) (.cons (.ifs (.cmp .Eq (.var 9 ⟨301, 13, 301, 19⟩) (.var 5 ⟨301, 23, 301, 28⟩) ⟨301, 13, 301, 28⟩) (.cons (.asg 5 ⟨302, 12, 302, 17⟩ (.var 10 ⟨302, 20, 302, 24⟩) ⟨302, 12, 302, 24⟩)
 .nil) (.cons (.asg 6 ⟨304, 12, 304, 16⟩ (.var 10 ⟨304, 19, 304, 23⟩) ⟨304, 12, 304, 23⟩)
 .nil) ⟨301, 8, 304, 23⟩)
 .nil) ⟨299, 8, 304, 23⟩)
 (.cons (.asg 3 ⟨305, 8, 305, 12⟩ (.bin .Sub (.int 1 ⟨305, 15, 305, 16⟩) (.var 3 ⟨305, 19, 305, 23⟩) ⟨305, 15, 305, 23⟩) ⟨305, 8, 305, 23⟩)
 (.cons (.aug 8 ⟨306, 8, 306, 13⟩ .Sub (.int 1 ⟨306, 17, 306, 18⟩) ⟨306, 8, 306, 18⟩)
 .nil))))) ⟨296, 4, 306, 18⟩)
 (.cons (.ret (.var 7 ⟨307, 11, 307, 14⟩) ⟨307, 4, 307, 14⟩)
 .nil))))
noncomputable def D_mate_line : FD := ⟨[Str.ofString "geo", Str.ofString "table", Str.ofString "kind", Str.ofString "side", Str.ofString "strong", Str.ofString "piece", Str.ofString "weak", Str.ofString "out", Str.ofString "plies", Str.ofString "origin", Str.ofString "goal"], [Str.ofString "probe", Str.ofString "best_move"], [(Str.ofString "geo", .local), (Str.ofString "table", .local), (Str.ofString "kind", .local), (Str.ofString "side", .local), (Str.ofString "strong", .local), (Str.ofString "piece", .local), (Str.ofString "weak", .local), (Str.ofString "out", .local), (Str.ofString "plies", .local), (Str.ofString "origin", .local), (Str.ofString "goal", .local), (Str.ofString "probe", .globalImplicit), (Str.ofString "best_move", .globalImplicit)], 7, B_mate_line⟩
theorem F_mate_line (P : Params) : FOk P 242 D_mate_line := fok (ps := [(Str.ofString "geo", ⟨293, 14, 293, 17⟩), (Str.ofString "table", ⟨293, 19, 293, 24⟩), (Str.ofString "kind", ⟨293, 26, 293, 30⟩), (Str.ofString "side", ⟨293, 32, 293, 36⟩), (Str.ofString "strong", ⟨293, 38, 293, 44⟩), (Str.ofString "piece", ⟨293, 46, 293, 51⟩), (Str.ofString "weak", ⟨293, 53, 293, 57⟩)]) (by kernel_rfl) (by kernel_rfl) (by kernel_rfl) (by kernel_rfl) fun fd h1 h2 h3 xs hl => by
  obtain ⟨n1, n2, n3, n4, n5, n6, n7, n8, n9, n10, n11, n12, n13, n14, n15⟩ := fd
  dsimp only at h1 h2 h3
  subst h1 h2 h3
  obtain ⟨a, b, c, d, e, f, g, rfl⟩ := len7 hl
  rfl
noncomputable def B_law_figure : CSs :=
 (.cons (.ret (.ife (.cmp .Lt (.var 1 ⟨310, 27, 310, 31⟩) (.bi .len ⟨310, 34, 310, 37⟩ (.cons (.var 0 ⟨310, 38, 310, 44⟩) .nil) ⟨310, 34, 310, 45⟩) ⟨310, 27, 310, 45⟩) (.sub (.var 0 ⟨310, 11, 310, 17⟩) (.var 1 ⟨310, 18, 310, 22⟩) ⟨310, 11, 310, 23⟩) (.bin .Add (.bin .Mult (.bin .Mult (.int 5 ⟨310, 51, 310, 52⟩) (.var 1 ⟨310, 55, 310, 59⟩) ⟨310, 51, 310, 59⟩) (.var 1 ⟨310, 62, 310, 66⟩) ⟨310, 51, 310, 66⟩) (.bin .Mult (.int 3 ⟨310, 69, 310, 70⟩) (.var 1 ⟨310, 73, 310, 77⟩) ⟨310, 69, 310, 77⟩) ⟨310, 51, 310, 77⟩) ⟨310, 11, 310, 77⟩) ⟨310, 4, 310, 77⟩)
 .nil)
noncomputable def D_law_figure : FD := ⟨[Str.ofString "script", Str.ofString "spot"], [Str.ofString "len"], [(Str.ofString "script", .local), (Str.ofString "spot", .local), (Str.ofString "len", .globalImplicit)], 2, B_law_figure⟩
theorem F_law_figure (P : Params) : FOk P 249 D_law_figure := fok (ps := [(Str.ofString "script", ⟨309, 16, 309, 22⟩), (Str.ofString "spot", ⟨309, 24, 309, 28⟩)]) (by kernel_rfl) (by kernel_rfl) (by kernel_rfl) (by kernel_rfl) fun fd h1 h2 h3 xs hl => by
  obtain ⟨n1, n2, n3, n4, n5, n6, n7, n8, n9, n10, n11, n12, n13, n14, n15⟩ := fd
  dsimp only at h1 h2 h3
  subst h1 h2 h3
  obtain ⟨a, b, rfl⟩ := len2 hl
  rfl
noncomputable def B_law_corner : CSs :=
 (.cons (.ret (.tup (.cons (.bin .Mod (.var 1 ⟨312, 12, 312, 18⟩) (.var 0 ⟨312, 21, 312, 25⟩) ⟨312, 12, 312, 25⟩) (.cons (.bin .FloorDiv (.var 1 ⟨312, 27, 312, 33⟩) (.var 0 ⟨312, 37, 312, 41⟩) ⟨312, 27, 312, 41⟩) .nil)) 0 ⟨312, 11, 312, 42⟩) ⟨312, 4, 312, 42⟩)
 .nil)
noncomputable def D_law_corner : FD := ⟨[Str.ofString "wide", Str.ofString "square"], [], [(Str.ofString "wide", .local), (Str.ofString "square", .local)], 2, B_law_corner⟩
theorem F_law_corner (P : Params) : FOk P 256 D_law_corner := fok (ps := [(Str.ofString "wide", ⟨311, 16, 311, 20⟩), (Str.ofString "square", ⟨311, 22, 311, 28⟩)]) (by kernel_rfl) (by kernel_rfl) (by kernel_rfl) (by kernel_rfl) fun fd h1 h2 h3 xs hl => by
  obtain ⟨n1, n2, n3, n4, n5, n6, n7, n8, n9, n10, n11, n12, n13, n14, n15⟩ := fd
  dsimp only at h1 h2 h3
  subst h1 h2 h3
  obtain ⟨a, b, rfl⟩ := len2 hl
  rfl
noncomputable def B_law_reached : CSs :=
 (.cons (.asgT [(5, ⟨314, 4, 314, 5⟩), (6, ⟨314, 7, 314, 8⟩)] 0 ⟨314, 4, 314, 8⟩ (.call 26 ⟨314, 11, 314, 22⟩ (.cons (.var 0 ⟨314, 23, 314, 27⟩) (.cons (.var 3 ⟨314, 29, 314, 35⟩) .nil)) ⟨314, 11, 314, 36⟩) ⟨314, 4, 314, 36⟩)
 (.cons (.asg 7 ⟨315, 4, 315, 9⟩ (.lst .nil ⟨315, 12, 315, 14⟩) ⟨315, 4, 315, 14⟩)
 (.cons (.for1 8 ⟨316, 8, 316, 13⟩ (.tup (.cons (.un .USub (.int 2 ⟨316, 19, 316, 20⟩) ⟨316, 18, 316, 20⟩) (.cons (.un .USub (.int 1 ⟨316, 23, 316, 24⟩) ⟨316, 22, 316, 24⟩) (.cons (.int 0 ⟨316, 26, 316, 27⟩) (.cons (.int 1 ⟨316, 29, 316, 30⟩) (.cons (.int 2 ⟨316, 32, 316, 33⟩) .nil))))) 0 ⟨316, 17, 316, 34⟩) (.cons (.for1 9 ⟨317, 12, 317, 14⟩ (.tup (.cons (.un .USub (.int 2 ⟨317, 20, 317, 21⟩) ⟨317, 19, 317, 21⟩) (.cons (.un .USub (.int 1 ⟨317, 24, 317, 25⟩) ⟨317, 23, 317, 25⟩) (.cons (.int 0 ⟨317, 27, 317, 28⟩) (.cons (.int 1 ⟨317, 30, 317, 31⟩) (.cons (.int 2 ⟨317, 33, 317, 34⟩) .nil))))) 0 ⟨317, 18, 317, 35⟩) (.cons (.asg 10 ⟨318, 12, 318, 16⟩ (.tup (.cons (.bi .abs ⟨318, 20, 318, 23⟩ (.cons (.var 8 ⟨318, 24, 318, 29⟩) .nil) ⟨318, 20, 318, 30⟩) (.cons (.bi .abs ⟨318, 32, 318, 35⟩ (.cons (.var 9 ⟨318, 36, 318, 38⟩) .nil) ⟨318, 32, 318, 39⟩) .nil)) 0 ⟨318, 19, 318, 40⟩) ⟨318, 12, 318, 40⟩)
 (.cons (.ifs (.bop .And (.cons (.cmp .Eq (.var 2 ⟨319, 15, 319, 19⟩) (.int 2 ⟨319, 23, 319, 24⟩) ⟨319, 15, 319, 24⟩) (.cons (.cmp .In (.var 10 ⟨319, 29, 319, 33⟩) (.tup (.cons (.tup (.cons (.int 1 ⟨319, 39, 319, 40⟩) (.cons (.int 2 ⟨319, 42, 319, 43⟩) .nil)) 0 ⟨319, 38, 319, 44⟩) (.cons (.tup (.cons (.int 2 ⟨319, 47, 319, 48⟩) (.cons (.int 1 ⟨319, 50, 319, 51⟩) .nil)) 0 ⟨319, 46, 319, 52⟩) .nil)) 0 ⟨319, 37, 319, 53⟩) ⟨319, 29, 319, 53⟩) .nil)) ⟨319, 15, 319, 53⟩) (.cons (.asg 11 ⟨320, 16, 320, 19⟩ (.int 1 ⟨320, 22, 320, 23⟩) ⟨320, 16, 320, 23⟩)
 .nil) (.cons (.ifs (.bop .Or (.cons (.bop .And (.cons (.cmp .In (.var 2 ⟨321, 17, 321, 21⟩) (.tup (.cons (.int 3 ⟨321, 26, 321, 27⟩) (.cons (.int 5 ⟨321, 29, 321, 30⟩) .nil)) 0 ⟨321, 25, 321, 31⟩) ⟨321, 17, 321, 31⟩) (.cons (.cmp .Eq (.var 10 ⟨321, 36, 321, 40⟩) (.tup (.cons (.int 1 ⟨321, 45, 321, 46⟩) (.cons (.int 1 ⟨321, 48, 321, 49⟩) .nil)) 0 ⟨321, 44, 321, 50⟩) ⟨321, 36, 321, 50⟩) .nil)) ⟨321, 17, 321, 50⟩) (.cons (.bop .And (.cons (.cmp .In (.var 2 ⟨321, 55, 321, 59⟩) (.tup (.cons (.int 4 ⟨321, 64, 321, 65⟩) (.cons (.int 5 ⟨321, 67, 321, 68⟩) .nil)) 0 ⟨321, 63, 321, 69⟩) ⟨321, 55, 321, 69⟩) (.cons (.cmp .In (.var 10 ⟨321, 74, 321, 78⟩) (.tup (.cons (.tup (.cons (.int 0 ⟨321, 84, 321, 85⟩) (.cons (.int 1 ⟨321, 87, 321, 88⟩) .nil)) 0 ⟨321, 83, 321, 89⟩) (.cons (.tup (.cons (.int 1 ⟨321, 92, 321, 93⟩) (.cons (.int 0 ⟨321, 95, 321, 96⟩) .nil)) 0 ⟨321, 91, 321, 97⟩) .nil)) 0 ⟨321, 82, 321, 98⟩) ⟨321, 74, 321, 98⟩) .nil)) ⟨321, 55, 321, 98⟩) .nil)) ⟨321, 17, 321, 99⟩) (.cons (.asg 11 ⟨322, 16, 322, 19⟩ (.bi .max ⟨322, 22, 322, 25⟩ (.cons (.var 0 ⟨322, 26, 322, 30⟩) (.cons (.var 1 ⟨322, 32, 322, 36⟩) .nil)) ⟨322, 22, 322, 37⟩) ⟨322, 16, 322, 37⟩)
 .nil) (.cons (.cont ⟨324, 16, 324, 24⟩)
 .nil) ⟨321, 12, 324, 24⟩)
 .nil) ⟨319, 12, 324, 24⟩)
 (.cons (.for1 12 ⟨325, 16, 325, 22⟩ (.bi .range ⟨325, 26, 325, 31⟩ (.cons (.int 1 ⟨325, 32, 325, 33⟩) (.cons (.bin .Add (.var 11 ⟨325, 35, 325, 38⟩) (.int 1 ⟨325, 41, 325, 42⟩) ⟨325, 35, 325, 42⟩) .nil)) ⟨325, 26, 325, 43⟩) (.cons (.asg 13 ⟨326, 16, 326, 20⟩ (.tup (.cons (.bin .Add (.var 5 ⟨326, 24, 326, 25⟩) (.bin .Mult (.var 8 ⟨326, 28, 326, 33⟩) (.var 12 ⟨326, 36, 326, 42⟩) ⟨326, 28, 326, 42⟩) ⟨326, 24, 326, 42⟩) (.cons (.bin .Add (.var 6 ⟨326, 44, 326, 45⟩) (.bin .Mult (.var 9 ⟨326, 48, 326, 50⟩) (.var 12 ⟨326, 53, 326, 59⟩) ⟨326, 48, 326, 59⟩) ⟨326, 44, 326, 59⟩) .nil)) 0 ⟨326, 23, 326, 60⟩) ⟨326, 16, 326, 60⟩)
 (.cons (.ifs (.un .Not (.bop .And (.cons (.cmp2 .LtE .Lt (.int 0 ⟨327, 24, 327, 25⟩) (.sub (.var 13 ⟨327, 29, 327, 33⟩) (.int 0 ⟨327, 34, 327, 35⟩) ⟨327, 29, 327, 36⟩) (.var 0 ⟨327, 39, 327, 43⟩) ⟨327, 24, 327, 43⟩) (.cons (.cmp2 .LtE .Lt (.int 0 ⟨327, 48, 327, 49⟩) (.sub (.var 13 ⟨327, 53, 327, 57⟩) (.int 1 ⟨327, 58, 327, 59⟩) ⟨327, 53, 327, 60⟩) (.var 1 ⟨327, 63, 327, 67⟩) ⟨327, 48, 327, 67⟩) .nil)) ⟨327, 24, 327, 67⟩) ⟨327, 19, 327, 68⟩) (.cons (.brk ⟨328, 20, 328, 25⟩)
 .nil) .nil ⟨327, 16, 328, 25⟩)
 (.cons (.app (.var 7 ⟨329, 16, 329, 21⟩) (.bin .Add (.bin .Mult (.sub (.var 13 ⟨329, 29, 329, 33⟩) (.int 1 ⟨329, 34, 329, 35⟩) ⟨329, 29, 329, 36⟩) (.var 0 ⟨329, 39, 329, 43⟩) ⟨329, 29, 329, 43⟩) (.sub (.var 13 ⟨329, 46, 329, 50⟩) (.int 0 ⟨329, 51, 329, 52⟩) ⟨329, 46, 329, 53⟩) ⟨329, 29, 329, 53⟩) ⟨329, 16, 329, 28⟩ ⟨329, 16, 329, 54⟩ ⟨329, 16, 329, 54⟩)
 (.cons (.ifs (.cmp .In (.sub (.var 7 ⟨330, 19, 330, 24⟩) (.un .USub (.int 1 ⟨330, 26, 330, 27⟩) ⟨330, 25, 330, 27⟩) ⟨330, 19, 330, 28⟩) (.var 4 ⟨330, 32, 330, 37⟩) ⟨330, 19, 330, 37⟩) (.cons (.brk ⟨331, 20, 331, 25⟩)
 .nil) .nil ⟨330, 16, 331, 25⟩)
 .nil)))) ⟨325, 12, 331, 25⟩)
 .nil))) ⟨317, 8, 331, 25⟩)
 .nil) ⟨316, 4, 331, 25⟩)
 (.cons (.ret (.bi .sorted ⟨332, 11, 332, 17⟩ (.cons (.var 7 ⟨332, 18, 332, 23⟩) .nil) ⟨332, 11, 332, 24⟩) ⟨332, 4, 332, 24⟩)
 .nil))))
noncomputable def D_law_reached : FD := ⟨[Str.ofString "wide", Str.ofString "high", Str.ofString "kind", Str.ofString "square", Str.ofString "walls", Str.ofString "x", Str.ofString "y", Str.ofString "found", Str.ofString "right", Str.ofString "up", Str.ofString "span", Str.ofString "far", Str.ofString "length", Str.ofString "spot"], [Str.ofString "_law_corner", Str.ofString "abs", Str.ofString "max", Str.ofString "range", Str.ofString "sorted"], [(Str.ofString "wide", .local), (Str.ofString "high", .local), (Str.ofString "kind", .local), (Str.ofString "square", .local), (Str.ofString "walls", .local), (Str.ofString "x", .local), (Str.ofString "y", .local), (Str.ofString "found", .local), (Str.ofString "right", .local), (Str.ofString "up", .local), (Str.ofString "span", .local), (Str.ofString "far", .local), (Str.ofString "length", .local), (Str.ofString "spot", .local), (Str.ofString "_law_corner", .globalImplicit), (Str.ofString "abs", .globalImplicit), (Str.ofString "max", .globalImplicit), (Str.ofString "range", .globalImplicit), (Str.ofString "sorted", .globalImplicit)], 5, B_law_reached⟩
theorem F_law_reached (P : Params) : FOk P 263 D_law_reached := fok (ps := [(Str.ofString "wide", ⟨313, 17, 313, 21⟩), (Str.ofString "high", ⟨313, 23, 313, 27⟩), (Str.ofString "kind", ⟨313, 29, 313, 33⟩), (Str.ofString "square", ⟨313, 35, 313, 41⟩), (Str.ofString "walls", ⟨313, 43, 313, 48⟩)]) (by kernel_rfl) (by kernel_rfl) (by kernel_rfl) (by kernel_rfl) fun fd h1 h2 h3 xs hl => by
  obtain ⟨n1, n2, n3, n4, n5, n6, n7, n8, n9, n10, n11, n12, n13, n14, n15⟩ := fd
  dsimp only at h1 h2 h3
  subst h1 h2 h3
  obtain ⟨a, b, c, d, e, rfl⟩ := len5 hl
  rfl
noncomputable def B_law_round : CSs :=
 (.cons (.asgT [(3, ⟨334, 4, 334, 5⟩), (4, ⟨334, 7, 334, 8⟩)] 0 ⟨334, 4, 334, 8⟩ (.call 26 ⟨334, 11, 334, 22⟩ (.cons (.var 0 ⟨334, 23, 334, 27⟩) (.cons (.var 2 ⟨334, 29, 334, 35⟩) .nil)) ⟨334, 11, 334, 36⟩) ⟨334, 4, 334, 36⟩)
 (.cons (.asg 5 ⟨335, 4, 335, 9⟩ (.comp2 (.tup (.cons (.bin .Add (.var 2 ⟨335, 14, 335, 15⟩) (.var 1 ⟨335, 18, 335, 23⟩) ⟨335, 14, 335, 23⟩) (.cons (.bin .Add (.var 3 ⟨335, 25, 335, 26⟩) (.var 0 ⟨335, 29, 335, 31⟩) ⟨335, 25, 335, 31⟩) .nil)) 0 ⟨335, 13, 335, 32⟩) (Str.ofString "up") ⟨335, 37, 335, 39⟩ (.tup (.cons (.un .USub (.int 1 ⟨335, 45, 335, 46⟩) ⟨335, 44, 335, 46⟩) (.cons (.int 0 ⟨335, 48, 335, 49⟩) (.cons (.int 1 ⟨335, 51, 335, 52⟩) .nil))) 0 ⟨335, 43, 335, 53⟩) (Str.ofString "right") ⟨335, 58, 335, 63⟩ (.tup (.cons (.un .USub (.int 1 ⟨335, 69, 335, 70⟩) ⟨335, 68, 335, 70⟩) (.cons (.int 0 ⟨335, 72, 335, 73⟩) (.cons (.int 1 ⟨335, 75, 335, 76⟩) .nil))) 0 ⟨335, 67, 335, 77⟩) (.cons (.cmp .NotEq (.tup (.cons (.var 1 ⟨335, 82, 335, 87⟩) (.cons (.var 0 ⟨335, 89, 335, 91⟩) .nil)) 0 ⟨335, 81, 335, 92⟩) (.tup (.cons (.int 0 ⟨335, 97, 335, 98⟩) (.cons (.int 0 ⟨335, 100, 335, 101⟩) .nil)) 0 ⟨335, 96, 335, 102⟩) ⟨335, 81, 335, 102⟩) .nil) [3, 4] ⟨.function, [(Str.ofString ".0", .local), (Str.ofString "up", .local), (Str.ofString "right", .local), (Str.ofString "x", .free), (Str.ofString "y", .free)], false, false, []⟩ ⟨335, 12, 335, 103⟩) ⟨335, 4, 335, 103⟩)
 (.cons (.ret (.comp1 (.bin .Add (.bin .Mult (.sub (.var 0 ⟨336, 12, 336, 16⟩) (.int 1 ⟨336, 17, 336, 18⟩) ⟨336, 12, 336, 19⟩) (.var 1 ⟨336, 22, 336, 26⟩) ⟨336, 12, 336, 26⟩) (.sub (.var 0 ⟨336, 29, 336, 33⟩) (.int 0 ⟨336, 34, 336, 35⟩) ⟨336, 29, 336, 36⟩) ⟨336, 12, 336, 36⟩) (Str.ofString "spot") ⟨336, 41, 336, 45⟩ (.var 5 ⟨336, 49, 336, 54⟩) (.cons (.bop .And (.cons (.cmp2 .LtE .Lt (.int 0 ⟨336, 58, 336, 59⟩) (.sub (.var 0 ⟨336, 63, 336, 67⟩) (.int 0 ⟨336, 68, 336, 69⟩) ⟨336, 63, 336, 70⟩) (.var 1 ⟨336, 73, 336, 77⟩) ⟨336, 58, 336, 77⟩) (.cons (.cmp2 .LtE .Lt (.int 0 ⟨336, 82, 336, 83⟩) (.sub (.var 0 ⟨336, 87, 336, 91⟩) (.int 1 ⟨336, 92, 336, 93⟩) ⟨336, 87, 336, 94⟩) (.var 2 ⟨336, 97, 336, 101⟩) ⟨336, 82, 336, 101⟩) .nil)) ⟨336, 58, 336, 101⟩) .nil) [0, 1] ⟨.function, [(Str.ofString ".0", .local), (Str.ofString "spot", .local), (Str.ofString "high", .free), (Str.ofString "wide", .free)], false, false, []⟩ ⟨336, 11, 336, 102⟩) ⟨336, 4, 336, 102⟩)
 .nil)))
noncomputable def D_law_round : FD := ⟨[Str.ofString "wide", Str.ofString "high", Str.ofString "square", Str.ofString "x", Str.ofString "y", Str.ofString "about"], [Str.ofString "_law_corner"], [(Str.ofString "wide", .cell), (Str.ofString "high", .cell), (Str.ofString "square", .local), (Str.ofString "x", .cell), (Str.ofString "y", .cell), (Str.ofString "about", .local), (Str.ofString "_law_corner", .globalImplicit)], 3, B_law_round⟩
theorem F_law_round (P : Params) : FOk P 268 D_law_round := fok (ps := [(Str.ofString "wide", ⟨333, 15, 333, 19⟩), (Str.ofString "high", ⟨333, 21, 333, 25⟩), (Str.ofString "square", ⟨333, 27, 333, 33⟩)]) (by kernel_rfl) (by kernel_rfl) (by kernel_rfl) (by kernel_rfl) fun fd h1 h2 h3 xs hl => by
  obtain ⟨n1, n2, n3, n4, n5, n6, n7, n8, n9, n10, n11, n12, n13, n14, n15⟩ := fd
  dsimp only at h1 h2 h3
  subst h1 h2 h3
  obtain ⟨a, b, c, rfl⟩ := len3 hl
  rfl
noncomputable def B_law_told : CSs :=
 (.cons (.ret (.call 22 ⟨338, 11, 338, 16⟩ (.cons (.skey 0 ⟨338, 17, 338, 21⟩ 0 ⟨338, 22, 338, 27⟩ ⟨338, 17, 338, 28⟩) (.cons (.skey 0 ⟨338, 30, 338, 34⟩ 4 ⟨338, 35, 338, 42⟩ ⟨338, 30, 338, 43⟩) (.cons (.skey 0 ⟨338, 45, 338, 49⟩ 3 ⟨338, 50, 338, 56⟩ ⟨338, 45, 338, 57⟩) (.cons (.sub (.var 1 ⟨338, 59, 338, 64⟩) (.int 0 ⟨338, 65, 338, 66⟩) ⟨338, 59, 338, 67⟩) (.cons (.sub (.var 1 ⟨338, 69, 338, 74⟩) (.int 1 ⟨338, 75, 338, 76⟩) ⟨338, 69, 338, 77⟩) (.cons (.sub (.var 1 ⟨338, 79, 338, 84⟩) (.int 2 ⟨338, 85, 338, 86⟩) ⟨338, 79, 338, 87⟩) (.cons (.sub (.var 1 ⟨338, 89, 338, 94⟩) (.int 3 ⟨338, 95, 338, 96⟩) ⟨338, 89, 338, 97⟩) .nil))))))) ⟨338, 11, 338, 98⟩) ⟨338, 4, 338, 98⟩)
 .nil)
noncomputable def D_law_told : FD := ⟨[Str.ofString "game", Str.ofString "place"], [Str.ofString "probe"], [(Str.ofString "game", .local), (Str.ofString "place", .local), (Str.ofString "probe", .globalImplicit)], 2, B_law_told⟩
theorem F_law_told (P : Params) : FOk P 275 D_law_told := fok (ps := [(Str.ofString "game", ⟨337, 14, 337, 18⟩), (Str.ofString "place", ⟨337, 20, 337, 25⟩)]) (by kernel_rfl) (by kernel_rfl) (by kernel_rfl) (by kernel_rfl) fun fd h1 h2 h3 xs hl => by
  obtain ⟨n1, n2, n3, n4, n5, n6, n7, n8, n9, n10, n11, n12, n13, n14, n15⟩ := fd
  dsimp only at h1 h2 h3
  subst h1 h2 h3
  obtain ⟨a, b, rfl⟩ := len2 hl
  rfl
noncomputable def B_law_choices : CSs :=
 (.cons (.asgT [(2, ⟨340, 4, 340, 8⟩), (3, ⟨340, 10, 340, 14⟩), (4, ⟨340, 16, 340, 19⟩), (5, ⟨340, 21, 340, 25⟩)] 0 ⟨340, 4, 340, 25⟩ (.var 1 ⟨340, 28, 340, 33⟩) ⟨340, 4, 340, 33⟩)
 (.cons (.asg 6 ⟨341, 4, 341, 8⟩ (.lst .nil ⟨341, 11, 341, 13⟩) ⟨341, 4, 341, 13⟩)
 (.cons (.ifs (.cmp .Eq (.var 2 ⟨342, 7, 342, 11⟩) (.int 1 ⟨342, 15, 342, 16⟩) ⟨342, 7, 342, 16⟩) (.cons (.for1 7 ⟨343, 12, 343, 16⟩ (.call 28 ⟨343, 20, 343, 30⟩ (.cons (.skey 0 ⟨343, 31, 343, 35⟩ 1 ⟨343, 36, 343, 42⟩ ⟨343, 31, 343, 43⟩) (.cons (.skey 0 ⟨343, 45, 343, 49⟩ 2 ⟨343, 50, 343, 56⟩ ⟨343, 45, 343, 57⟩) (.cons (.var 5 ⟨343, 59, 343, 63⟩) .nil))) ⟨343, 20, 343, 64⟩) (.cons (.ifs (.bop .And (.cons (.cmp .Eq (.var 7 ⟨344, 15, 344, 19⟩) (.var 4 ⟨344, 23, 344, 26⟩) ⟨344, 15, 344, 26⟩) (.cons (.cmp .NotIn (.var 4 ⟨344, 31, 344, 34⟩) (.call 28 ⟨344, 42, 344, 52⟩ (.cons (.skey 0 ⟨344, 53, 344, 57⟩ 1 ⟨344, 58, 344, 64⟩ ⟨344, 53, 344, 65⟩) (.cons (.skey 0 ⟨344, 67, 344, 71⟩ 2 ⟨344, 72, 344, 78⟩ ⟨344, 67, 344, 79⟩) (.cons (.var 3 ⟨344, 81, 344, 85⟩) .nil))) ⟨344, 42, 344, 86⟩) ⟨344, 31, 344, 86⟩) .nil)) ⟨344, 15, 344, 86⟩) (.cons (.app (.var 6 ⟨345, 16, 345, 20⟩) (.tup (.cons (.var 5 ⟨345, 29, 345, 33⟩) (.cons (.var 7 ⟨345, 35, 345, 39⟩) (.cons (.un .USub (.int 1 ⟨345, 42, 345, 43⟩) ⟨345, 41, 345, 43⟩) (.cons (.none ⟨345, 45, 345, 49⟩) .nil)))) 0 ⟨345, 28, 345, 50⟩) ⟨345, 16, 345, 27⟩ ⟨345, 16, 345, 51⟩ ⟨345, 16, 345, 51⟩)
 .nil) (.cons (.ifs (.bop .And (.cons (.cmp .NotEq (.var 7 ⟨346, 17, 346, 21⟩) (.var 4 ⟨346, 25, 346, 28⟩) ⟨346, 17, 346, 28⟩) (.cons (.cmp .NotEq (.call 29 ⟨346, 33, 346, 42⟩ (.cons (.var 0 ⟨346, 43, 346, 47⟩) (.cons (.tup (.cons (.int 0 ⟨346, 50, 346, 51⟩) (.cons (.var 3 ⟨346, 53, 346, 57⟩) (.cons (.var 4 ⟨346, 59, 346, 62⟩) (.cons (.var 7 ⟨346, 64, 346, 68⟩) .nil)))) 0 ⟨346, 49, 346, 69⟩) .nil)) ⟨346, 33, 346, 70⟩) (.un .USub (.int 2 ⟨346, 75, 346, 76⟩) ⟨346, 74, 346, 76⟩) ⟨346, 33, 346, 76⟩) .nil)) ⟨346, 17, 346, 76⟩) (.cons (.app (.var 6 ⟨347, 16, 347, 20⟩) (.tup (.cons (.var 5 ⟨347, 29, 347, 33⟩) (.cons (.var 7 ⟨347, 35, 347, 39⟩) (.cons (.call 29 ⟨347, 41, 347, 50⟩ (.cons (.var 0 ⟨347, 51, 347, 55⟩) (.cons (.tup (.cons (.int 0 ⟨347, 58, 347, 59⟩) (.cons (.var 3 ⟨347, 61, 347, 65⟩) (.cons (.var 4 ⟨347, 67, 347, 70⟩) (.cons (.var 7 ⟨347, 72, 347, 76⟩) .nil)))) 0 ⟨347, 57, 347, 77⟩) .nil)) ⟨347, 41, 347, 78⟩) (.cons (.tup (.cons (.int 0 ⟨347, 81, 347, 82⟩) (.cons (.var 3 ⟨347, 84, 347, 88⟩) (.cons (.var 4 ⟨347, 90, 347, 93⟩) (.cons (.var 7 ⟨347, 95, 347, 99⟩) .nil)))) 0 ⟨347, 80, 347, 100⟩) .nil)))) 0 ⟨347, 28, 347, 101⟩) ⟨347, 16, 347, 27⟩ ⟨347, 16, 347, 102⟩ ⟨347, 16, 347, 102⟩)
 .nil) .nil ⟨346, 12, 347, 102⟩)
 .nil) ⟨344, 12, 347, 102⟩)
 .nil) ⟨343, 8, 347, 102⟩)
 (.cons (.ret (.var 6 ⟨348, 15, 348, 19⟩) ⟨348, 8, 348, 19⟩)
 .nil)) .nil ⟨342, 4, 348, 19⟩)
 (.cons (.for1 7 ⟨349, 8, 349, 12⟩ (.call 28 ⟨349, 16, 349, 26⟩ (.cons (.skey 0 ⟨349, 27, 349, 31⟩ 1 ⟨349, 32, 349, 38⟩ ⟨349, 27, 349, 39⟩) (.cons (.skey 0 ⟨349, 41, 349, 45⟩ 2 ⟨349, 46, 349, 52⟩ ⟨349, 41, 349, 53⟩) (.cons (.var 3 ⟨349, 55, 349, 59⟩) .nil))) ⟨349, 16, 349, 60⟩) (.cons (.ifs (.cmp .NotEq (.call 29 ⟨350, 11, 350, 20⟩ (.cons (.var 0 ⟨350, 21, 350, 25⟩) (.cons (.tup (.cons (.int 1 ⟨350, 28, 350, 29⟩) (.cons (.var 7 ⟨350, 31, 350, 35⟩) (.cons (.var 4 ⟨350, 37, 350, 40⟩) (.cons (.var 5 ⟨350, 42, 350, 46⟩) .nil)))) 0 ⟨350, 27, 350, 47⟩) .nil)) ⟨350, 11, 350, 48⟩) (.un .USub (.int 2 ⟨350, 53, 350, 54⟩) ⟨350, 52, 350, 54⟩) ⟨350, 11, 350, 54⟩) (.cons (.app (.var 6 ⟨351, 12, 351, 16⟩) (.tup (.cons (.var 3 ⟨351, 25, 351, 29⟩) (.cons (.var 7 ⟨351, 31, 351, 35⟩) (.cons (.call 29 ⟨351, 37, 351, 46⟩ (.cons (.var 0 ⟨351, 47, 351, 51⟩) (.cons (.tup (.cons (.int 1 ⟨351, 54, 351, 55⟩) (.cons (.var 7 ⟨351, 57, 351, 61⟩) (.cons (.var 4 ⟨351, 63, 351, 66⟩) (.cons (.var 5 ⟨351, 68, 351, 72⟩) .nil)))) 0 ⟨351, 53, 351, 73⟩) .nil)) ⟨351, 37, 351, 74⟩) (.cons (.tup (.cons (.int 1 ⟨351, 77, 351, 78⟩) (.cons (.var 7 ⟨351, 80, 351, 84⟩) (.cons (.var 4 ⟨351, 86, 351, 89⟩) (.cons (.var 5 ⟨351, 91, 351, 95⟩) .nil)))) 0 ⟨351, 76, 351, 96⟩) .nil)))) 0 ⟨351, 24, 351, 97⟩) ⟨351, 12, 351, 23⟩ ⟨351, 12, 351, 98⟩ ⟨351, 12, 351, 98⟩)
 .nil) .nil ⟨350, 8, 351, 98⟩)
 .nil) ⟨349, 4, 351, 98⟩)
 (.cons (.for1 7 ⟨352, 8, 352, 12⟩ (.call 27 ⟨352, 16, 352, 28⟩ (.cons (.skey 0 ⟨352, 29, 352, 33⟩ 1 ⟨352, 34, 352, 40⟩ ⟨352, 29, 352, 41⟩) (.cons (.skey 0 ⟨352, 43, 352, 47⟩ 2 ⟨352, 48, 352, 54⟩ ⟨352, 43, 352, 55⟩) (.cons (.skey 0 ⟨352, 57, 352, 61⟩ 3 ⟨352, 62, 352, 68⟩ ⟨352, 57, 352, 69⟩) (.cons (.var 4 ⟨352, 71, 352, 74⟩) (.cons (.lst (.cons (.var 3 ⟨352, 77, 352, 81⟩) (.cons (.var 5 ⟨352, 83, 352, 87⟩) .nil)) ⟨352, 76, 352, 88⟩) .nil))))) ⟨352, 16, 352, 89⟩) (.cons (.ifs (.cmp .NotEq (.call 29 ⟨353, 11, 353, 20⟩ (.cons (.var 0 ⟨353, 21, 353, 25⟩) (.cons (.tup (.cons (.int 1 ⟨353, 28, 353, 29⟩) (.cons (.var 3 ⟨353, 31, 353, 35⟩) (.cons (.var 7 ⟨353, 37, 353, 41⟩) (.cons (.var 5 ⟨353, 43, 353, 47⟩) .nil)))) 0 ⟨353, 27, 353, 48⟩) .nil)) ⟨353, 11, 353, 49⟩) (.un .USub (.int 2 ⟨353, 54, 353, 55⟩) ⟨353, 53, 353, 55⟩) ⟨353, 11, 353, 55⟩) (.cons (.app (.var 6 ⟨354, 12, 354, 16⟩) (.tup (.cons (.var 4 ⟨354, 25, 354, 28⟩) (.cons (.var 7 ⟨354, 30, 354, 34⟩) (.cons (.call 29 ⟨354, 36, 354, 45⟩ (.cons (.var 0 ⟨354, 46, 354, 50⟩) (.cons (.tup (.cons (.int 1 ⟨354, 53, 354, 54⟩) (.cons (.var 3 ⟨354, 56, 354, 60⟩) (.cons (.var 7 ⟨354, 62, 354, 66⟩) (.cons (.var 5 ⟨354, 68, 354, 72⟩) .nil)))) 0 ⟨354, 52, 354, 73⟩) .nil)) ⟨354, 36, 354, 74⟩) (.cons (.tup (.cons (.int 1 ⟨354, 77, 354, 78⟩) (.cons (.var 3 ⟨354, 80, 354, 84⟩) (.cons (.var 7 ⟨354, 86, 354, 90⟩) (.cons (.var 5 ⟨354, 92, 354, 96⟩) .nil)))) 0 ⟨354, 76, 354, 97⟩) .nil)))) 0 ⟨354, 24, 354, 98⟩) ⟨354, 12, 354, 23⟩ ⟨354, 12, 354, 99⟩ ⟨354, 12, 354, 99⟩)
 .nil) .nil ⟨353, 8, 354, 99⟩)
 .nil) ⟨352, 4, 354, 99⟩)
 (.cons (.ret (.var 6 ⟨355, 11, 355, 15⟩) ⟨355, 4, 355, 15⟩)
 .nil))))))
noncomputable def D_law_choices : FD := ⟨[Str.ofString "game", Str.ofString "place", Str.ofString "side", Str.ofString "king", Str.ofString "man", Str.ofString "bare", Str.ofString "rows", Str.ofString "goal"], [Str.ofString "_law_round", Str.ofString "_law_told", Str.ofString "_law_reached"], [(Str.ofString "game", .local), (Str.ofString "place", .local), (Str.ofString "side", .local), (Str.ofString "king", .local), (Str.ofString "man", .local), (Str.ofString "bare", .local), (Str.ofString "rows", .local), (Str.ofString "goal", .local), (Str.ofString "_law_round", .globalImplicit), (Str.ofString "_law_told", .globalImplicit), (Str.ofString "_law_reached", .globalImplicit)], 2, B_law_choices⟩
theorem F_law_choices (P : Params) : FOk P 282 D_law_choices := fok (ps := [(Str.ofString "game", ⟨339, 17, 339, 21⟩), (Str.ofString "place", ⟨339, 23, 339, 28⟩)]) (by kernel_rfl) (by kernel_rfl) (by kernel_rfl) (by kernel_rfl) fun fd h1 h2 h3 xs hl => by
  obtain ⟨n1, n2, n3, n4, n5, n6, n7, n8, n9, n10, n11, n12, n13, n14, n15⟩ := fd
  dsimp only at h1 h2 h3
  subst h1 h2 h3
  obtain ⟨a, b, rfl⟩ := len2 hl
  rfl
noncomputable def B_law_pick : CSs :=
 (.cons (.asg 2 ⟨357, 4, 357, 8⟩ (.call 30 ⟨357, 11, 357, 23⟩ (.cons (.var 0 ⟨357, 24, 357, 28⟩) (.cons (.var 1 ⟨357, 30, 357, 35⟩) .nil)) ⟨357, 11, 357, 36⟩) ⟨357, 4, 357, 36⟩)
 (.cons (.asg 3 ⟨358, 4, 358, 9⟩ (.comp1 (.sub (.var 0 ⟨358, 13, 358, 16⟩) (.int 2 ⟨358, 17, 358, 18⟩) ⟨358, 13, 358, 19⟩) (Str.ofString "row") ⟨358, 24, 358, 27⟩ (.var 2 ⟨358, 31, 358, 35⟩) .nil [] ⟨.function, [(Str.ofString ".0", .local), (Str.ofString "row", .local)], false, false, []⟩ ⟨358, 12, 358, 36⟩) ⟨358, 4, 358, 36⟩)
 (.cons (.ifs (.cmp .Eq (.var 2 ⟨359, 7, 359, 11⟩) (.lst .nil ⟨359, 15, 359, 17⟩) ⟨359, 7, 359, 17⟩) (.cons (.ret (.none ⟨360, 15, 360, 19⟩) ⟨360, 8, 360, 19⟩)
 .nil) .nil ⟨359, 4, 360, 19⟩)
 (.cons (.ifs (.cmp .Eq (.sub (.var 1 ⟨361, 7, 361, 12⟩) (.int 0 ⟨361, 13, 361, 14⟩) ⟨361, 7, 361, 15⟩) (.int 1 ⟨361, 19, 361, 20⟩) ⟨361, 7, 361, 20⟩) (.cons (.asg 4 ⟨362, 8, 362, 12⟩ (.ife (.cmp .In (.un .USub (.int 1 ⟨362, 22, 362, 23⟩) ⟨362, 21, 362, 23⟩) (.var 3 ⟨362, 27, 362, 32⟩) ⟨362, 21, 362, 32⟩) (.un .USub (.int 1 ⟨362, 16, 362, 17⟩) ⟨362, 15, 362, 17⟩) (.bi .max ⟨362, 38, 362, 41⟩ (.cons (.var 3 ⟨362, 42, 362, 47⟩) .nil) ⟨362, 38, 362, 48⟩) ⟨362, 15, 362, 48⟩) ⟨362, 8, 362, 48⟩)
 .nil) (.cons (.asg 4 ⟨364, 8, 364, 12⟩ (.bi .min ⟨364, 15, 364, 18⟩ (.cons (.bin .Add (.comp1 (.var 0 ⟨364, 20, 364, 24⟩) (Str.ofString "told") ⟨364, 29, 364, 33⟩ (.var 3 ⟨364, 37, 364, 42⟩) (.cons (.cmp .GtE (.var 0 ⟨364, 46, 364, 50⟩) (.int 0 ⟨364, 54, 364, 55⟩) ⟨364, 46, 364, 55⟩) .nil) [] ⟨.function, [(Str.ofString ".0", .local), (Str.ofString "told", .local)], false, false, []⟩ ⟨364, 19, 364, 56⟩) (.ife (.cmp .GtE (.bi .max ⟨364, 66, 364, 69⟩ (.cons (.var 3 ⟨364, 70, 364, 75⟩) .nil) ⟨364, 66, 364, 76⟩) (.int 0 ⟨364, 80, 364, 81⟩) ⟨364, 66, 364, 81⟩) (.lst .nil ⟨364, 60, 364, 62⟩) (.lst (.cons (.un .USub (.int 1 ⟨364, 89, 364, 90⟩) ⟨364, 88, 364, 90⟩) .nil) ⟨364, 87, 364, 91⟩) ⟨364, 60, 364, 91⟩) ⟨364, 19, 364, 92⟩) .nil) ⟨364, 15, 364, 93⟩) ⟨364, 8, 364, 93⟩)
 .nil) ⟨361, 4, 364, 93⟩)
 (.cons (.ret (.sub (.var 2 ⟨365, 11, 365, 15⟩) (.index 3 ⟨365, 16, 365, 21⟩ (.var 4 ⟨365, 28, 365, 32⟩) ⟨365, 16, 365, 27⟩ ⟨365, 16, 365, 33⟩) ⟨365, 11, 365, 34⟩) ⟨365, 4, 365, 34⟩)
 .nil)))))
noncomputable def D_law_pick : FD := ⟨[Str.ofString "game", Str.ofString "place", Str.ofString "rows", Str.ofString "plies", Str.ofString "best"], [Str.ofString "_law_choices", Str.ofString "max", Str.ofString "min"], [(Str.ofString "game", .local), (Str.ofString "place", .local), (Str.ofString "rows", .local), (Str.ofString "plies", .local), (Str.ofString "best", .local), (Str.ofString "_law_choices", .globalImplicit), (Str.ofString "max", .globalImplicit), (Str.ofString "min", .globalImplicit)], 2, B_law_pick⟩
theorem F_law_pick (P : Params) : FOk P 287 D_law_pick := fok (ps := [(Str.ofString "game", ⟨356, 14, 356, 18⟩), (Str.ofString "place", ⟨356, 20, 356, 25⟩)]) (by kernel_rfl) (by kernel_rfl) (by kernel_rfl) (by kernel_rfl) fun fd h1 h2 h3 xs hl => by
  obtain ⟨n1, n2, n3, n4, n5, n6, n7, n8, n9, n10, n11, n12, n13, n14, n15⟩ := fd
  dsimp only at h1 h2 h3
  subst h1 h2 h3
  obtain ⟨a, b, rfl⟩ := len2 hl
  rfl
noncomputable def B_law_right : CSs :=
 (.cons (.asg 2 ⟨367, 4, 367, 8⟩ (.call 29 ⟨367, 11, 367, 20⟩ (.cons (.var 0 ⟨367, 21, 367, 25⟩) (.cons (.var 1 ⟨367, 27, 367, 32⟩) .nil)) ⟨367, 11, 367, 33⟩) ⟨367, 4, 367, 33⟩)
 (.cons (.asg 3 ⟨368, 4, 368, 10⟩ (.ife (.cmp .NotEq (.var 2 ⟨368, 39, 368, 43⟩) (.un .USub (.int 2 ⟨368, 48, 368, 49⟩) ⟨368, 47, 368, 49⟩) ⟨368, 39, 368, 49⟩) (.call 31 ⟨368, 13, 368, 22⟩ (.cons (.var 0 ⟨368, 23, 368, 27⟩) (.cons (.var 1 ⟨368, 29, 368, 34⟩) .nil)) ⟨368, 13, 368, 35⟩) (.none ⟨368, 55, 368, 59⟩) ⟨368, 13, 368, 59⟩) ⟨368, 4, 368, 59⟩)
 (.cons (.asg 4 ⟨369, 4, 369, 9⟩ (.call 23 ⟨369, 12, 369, 21⟩ (.cons (.skey 0 ⟨369, 22, 369, 26⟩ 0 ⟨369, 27, 369, 32⟩ ⟨369, 22, 369, 33⟩) (.cons (.skey 0 ⟨369, 35, 369, 39⟩ 4 ⟨369, 40, 369, 47⟩ ⟨369, 35, 369, 48⟩) (.cons (.skey 0 ⟨369, 50, 369, 54⟩ 3 ⟨369, 55, 369, 61⟩ ⟨369, 50, 369, 62⟩) (.cons (.sub (.var 1 ⟨369, 64, 369, 69⟩) (.int 0 ⟨369, 70, 369, 71⟩) ⟨369, 64, 369, 72⟩) (.cons (.sub (.var 1 ⟨369, 74, 369, 79⟩) (.int 1 ⟨369, 80, 369, 81⟩) ⟨369, 74, 369, 82⟩) (.cons (.sub (.var 1 ⟨369, 84, 369, 89⟩) (.int 2 ⟨369, 90, 369, 91⟩) ⟨369, 84, 369, 92⟩) (.cons (.sub (.var 1 ⟨369, 94, 369, 99⟩) (.int 3 ⟨369, 100, 369, 101⟩) ⟨369, 94, 369, 102⟩) .nil))))))) ⟨369, 12, 369, 103⟩) ⟨369, 4, 369, 103⟩)
 (.cons (.ifs (.cmp .NotEq (.var 4 ⟨370, 7, 370, 12⟩) (.ife (.cmp .Is (.var 3 ⟨370, 29, 370, 35⟩) (.none ⟨370, 39, 370, 43⟩) ⟨370, 29, 370, 43⟩) (.tup (.cons (.un .USub (.int 1 ⟨370, 19, 370, 20⟩) ⟨370, 18, 370, 20⟩) (.cons (.un .USub (.int 1 ⟨370, 23, 370, 24⟩) ⟨370, 22, 370, 24⟩) .nil)) 0 ⟨370, 17, 370, 25⟩) (.upto 3 ⟨370, 49, 370, 55⟩ ⟨370, 57, 370, 58⟩ ⟨370, 56, 370, 58⟩ ⟨370, 49, 370, 59⟩) ⟨370, 17, 370, 59⟩) ⟨370, 7, 370, 60⟩) (.cons (.ret (.bool false ⟨371, 15, 371, 20⟩) ⟨371, 8, 371, 20⟩)
 .nil) .nil ⟨370, 4, 371, 20⟩)
 (.cons (.asg 5 ⟨372, 4, 372, 7⟩ (.lst .nil ⟨372, 10, 372, 12⟩) ⟨372, 4, 372, 12⟩)
 (.cons (.asg 6 ⟨373, 4, 373, 8⟩ (.var 1 ⟨373, 11, 373, 16⟩) ⟨373, 4, 373, 16⟩)
 (.cons (.for1 7 ⟨374, 8, 374, 12⟩ (.bi .range ⟨374, 16, 374, 21⟩ (.cons (.bi .max ⟨374, 22, 374, 25⟩ (.cons (.var 2 ⟨374, 26, 374, 30⟩) (.cons (.int 0 ⟨374, 32, 374, 33⟩) .nil)) ⟨374, 22, 374, 34⟩) .nil) ⟨374, 16, 374, 35⟩) (.cons (.asg 3 ⟨375, 8, 375, 14⟩ (.call 31 ⟨375, 17, 375, 26⟩ (.cons (.var 0 ⟨375, 27, 375, 31⟩) (.cons (.var 6 ⟨375, 33, 375, 37⟩) .nil)) ⟨375, 17, 375, 38⟩) ⟨375, 8, 375, 38⟩)
 (.cons (.ifs (.bop .Or (.cons (.cmp .Is (.var 3 ⟨376, 11, 376, 17⟩) (.none ⟨376, 21, 376, 25⟩) ⟨376, 11, 376, 25⟩) (.cons (.cmp .Is (.sub (.var 3 ⟨376, 29, 376, 35⟩) (.int 3 ⟨376, 36, 376, 37⟩) ⟨376, 29, 376, 38⟩) (.none ⟨376, 42, 376, 46⟩) ⟨376, 29, 376, 46⟩) .nil)) ⟨376, 11, 376, 46⟩) (.cons (.ret (.bool false ⟨377, 19, 377, 24⟩) ⟨377, 12, 377, 24⟩)
 .nil) .nil ⟨376, 8, 377, 24⟩)
 (.cons (.app (.var 5 ⟨378, 8, 378, 11⟩) (.upto 3 ⟨378, 19, 378, 25⟩ ⟨378, 27, 378, 28⟩ ⟨378, 26, 378, 28⟩ ⟨378, 19, 378, 29⟩) ⟨378, 8, 378, 18⟩ ⟨378, 8, 378, 30⟩ ⟨378, 8, 378, 30⟩)
 (.cons (.asg 6 ⟨379, 8, 379, 12⟩ (.sub (.var 3 ⟨379, 15, 379, 21⟩) (.int 3 ⟨379, 22, 379, 23⟩) ⟨379, 15, 379, 24⟩) ⟨379, 8, 379, 24⟩)
 .nil)))) ⟨374, 4, 379, 24⟩)
 (.cons (.ret (.cmp .Eq (.call 24 ⟨380, 11, 380, 20⟩ (.cons (.skey 0 ⟨380, 21, 380, 25⟩ 0 ⟨380, 26, 380, 31⟩ ⟨380, 21, 380, 32⟩) (.cons (.skey 0 ⟨380, 34, 380, 38⟩ 4 ⟨380, 39, 380, 46⟩ ⟨380, 34, 380, 47⟩) (.cons (.skey 0 ⟨380, 49, 380, 53⟩ 3 ⟨380, 54, 380, 60⟩ ⟨380, 49, 380, 61⟩) (.cons (.sub (.var 1 ⟨380, 63, 380, 68⟩) (.int 0 ⟨380, 69, 380, 70⟩) ⟨380, 63, 380, 71⟩) (.cons (.sub (.var 1 ⟨380, 73, 380, 78⟩) (.int 1 ⟨380, 79, 380, 80⟩) ⟨380, 73, 380, 81⟩) (.cons (.sub (.var 1 ⟨380, 83, 380, 88⟩) (.int 2 ⟨380, 89, 380, 90⟩) ⟨380, 83, 380, 91⟩) (.cons (.sub (.var 1 ⟨380, 93, 380, 98⟩) (.int 3 ⟨380, 99, 380, 100⟩) ⟨380, 93, 380, 101⟩) .nil))))))) ⟨380, 11, 380, 102⟩) (.var 5 ⟨380, 106, 380, 109⟩) ⟨380, 11, 380, 109⟩) ⟨380, 4, 380, 109⟩)
 .nil))))))))
noncomputable def D_law_right : FD := ⟨[Str.ofString "game", Str.ofString "place", Str.ofString "told", Str.ofString "chosen", Str.ofString "heard", Str.ofString "due", Str.ofString "here", Str.ofString "turn"], [Str.ofString "_law_told", Str.ofString "_law_pick", Str.ofString "best_move", Str.ofString "range", Str.ofString "max", Str.ofString "mate_line"], [(Str.ofString "game", .local), (Str.ofString "place", .local), (Str.ofString "told", .local), (Str.ofString "chosen", .local), (Str.ofString "heard", .local), (Str.ofString "due", .local), (Str.ofString "here", .local), (Str.ofString "turn", .local), (Str.ofString "_law_told", .globalImplicit), (Str.ofString "_law_pick", .globalImplicit), (Str.ofString "best_move", .globalImplicit), (Str.ofString "range", .globalImplicit), (Str.ofString "max", .globalImplicit), (Str.ofString "mate_line", .globalImplicit)], 2, B_law_right⟩
theorem F_law_right (P : Params) : FOk P 294 D_law_right := fok (ps := [(Str.ofString "game", ⟨366, 15, 366, 19⟩), (Str.ofString "place", ⟨366, 21, 366, 26⟩)]) (by kernel_rfl) (by kernel_rfl) (by kernel_rfl) (by kernel_rfl) fun fd h1 h2 h3 xs hl => by
  obtain ⟨n1, n2, n3, n4, n5, n6, n7, n8, n9, n10, n11, n12, n13, n14, n15⟩ := fd
  dsimp only at h1 h2 h3
  subst h1 h2 h3
  obtain ⟨a, b, rfl⟩ := len2 hl
  rfl
noncomputable def B_law_place : CSs :=
 (.cons (.ret (.tup (.cons (.bin .FloorDiv (.var 1 ⟨382, 12, 382, 18⟩) (.bin .Pow (.var 0 ⟨382, 22, 382, 26⟩) (.int 3 ⟨382, 30, 382, 31⟩) ⟨382, 22, 382, 31⟩) ⟨382, 12, 382, 31⟩) (.cons (.bin .Mod (.bin .FloorDiv (.var 1 ⟨382, 33, 382, 39⟩) (.bin .Pow (.var 0 ⟨382, 43, 382, 47⟩) (.int 2 ⟨382, 51, 382, 52⟩) ⟨382, 43, 382, 52⟩) ⟨382, 33, 382, 52⟩) (.var 0 ⟨382, 55, 382, 59⟩) ⟨382, 33, 382, 59⟩) (.cons (.bin .Mod (.bin .FloorDiv (.var 1 ⟨382, 61, 382, 67⟩) (.var 0 ⟨382, 71, 382, 75⟩) ⟨382, 61, 382, 75⟩) (.var 0 ⟨382, 78, 382, 82⟩) ⟨382, 61, 382, 82⟩) (.cons (.bin .Mod (.var 1 ⟨382, 84, 382, 90⟩) (.var 0 ⟨382, 93, 382, 97⟩) ⟨382, 84, 382, 97⟩) .nil)))) 0 ⟨382, 11, 382, 98⟩) ⟨382, 4, 382, 98⟩)
 .nil)
noncomputable def D_law_place : FD := ⟨[Str.ofString "size", Str.ofString "number"], [], [(Str.ofString "size", .local), (Str.ofString "number", .local)], 2, B_law_place⟩
theorem F_law_place (P : Params) : FOk P 301 D_law_place := fok (ps := [(Str.ofString "size", ⟨381, 15, 381, 19⟩), (Str.ofString "number", ⟨381, 21, 381, 27⟩)]) (by kernel_rfl) (by kernel_rfl) (by kernel_rfl) (by kernel_rfl) fun fd h1 h2 h3 xs hl => by
  obtain ⟨n1, n2, n3, n4, n5, n6, n7, n8, n9, n10, n11, n12, n13, n14, n15⟩ := fd
  dsimp only at h1 h2 h3
  subst h1 h2 h3
  obtain ⟨a, b, rfl⟩ := len2 hl
  rfl
noncomputable def B_law : CSs :=
 (.cons (.asgT [(1, ⟨384, 4, 384, 8⟩), (2, ⟨384, 10, 384, 14⟩)] 0 ⟨384, 4, 384, 14⟩ (.sub (.lst (.cons (.tup (.cons (.int 2 ⟨384, 19, 384, 20⟩) (.cons (.int 3 ⟨384, 22, 384, 23⟩) .nil)) 0 ⟨384, 18, 384, 24⟩) (.cons (.tup (.cons (.int 3 ⟨384, 27, 384, 28⟩) (.cons (.int 3 ⟨384, 30, 384, 31⟩) .nil)) 0 ⟨384, 26, 384, 32⟩) (.cons (.tup (.cons (.int 2 ⟨384, 35, 384, 36⟩) (.cons (.int 4 ⟨384, 38, 384, 39⟩) .nil)) 0 ⟨384, 34, 384, 40⟩) .nil))) ⟨384, 17, 384, 41⟩) (.bin .Mod (.call 25 ⟨384, 42, 384, 53⟩ (.cons (.var 0 ⟨384, 54, 384, 60⟩) (.cons (.int 0 ⟨384, 62, 384, 63⟩) .nil)) ⟨384, 42, 384, 64⟩) (.int 3 ⟨384, 67, 384, 68⟩) ⟨384, 42, 384, 68⟩) ⟨384, 17, 384, 69⟩) ⟨384, 4, 384, 69⟩)
 (.cons (.asg 3 ⟨385, 4, 385, 8⟩ (.bin .Mult (.var 1 ⟨385, 11, 385, 15⟩) (.var 2 ⟨385, 18, 385, 22⟩) ⟨385, 11, 385, 22⟩) ⟨385, 4, 385, 22⟩)
 (.cons (.asg 4 ⟨386, 4, 386, 8⟩ (.sub (.lst (.cons (.int 5 ⟨386, 12, 386, 13⟩) (.cons (.int 4 ⟨386, 15, 386, 16⟩) (.cons (.int 2 ⟨386, 18, 386, 19⟩) (.cons (.int 3 ⟨386, 21, 386, 22⟩) .nil)))) ⟨386, 11, 386, 23⟩) (.bin .Mod (.call 25 ⟨386, 24, 386, 35⟩ (.cons (.var 0 ⟨386, 36, 386, 42⟩) (.cons (.int 1 ⟨386, 44, 386, 45⟩) .nil)) ⟨386, 24, 386, 46⟩) (.int 4 ⟨386, 49, 386, 50⟩) ⟨386, 24, 386, 50⟩) ⟨386, 11, 386, 51⟩) ⟨386, 4, 386, 51⟩)
 (.cons (.asg 5 ⟨387, 4, 387, 8⟩ (.lst (.cons (.bin .Mod (.call 25 ⟨387, 12, 387, 23⟩ (.cons (.var 0 ⟨387, 24, 387, 30⟩) (.cons (.int 2 ⟨387, 32, 387, 33⟩) .nil)) ⟨387, 12, 387, 34⟩) (.var 3 ⟨387, 37, 387, 41⟩) ⟨387, 12, 387, 41⟩) (.cons (.bin .Mod (.call 25 ⟨387, 43, 387, 54⟩ (.cons (.var 0 ⟨387, 55, 387, 61⟩) (.cons (.int 3 ⟨387, 63, 387, 64⟩) .nil)) ⟨387, 43, 387, 65⟩) (.var 3 ⟨387, 68, 387, 72⟩) ⟨387, 43, 387, 72⟩) .nil)) ⟨387, 11, 387, 73⟩) ⟨387, 4, 387, 73⟩)
 (.cons (.ifs (.cmp .Eq (.var 3 ⟨388, 7, 388, 11⟩) (.int 6 ⟨388, 15, 388, 16⟩) ⟨388, 7, 388, 16⟩) (.cons (.asg 5 ⟨389, 8, 389, 12⟩ (.lst (.cons (.int 0 ⟨389, 16, 389, 17⟩) (.cons (.int 1 ⟨389, 19, 389, 20⟩) (.cons (.int 2 ⟨389, 22, 389, 23⟩) (.cons (.int 3 ⟨389, 25, 389, 26⟩) (.cons (.int 4 ⟨389, 28, 389, 29⟩) (.cons (.int 5 ⟨389, 31, 389, 32⟩) .nil)))))) ⟨389, 15, 389, 33⟩) ⟨389, 8, 389, 33⟩)
 .nil) .nil ⟨388, 4, 389, 33⟩)
 (.cons (.asg 6 ⟨390, 4, 390, 7⟩ (.call 7 ⟨390, 10, 390, 23⟩ (.cons (.var 1 ⟨390, 24, 390, 28⟩) (.cons (.var 2 ⟨390, 30, 390, 34⟩) (.cons (.bool false ⟨390, 36, 390, 41⟩) (.cons (.bool false ⟨390, 43, 390, 48⟩) .nil)))) ⟨390, 10, 390, 49⟩) ⟨390, 4, 390, 49⟩)
 (.cons (.asg 7 ⟨391, 4, 391, 9⟩ (.call 21 ⟨391, 12, 391, 22⟩ (.cons (.var 6 ⟨391, 23, 391, 26⟩) (.cons (.var 4 ⟨391, 28, 391, 32⟩) (.cons (.bi .sum ⟨391, 34, 391, 37⟩ (.cons (.comp1 (.bin .Pow (.int 2 ⟨391, 39, 391, 40⟩) (.var 0 ⟨391, 44, 391, 50⟩) ⟨391, 39, 391, 50⟩) (Str.ofString "square") ⟨391, 55, 391, 61⟩ (.bi .range ⟨391, 65, 391, 70⟩ (.cons (.var 3 ⟨391, 71, 391, 75⟩) .nil) ⟨391, 65, 391, 76⟩) (.cons (.cmp .In (.var 0 ⟨391, 80, 391, 86⟩) (.var 1 ⟨391, 90, 391, 94⟩) ⟨391, 80, 391, 94⟩) .nil) [5] ⟨.function, [(Str.ofString ".0", .local), (Str.ofString "square", .local), (Str.ofString "zone", .free)], false, false, []⟩ ⟨391, 38, 391, 95⟩) .nil) ⟨391, 34, 391, 96⟩) .nil))) ⟨391, 12, 391, 97⟩) ⟨391, 4, 391, 97⟩)
 (.cons (.asg 8 ⟨392, 4, 392, 8⟩ (.sdict [(⟨392, 12, 392, 17⟩, 6, ⟨392, 19, 392, 22⟩), (⟨392, 24, 392, 30⟩, 1, ⟨392, 32, 392, 36⟩), (⟨392, 38, 392, 44⟩, 2, ⟨392, 46, 392, 50⟩), (⟨392, 52, 392, 58⟩, 4, ⟨392, 60, 392, 64⟩), (⟨392, 66, 392, 73⟩, 7, ⟨392, 75, 392, 80⟩)] ⟨392, 11, 392, 81⟩) ⟨392, 4, 392, 81⟩)
 (.cons (.for1 9 ⟨393, 8, 393, 12⟩ (.tup (.cons (.int 4 ⟨393, 17, 393, 18⟩) (.cons (.int 5 ⟨393, 20, 393, 21⟩) (.cons (.int 6 ⟨393, 23, 393, 24⟩) .nil))) 0 ⟨393, 16, 393, 25⟩) (.cons (.ifs (.un .Not (.call 32 ⟨394, 15, 394, 25⟩ (.cons (.var 8 ⟨394, 26, 394, 30⟩) (.cons (.call 33 ⟨394, 32, 394, 42⟩ (.cons (.var 3 ⟨394, 43, 394, 47⟩) (.cons (.bin .Mod (.call 25 ⟨394, 49, 394, 60⟩ (.cons (.var 0 ⟨394, 61, 394, 67⟩) (.cons (.var 9 ⟨394, 69, 394, 73⟩) .nil)) ⟨394, 49, 394, 74⟩) (.bi .len ⟨394, 77, 394, 80⟩ (.cons (.var 7 ⟨394, 81, 394, 86⟩) .nil) ⟨394, 77, 394, 87⟩) ⟨394, 49, 394, 87⟩) .nil)) ⟨394, 32, 394, 88⟩) .nil)) ⟨394, 15, 394, 89⟩) ⟨394, 11, 394, 89⟩) (.cons (.ret (.bool false ⟨395, 19, 395, 24⟩) ⟨395, 12, 395, 24⟩)
 .nil) .nil ⟨394, 8, 395, 24⟩)
 .nil) ⟨393, 4, 395, 24⟩)
 (.cons (.asg 10 ⟨396, 4, 396, 7⟩ (.comp1 (.var 0 ⟨396, 11, 396, 17⟩) (Str.ofString "number") ⟨396, 22, 396, 28⟩ (.bi .range ⟨396, 32, 396, 37⟩ (.cons (.bi .len ⟨396, 38, 396, 41⟩ (.cons (.var 7 ⟨396, 42, 396, 47⟩) .nil) ⟨396, 38, 396, 48⟩) .nil) ⟨396, 32, 396, 49⟩) (.cons (.cmp .Gt (.sub (.var 1 ⟨396, 53, 396, 58⟩) (.var 0 ⟨396, 59, 396, 65⟩) ⟨396, 53, 396, 66⟩) (.int 0 ⟨396, 69, 396, 70⟩) ⟨396, 53, 396, 70⟩) .nil) [7] ⟨.function, [(Str.ofString ".0", .local), (Str.ofString "number", .local), (Str.ofString "table", .free)], false, false, []⟩ ⟨396, 10, 396, 71⟩) ⟨396, 4, 396, 71⟩)
 (.cons (.ifs (.cmp .Eq (.var 10 ⟨397, 7, 397, 10⟩) (.lst .nil ⟨397, 14, 397, 16⟩) ⟨397, 7, 397, 16⟩) (.cons (.ret (.bool true ⟨398, 15, 398, 19⟩) ⟨398, 8, 398, 19⟩)
 .nil) .nil ⟨397, 4, 398, 19⟩)
 (.cons (.ret (.call 32 ⟨399, 11, 399, 21⟩ (.cons (.var 8 ⟨399, 22, 399, 26⟩) (.cons (.call 33 ⟨399, 28, 399, 38⟩ (.cons (.var 3 ⟨399, 39, 399, 43⟩) (.cons (.sub (.var 10 ⟨399, 45, 399, 48⟩) (.bin .Mod (.call 25 ⟨399, 49, 399, 60⟩ (.cons (.var 0 ⟨399, 61, 399, 67⟩) (.cons (.int 7 ⟨399, 69, 399, 70⟩) .nil)) ⟨399, 49, 399, 71⟩) (.bi .len ⟨399, 74, 399, 77⟩ (.cons (.var 10 ⟨399, 78, 399, 81⟩) .nil) ⟨399, 74, 399, 82⟩) ⟨399, 49, 399, 82⟩) ⟨399, 45, 399, 83⟩) .nil)) ⟨399, 28, 399, 84⟩) .nil)) ⟨399, 11, 399, 85⟩) ⟨399, 4, 399, 85⟩)
 .nil))))))))))))
noncomputable def D_law : FD := ⟨[Str.ofString "script", Str.ofString "wide", Str.ofString "high", Str.ofString "size", Str.ofString "kind", Str.ofString "zone", Str.ofString "geo", Str.ofString "table", Str.ofString "game", Str.ofString "spot", Str.ofString "won"], [Str.ofString "_law_figure", Str.ofString "make_geometry", Str.ofString "build_zone", Str.ofString "sum", Str.ofString "range", Str.ofString "_law_right", Str.ofString "_law_place", Str.ofString "len"], [(Str.ofString "script", .local), (Str.ofString "wide", .local), (Str.ofString "high", .local), (Str.ofString "size", .local), (Str.ofString "kind", .local), (Str.ofString "zone", .cell), (Str.ofString "geo", .local), (Str.ofString "table", .cell), (Str.ofString "game", .local), (Str.ofString "spot", .local), (Str.ofString "won", .local), (Str.ofString "_law_figure", .globalImplicit), (Str.ofString "make_geometry", .globalImplicit), (Str.ofString "build_zone", .globalImplicit), (Str.ofString "sum", .globalImplicit), (Str.ofString "range", .globalImplicit), (Str.ofString "_law_right", .globalImplicit), (Str.ofString "_law_place", .globalImplicit), (Str.ofString "len", .globalImplicit)], 1, B_law⟩
theorem F_law (P : Params) : FOk P 306 D_law := fok (ps := [(Str.ofString "script", ⟨383, 8, 383, 14⟩)]) (by kernel_rfl) (by kernel_rfl) (by kernel_rfl) (by kernel_rfl) fun fd h1 h2 h3 xs hl => by
  obtain ⟨n1, n2, n3, n4, n5, n6, n7, n8, n9, n10, n11, n12, n13, n14, n15⟩ := fd
  dsimp only at h1 h2 h3
  subst h1 h2 h3
  obtain ⟨a, rfl⟩ := len1 hl
  rfl
noncomputable def fns (g : Nat) : Option FD := if g = 1000 then some D_init else [D_is_growing, D_add_masks, D_inner_squares, D_add_rays, D_add_pawns, D_add_knights, D_add_castles, D_make_geometry, D_ray_attacks, D_rook_attacks, D_bishop_attacks, D_queen_attacks, D_slider_attacks, D_piece_attacks, D_solve, D_index_of, D_parts_of, D_mark_places, D_weak_moves, D_strong_moves, D_moves_at, D_build_zone, D_probe, D_best_move, D_mate_line, D_law_figure, D_law_corner, D_law_reached, D_law_round, D_law_told, D_law_choices, D_law_pick, D_law_right, D_law_place, D_law][g]?
theorem fns_ok (P : Params) : ∀ g d, fns g = some d → FOk P (fad g) d := fun g d h => by
  unfold fns at h
  split at h
  · rename_i q; subst q; cases h; exact F_init P
  · match g, h with
    | 0, h => cases h; exact F_is_growing P
    | 1, h => cases h; exact F_add_masks P
    | 2, h => cases h; exact F_inner_squares P
    | 3, h => cases h; exact F_add_rays P
    | 4, h => cases h; exact F_add_pawns P
    | 5, h => cases h; exact F_add_knights P
    | 6, h => cases h; exact F_add_castles P
    | 7, h => cases h; exact F_make_geometry P
    | 8, h => cases h; exact F_ray_attacks P
    | 9, h => cases h; exact F_rook_attacks P
    | 10, h => cases h; exact F_bishop_attacks P
    | 11, h => cases h; exact F_queen_attacks P
    | 12, h => cases h; exact F_slider_attacks P
    | 13, h => cases h; exact F_piece_attacks P
    | 14, h => cases h; exact F_solve P
    | 15, h => cases h; exact F_index_of P
    | 16, h => cases h; exact F_parts_of P
    | 17, h => cases h; exact F_mark_places P
    | 18, h => cases h; exact F_weak_moves P
    | 19, h => cases h; exact F_strong_moves P
    | 20, h => cases h; exact F_moves_at P
    | 21, h => cases h; exact F_build_zone P
    | 22, h => cases h; exact F_probe P
    | 23, h => cases h; exact F_best_move P
    | 24, h => cases h; exact F_mate_line P
    | 25, h => cases h; exact F_law_figure P
    | 26, h => cases h; exact F_law_corner P
    | 27, h => cases h; exact F_law_reached P
    | 28, h => cases h; exact F_law_round P
    | 29, h => cases h; exact F_law_told P
    | 30, h => cases h; exact F_law_choices P
    | 31, h => cases h; exact F_law_pick P
    | 32, h => cases h; exact F_law_right P
    | 33, h => cases h; exact F_law_place P
    | 34, h => cases h; exact F_law P
    | g + 35, h => simp at h
open PySem PySem.W PyProof.Rows PySem.Calls
noncomputable abbrev wc := wpCall fns
section
variable {H : HH} {Q : V → HH → Prop} {q : V → Prop} {P : Bool → Prop} {x y : Int} {Φ : Calls} {loc : Loc} {p : Pos}
theorem bAdd : binV .Add (.int x) (.int y) H Q = Q (.int (x + y)) H := rfl
theorem bSub : binV .Sub (.int x) (.int y) H Q = Q (.int (x - y)) H := rfl
theorem bMul : binV .Mult (.int x) (.int y) H Q = ((small x ∨ small y) ∧ Q (.int (x * y)) H) := rfl
theorem bDiv : binV .FloorDiv (.int x) (.int y) H Q = (0 < y ∧ small y ∧ Q (.int (x.fdiv y)) H) := rfl
theorem bMod : binV .Mod (.int x) (.int y) H Q = (0 < y ∧ Q (.int (x.fmod y)) H) := rfl
theorem bPow : binV .Pow (.int x) (.int y) H Q = (0 ≤ y ∧ y ≤ 1000000 ∧ x.natAbs < 2 ^ 64 ∧ Q (.int (x ^ y.toNat)) H) := rfl
theorem bShl : binV .LShift (.int x) (.int y) H Q = (0 ≤ y ∧ y ≤ 1000000 ∧ x.natAbs < 2 ^ 64 ∧ Q (.int (x * 2 ^ y.toNat)) H) := rfl
theorem bShr : binV .RShift (.int x) (.int y) H Q = (0 ≤ y ∧ Q (.int (x.fdiv (2 ^ y.toNat))) H) := rfl
theorem bAnd : binV .BitAnd (.int x) (.int y) H Q = Q (.int (Builtin.bitAnd x y)) H := rfl
theorem bOr : binV .BitOr (.int x) (.int y) H Q = Q (.int (Builtin.bitOr x y)) H := rfl
theorem bXor : binV .BitXor (.int x) (.int y) H Q = Q (.int (Builtin.bitXor x y)) H := rfl
theorem bRep {l : Nat} : binV .Mult (.ref l) (.int y) H Q = ∃ x, H l = some (.list [x]) ∧ 0 ≤ y ∧ y ≤ szl ∧ ∀ c, H c = none → Q (.ref c) (H.set c (.list (List.replicate y.toNat x))) := rfl
theorem bCat {l r : Nat} : binV .Add (.ref l) (.ref r) H Q = ∃ vs ws, H l = some (.list vs) ∧ H r = some (.list ws) ∧ vs.length + ws.length ≤ szl ∧ ∀ c, H c = none → Q (.ref c) (H.set c (.list (vs ++ ws))) := rfl
theorem uNeg : unV .USub (.int x) H Q = Q (.int (-x)) H := rfl
theorem uInv : unV .Invert (.int x) H Q = Q (.int (Builtin.bitNot x)) H := rfl
theorem cLt : cmpV .Lt (.int x) (.int y) H P = P (decide (x < y)) := rfl
theorem cLe : cmpV .LtE (.int x) (.int y) H P = P (decide (x ≤ y)) := rfl
theorem cGt : cmpV .Gt (.int x) (.int y) H P = P (decide (y < x)) := rfl
theorem cGe : cmpV .GtE (.int x) (.int y) H P = P (decide (y ≤ x)) := rfl
theorem cEq {a b : V} : cmpV .Eq a b H P = eqV a b H P := rfl
theorem cNe {a b : V} : cmpV .NotEq a b H P = eqV a b H fun r => P (!r) := rfl
theorem cIn {a b : V} : cmpV .In a b H P = inV a b H P := rfl
theorem cNotIn {a b : V} : cmpV .NotIn a b H P = inV a b H fun r => P (!r) := rfl
theorem cIsN : cmpV .Is .none .none H P = P true := rfl
theorem cIsT {vs : List V} : cmpV .Is (.tup vs) .none H P = P false := rfl
theorem eInt : eqV (.int x) (.int y) H P = P (decide (x = y)) := rfl
theorem sTup {vs : List V} : subV (.tup vs) (.int x) H q = (0 ≤ x ∧ small x ∧ ∃ v, vs[x.toNat]? = some v ∧ q v) := rfl
theorem sFrz {vs : List V} : subV (.frz vs) (.int x) H q = (0 ≤ x ∧ small x ∧ ∃ v, vs[x.toNat]? = some v ∧ q v) := rfl
theorem sList {l : Nat} {vs : List V} {v : V} (h : H l = some (.list vs)) (h0 : 0 ≤ x) (hs : small x) (hv : vs[x.toNat]? = some v) (hq : q v) : subV (.ref l) (.int x) H q := by
  unfold subV
  simp only [h]
  exact ⟨hs, v, by rw [if_pos h0]; exact hv, hq⟩
theorem sLast {l : Nat} {vs : List V} {v : V} (h : H l = some (.list (vs ++ [v]))) (hq : q v) : subV (.ref l) (.int (-1)) H q := by
  unfold subV
  simp only [h]
  refine ⟨⟨by decide, by decide⟩, v, ?_, hq⟩
  rw [if_neg (by decide), if_pos (by simp; omega)]
  have : (((vs ++ [v]).length : Int) + -1).toNat = vs.length := by simp; omega
  rw [this]; simp
theorem sDict {l n : Nat} {f : Int → Option V} {v : V} (h : H l = some (.idict n f)) (hv : f x = some v) (hq : q v) : subV (.ref l) (.int x) H q := by
  unfold subV
  simp only [h]
  exact ⟨v, hv, hq⟩
end

theorem drop_cons {α : Type} {all r : List α} {v : α} {i : Nat} (e : all.drop i = v :: r) : all[i]? = some v ∧ all.drop (i + 1) = r ∧ i + 1 ≤ all.length := by
  have h1 : all[i]? = some v := by rw [← List.head?_drop, e]; rfl
  exact ⟨h1, by rw [← List.tail_drop, e]; rfl, (List.getElem?_eq_some_iff.mp h1).1⟩
theorem drop_nil {α : Type} {all : List α} {i : Nat} (e : all.drop i = []) (hi : i ≤ all.length) : i = all.length := Nat.le_antisymm hi (List.drop_eq_nil_iff.mp e)
theorem fLoop_inv {src : V} {all : List V} {turn : V → Loc → HH → (Fl → Loc → HH → Prop) → Prop} {Q : Fl → Loc → HH → Prop} (I : Nat → Loc → HH → Prop)
    (step : ∀ i v l h (k : Fl → Loc → HH → Prop), all[i]? = some v → I i l h → (∀ l h, I (i + 1) l h → k .next l h) → (∀ l h, I (i + 1) l h → k .cont l h) → (∀ l h, Q .next l h → k .brk l h) → (∀ w l h, Q (.ret w) l h → k (.ret w) l h) →
      items h src = some all ∧ turn v l h k)
    (fin : ∀ l h, I all.length l h → items h src = some all ∧ Q .next l h) {l : Loc} {h : HH} (h0 : I 0 l h) : fLoop src all turn Q all l h := by
  have key : ∀ (r : List V) (i : Nat) l h, i ≤ all.length → all.drop i = r → I i l h → fLoop src all turn Q r l h := by
    intro r
    induction r with
    | nil =>
      intro i l h hl e hi
      have := drop_nil e hl
      subst this
      exact fin l h hi
    | cons v r ih =>
      intro i l h hl e hi
      obtain ⟨hv, er, hl'⟩ := drop_cons e
      exact step i v l h _ hv hi (fun l h q => ih (i + 1) l h hl' er q) (fun l h q => ih (i + 1) l h hl' er q) (fun l h q => q) fun w l h q => q
  exact key all 0 l h (Nat.zero_le _) rfl h0
theorem cLoop_inv {src : V} {all : List V} {turn : V → HH → (HH → Prop) → Prop} {Q : HH → Prop} (I : Nat → HH → Prop)
    (step : ∀ i v h (k : HH → Prop), all[i]? = some v → I i h → (∀ h, I (i + 1) h → k h) → items h src = some all ∧ turn v h k)
    (fin : ∀ h, I all.length h → items h src = some all ∧ Q h) {h : HH} (h0 : I 0 h) : cLoop src all turn Q all h := by
  have key : ∀ (r : List V) (i : Nat) h, i ≤ all.length → all.drop i = r → I i h → cLoop src all turn Q r h := by
    intro r
    induction r with
    | nil =>
      intro i h hl e hi
      have := drop_nil e hl
      subst this
      exact fin h hi
    | cons v r ih =>
      intro i h hl e hi
      obtain ⟨hv, er, hl'⟩ := drop_cons e
      exact step i v h _ hv hi fun h q => ih (i + 1) h hl' er q
  exact key all 0 h (Nat.zero_le _) rfl h0

noncomputable def Ext (H H' : HH) : Prop := ∀ a co, H a = some co → H' a = some co
theorem Ext.refl (H : HH) : Ext H H := fun _ _ e => e
theorem Ext.trans {A B C : HH} (x : Ext A B) (y : Ext B C) : Ext A C := fun a co e => y a co (x a co e)
theorem Ext.set {B H : HH} {c : Nat} {o : CO} (x : Ext B H) (n : B c = none) : Ext B (H.set c o) := fun a co e => by
  have : a ≠ c := fun q => by rw [q, n] at e; cases e
  rw [set_other _ _ this]; exact x a co e
theorem Ext.new {H : HH} {c : Nat} {o : CO} (n : H c = none) : Ext H (H.set c o) := (Ext.refl H).set n
theorem Ext.none {B H : HH} {c : Nat} (x : Ext B H) (n : H c = none) : B c = none := by
  cases q : B c with
  | none => rfl
  | some o => rw [x c o q] at n; cases n
theorem items_ext {H H' : HH} (x : Ext H H') {v : V} {all : List V} (e : items H v = some all) : items H' v = some all := by
  unfold items at e ⊢
  split at e
  · rename_i l
    split at e
    · rename_i vs hl; rw [x _ _ hl]; exact e
    · cases e
  · exact e
  · exact e
  · cases e

/-- what is held above a heap B that stands -/
structure Own' (B : HH) (H : HH) (L : List (Nat × CO)) : Prop where
  nod : (L.map (·.1)).Nodup
  at_ : ∀ p ∈ L, H p.1 = some p.2
  new : ∀ p ∈ L, B p.1 = none
  ext : Ext B H
theorem Own'.nil (B : HH) : Own' B B [] := ⟨List.nodup_nil, fun _ h => (nomatch h), fun _ h => (nomatch h), Ext.refl B⟩
theorem Own'.alloc {B H : HH} {L : List (Nat × CO)} (x : Own' B H L) {c : Nat} {o : CO} (n : H c = none) : Own' B (H.set c o) ((c, o) :: L) where
  nod := by
    rw [List.map_cons, List.nodup_cons]
    refine ⟨fun h => ?_, x.nod⟩
    obtain ⟨p, hp, e⟩ := List.mem_map.mp h
    have := x.at_ p hp
    rw [e, n] at this; cases this
  at_ := fun p hp => by
    rcases List.mem_cons.mp hp with rfl | hp
    · exact set_same _ _ _
    · have h := x.at_ p hp
      rw [set_other _ _ fun e => by rw [e, n] at h; cases h]; exact h
  new := fun p hp => by
    rcases List.mem_cons.mp hp with rfl | hp
    · exact x.ext.none n
    · exact x.new p hp
  ext := x.ext.set (x.ext.none n)
theorem Own'.upd {B H : HH} {L : List (Nat × CO)} (x : Own' B H L) (i : Nat) {a : Nat} {o o' : CO} (h : L[i]? = some (a, o)) : Own' B (H.set a o') (L.set i (a, o')) := by
  have hi : i < L.length := (List.getElem?_eq_some_iff.mp h).1
  have hm : (a, o) ∈ L := List.mem_of_getElem? h
  have em : (L.set i (a, o')).map (·.1) = L.map (·.1) := by
    rw [List.map_set]
    apply List.ext_getElem?
    intro j
    rw [List.getElem?_set]
    split
    · rename_i q; subst q; rw [List.length_map, if_pos hi, List.getElem?_map, h]; rfl
    · rfl
  refine ⟨by rw [em]; exact x.nod, fun p hp => ?_, fun p hp => ?_, x.ext.set (x.new _ hm)⟩
  · obtain ⟨j, hj⟩ := List.mem_iff_getElem?.mp hp
    rw [List.getElem?_set] at hj
    split at hj
    · cases hj; exact set_same _ _ _
    · rename_i ne
      have hpL : p ∈ L := List.mem_of_getElem? hj
      have h2 := x.at_ p hpL
      refine (set_other _ _ fun e => ne ?_).trans h2
      have h3 : (L.map (·.1))[i]? = some a := by rw [List.getElem?_map, h]; rfl
      have h4 : (L.map (·.1))[j]? = some a := by rw [List.getElem?_map, hj]; exact congrArg some e
      exact (List.getElem?_inj (by rw [List.length_map]; exact hi) x.nod).mp (h3.trans h4.symm)
  · obtain ⟨j, hj⟩ := List.mem_iff_getElem?.mp hp
    rw [List.getElem?_set] at hj
    split at hj
    · cases hj; exact x.new (a, o) hm
    · exact x.new p (List.mem_of_getElem? hj)
theorem Own'.sub {B H : HH} {L L' : List (Nat × CO)} (x : Own' B H L) (s : L'.Sublist L) : Own' B H L' :=
  ⟨x.nod.sublist (s.map _), fun p hp => x.at_ p (s.subset hp), fun p hp => x.new p (s.subset hp), x.ext⟩
theorem Own'.perm {B H : HH} {L L' : List (Nat × CO)} (x : Own' B H L) (s : L.Perm L') : Own' B H L' :=
  ⟨(s.map _).nodup_iff.mp x.nod, fun p hp => x.at_ p (s.mem_iff.mpr hp), fun p hp => x.new p (s.mem_iff.mpr hp), x.ext⟩
theorem Own'.get {B H : HH} {L : List (Nat × CO)} (x : Own' B H L) (i : Nat) {a : Nat} {o : CO} (h : L[i]? = some (a, o)) : H a = some o := x.at_ _ (List.mem_of_getElem? h)

noncomputable def cF (Φ : Calls) (r : CSs) (Q : Fl → Loc → HH → Prop) : Fl → Loc → HH → Prop := fun f l h => match f with
  | .next => Bx (wpSs Φ r l h Q)
  | f => Q f l h
section
variable {Φ : Calls} {r : CSs} {Q : Fl → Loc → HH → Prop} {loc : Loc} {H B : HH} {L : List (Nat × CO)}
theorem ssC {e : CS} : wpSs Φ (.cons e r) loc H Q = wpS Φ e loc H (cF Φ r Q) := rfl
theorem ssN : wpSs Φ .nil loc H Q = Q .next loc H := rfl
theorem cFn : cF Φ r Q .next loc H = Bx (wpSs Φ r loc H Q) := rfl
theorem cFr {v : V} : cF Φ r Q (.ret v) loc H = Q (.ret v) loc H := rfl
theorem cFc : cF Φ r Q .cont loc H = Q .cont loc H := rfl
theorem cFb : cF Φ r Q .brk loc H = Q .brk loc H := rfl
theorem tAttr (O : Own' B H L) (ix id : Nat) {x dx c n : Nat} {v : V} {sl : List (Option V)} {q : HH → Prop} (hx : L[ix]? = some (x, .inst dx)) (hd : L[id]? = some (dx, .attrs c sl)) (hn : n < sl.length) (hc : c < 1000) (h14 : n < 14)
    (h : ∀ H', Own' B H' (L.set id (dx, .attrs (c + 1) (sl.set n (some v)))) → q H') : wrA H x n v q :=
  ⟨dx, c, sl, O.get ix hx, O.get id hd, hn, hc, h14, h _ (O.upd id hd)⟩
/-- a place of a list -/
theorem tPut1 (O : Own' B H L) (i : Nat) {a : Nat} {o o' : CO} (h : L[i]? = some (a, o)) (q : ∀ H', Own' B H' (L.set i (a, o')) → wpSs Φ r loc H' Q) : wpSs Φ r loc (H.set a o') Q := q _ (O.upd i h)
theorem tPutK {K : Fl → Loc → HH → Prop} {f : Fl} (O : Own' B H L) (i : Nat) {a : Nat} {o o' : CO} (h : L[i]? = some (a, o)) (q : ∀ H', Own' B H' (L.set i (a, o')) → K f loc H') : K f loc (H.set a o') := q _ (O.upd i h)
theorem tK {e : CS} (h : wpS Φ e loc H (cF Φ r Q)) : wpSs Φ (.cons e r) loc H Q := h
theorem tRA {g k dx n : Nat} {sl : List (Option V)} {v : V} {q : V → Prop} (h2 : H g = some (.inst dx)) (h3 : H dx = some (.attrs n sl)) (h4 : sl[k]? = some (some v)) (h : q v) : rdA H g k q := ⟨dx, n, sl, v, h2, h3, h4, h⟩
theorem tRK {l k : Nat} {vs : List V} {v : V} {q : V → Prop} (h2 : H l = some (.sdict vs)) (h3 : vs[k]? = some v) (h : q v) : rdK H l k q := ⟨vs, v, h2, h3, h⟩
theorem tAp {l : Nat} {us : List V} {v : V} {q : HH → Prop} (h1 : H l = some (.list us)) (h : us.length ≤ szl ∧ q (H.set l (.list (us ++ [v])))) : apL H l v q := ⟨us, h1, h⟩
theorem tEx {l : Nat} {us : List V} {P : Prop} (h1 : H l = some (.list us)) (h : P) : (∃ us, H l = some (.list us)) ∧ P := ⟨⟨us, h1⟩, h⟩
theorem tWL {l : Nat} {us : List V} {k x : Int} {q : HH → Prop} (h1 : H l = some (.list us)) (h : k < us.length ∧ q (H.set l (.list (us.set k.toNat (.int x))))) : wrL H l k x q := ⟨us, h1, h⟩
theorem tWI {l : Nat} {us : List V} {k : Int} {v : V} {q : HH → Prop} (h1 : H l = some (.list us)) (h : 0 ≤ k ∧ k < us.length ∧ small k ∧ q (H.set l (.list (us.set k.toNat v)))) : wrI H l k v q := by
  unfold wrI; rw [h1]; exact h
theorem tWD {l n : Nat} {f : Int → Option V} {k : Int} {v : V} {q : HH → Prop} (h1 : H l = some (.idict n f)) (h : n ≤ szl ∧ q (H.set l (.idict (n + 1) fun j => if j = k then some v else f j))) : wrI H l k v q := by
  unfold wrI; rw [h1]; exact h
theorem tWA {g k dx n : Nat} {sl : List (Option V)} {v : V} {q : HH → Prop} (h2 : H g = some (.inst dx)) (h3 : H dx = some (.attrs n sl)) (h : k < sl.length ∧ n < 1000 ∧ k < 14 ∧ q (H.set dx (.attrs (n + 1) (sl.set k (some v))))) : wrA H g k v q := ⟨dx, n, sl, h2, h3, h⟩
theorem tRep {l : Nat} {x : V} {y : Int} {q : V → HH → Prop} (h1 : H l = some (.list [x])) (h : 0 ≤ y ∧ y ≤ szl ∧ ∀ c, H c = none → q (.ref c) (H.set c (.list (List.replicate y.toNat x)))) : binV .Mult (.ref l) (.int y) H q := ⟨x, h1, h⟩
theorem tLen {l : Nat} {us : List V} {q : V → HH → Prop} (h1 : H l = some (.list us)) (h : us.length < 2 ^ 62 ∧ q (.int us.length) H) : biV .len [.ref l] H q := ⟨us, h1, h⟩
theorem tTs {us : List V} {k : Int} {q : V → Prop} (h : 0 ≤ k ∧ small k ∧ ∃ v, us[k.toNat]? = some v ∧ q v) : subV (.tup us) (.int k) H q := h
/-- a tuple's place that is written -/
theorem tT0 {v : V} {us : List V} {q : V → Prop} (h : q v) : subV (.tup (v :: us)) (.int 0) H q := ⟨by decide, ⟨by decide, by decide⟩, v, rfl, h⟩
theorem tT1 {u0 : V} {v : V} {us : List V} {q : V → Prop} (h : q v) : subV (.tup (u0 :: v :: us)) (.int 1) H q := ⟨by decide, ⟨by decide, by decide⟩, v, rfl, h⟩
theorem tT2 {u0 u1 : V} {v : V} {us : List V} {q : V → Prop} (h : q v) : subV (.tup (u0 :: u1 :: v :: us)) (.int 2) H q := ⟨by decide, ⟨by decide, by decide⟩, v, rfl, h⟩
theorem tT3 {u0 u1 u2 : V} {v : V} {us : List V} {q : V → Prop} (h : q v) : subV (.tup (u0 :: u1 :: u2 :: v :: us)) (.int 3) H q := ⟨by decide, ⟨by decide, by decide⟩, v, rfl, h⟩
theorem tT4 {u0 u1 u2 u3 : V} {v : V} {us : List V} {q : V → Prop} (h : q v) : subV (.tup (u0 :: u1 :: u2 :: u3 :: v :: us)) (.int 4) H q := ⟨by decide, ⟨by decide, by decide⟩, v, rfl, h⟩
theorem tT5 {u0 u1 u2 u3 u4 : V} {v : V} {us : List V} {q : V → Prop} (h : q v) : subV (.tup (u0 :: u1 :: u2 :: u3 :: u4 :: v :: us)) (.int 5) H q := ⟨by decide, ⟨by decide, by decide⟩, v, rfl, h⟩
theorem tT6 {u0 u1 u2 u3 u4 u5 : V} {v : V} {us : List V} {q : V → Prop} (h : q v) : subV (.tup (u0 :: u1 :: u2 :: u3 :: u4 :: u5 :: v :: us)) (.int 6) H q := ⟨by decide, ⟨by decide, by decide⟩, v, rfl, h⟩
theorem tT7 {u0 u1 u2 u3 u4 u5 u6 : V} {v : V} {us : List V} {q : V → Prop} (h : q v) : subV (.tup (u0 :: u1 :: u2 :: u3 :: u4 :: u5 :: u6 :: v :: us)) (.int 7) H q := ⟨by decide, ⟨by decide, by decide⟩, v, rfl, h⟩
end

theorem r_finF {v : V} {q : V → Prop} : fin false v q = q v := rfl
theorem r_finI {i : Int} {q : V → Prop} : fin true (.int i) q = q (.bool (decide (i ≠ 0))) := rfl
theorem r_finB {b : Bool} {q : V → Prop} : fin true (.bool b) q = q (.bool b) := rfl
theorem r_tstI {i : Int} {q : Bool → Prop} : tst (.int i) q = q (decide (i ≠ 0)) := rfl
theorem r_tstB {b : Bool} {q : Bool → Prop} : tst (.bool b) q = q b := rfl
theorem r_isB {b : Bool} {q : Bool → Prop} : isB (.bool b) q = q b := rfl
theorem r_isI {b : Int} {q : Int → Prop} : isI (.int b) q = q b := rfl
theorem r_isR {b : Nat} {q : Nat → Prop} : isR (.ref b) q = q b := rfl
theorem r_isT {b : List V} {q : List V → Prop} : isT (.tup b) q = q b := rfl
theorem r_isN {q : Prop} : isN .none q = q := rfl
theorem r_isF {q : Prop} : isF false q = q := rfl
theorem r_iT {a b : Prop} : iteB true a b = a := rfl
theorem r_iF {a b : Prop} : iteB false a b = b := rfl
theorem r_og {v : V} {q : V → Prop} : oget (some v) q = q v := rfl
theorem r_gt0 {k : List Int → Prop} : gtK 0 k = k [0, 1, 0, -1, 1, 1, -1, -1] := rfl
theorem r_gt1 {k : List Int → Prop} : gtK 1 k = k [1, 0, -1, 0, 1, -1, -1, 1] := rfl
theorem r_aA {x y : Int} {k : Int → Prop} : augK .Add x y k = k (x + y) := rfl
theorem r_aS {x y : Int} {k : Int → Prop} : augK .Sub x y k = k (x - y) := rfl
theorem r_aO {x y : Int} {k : Int → Prop} : augK .BitOr x y k = k (Builtin.bitOr x y) := rfl
theorem r_two {a b c d : V} {k : V → V → Prop} : two [a, b, c, d] k = k a b := rfl
theorem r_mc {x : Int} {l : List Int} : (x :: l).map V.int = .int x :: l.map V.int := rfl
theorem r_mn : List.map V.int [] = [] := rfl
theorem r_nt : (!true) = false := rfl
theorem r_nf : (!false) = true := rfl
theorem tIT {a b : Prop} (h : a) : iteB true a b := h
theorem tIF {a b : Prop} (h : b) : iteB false a b := h
theorem tITd {c : Bool} {a b : Prop} (h : c = true) (q : a) : iteB c a b := by subst h; exact q
theorem tIFd {c : Bool} {a b : Prop} (h : c = false) (q : b) : iteB c a b := by subst h; exact q
theorem vget_mk {v : V} {k : V → Prop} : ∀ {loc : Loc} {i : Nat}, loc[i]? = some (some v) → k v → vget loc i k
  | [], i, h, _ => by rw [List.getElem?_nil] at h; cases h
  | o :: l, 0, h, q => by cases h; exact q
  | o :: l, n + 1, h, q => vget_mk (loc := l) (i := n) h q
theorem tGt {op : BoolOp} {c : Bool} {a b : Prop} (h : c = true) (q : bopGo op true a b) : bopGo op c a b := by subst h; exact q
theorem tGf {op : BoolOp} {c : Bool} {a b : Prop} (h : c = false) (q : bopGo op false a b) : bopGo op c a b := by subst h; exact q
theorem goAT {a b : Prop} : bopGo .And true a b = b := rfl
theorem goAF {a b : Prop} : bopGo .And false a b = a := rfl
theorem goOT {a b : Prop} : bopGo .Or true a b = a := rfl
theorem goOF {a b : Prop} : bopGo .Or false a b = b := rfl
noncomputable def iot (n : Nat) : List Int := (List.range n).map fun (i : Nat) => (i : Int)
theorem rng_up (n : Nat) : rangeL 0 n 1 = (iot n).map V.int := by
  have e : rangeLen 0 n 1 = n := by
    unfold rangeLen Builtin.Range.rangeSize
    by_cases h : 0 < n
    · have h' : (0 : Int) < n := by omega
      simp [h, h']
    · have h' : ¬ (0 : Int) < n := by omega
      simp [h']; omega
  unfold rangeL iot
  rw [e, List.map_map]
  refine List.map_congr_left fun i _ => ?_
  show V.int (0 + (i : Int) * 1) = V.int (i : Int)
  congr 1; omega
theorem rng_from (a n : Nat) (h : a ≤ n) : rangeL a n 1 = ((iot (n - a)).map fun i => V.int (a + i)) := by
  have e : rangeLen a n 1 = n - a := by
    unfold rangeLen Builtin.Range.rangeSize
    by_cases h : a < n
    · have h' : (a : Int) < n := by omega
      simp [h']
    · have h' : ¬ (a : Int) < n := by omega
      simp [h']; omega
  unfold rangeL iot
  rw [e, List.map_map]
  refine List.map_congr_left fun i _ => ?_
  show V.int ((a : Int) + (i : Int) * 1) = V.int ((a : Int) + (i : Int))
  congr 1; omega
theorem rng_down (n : Nat) : rangeL ((n : Int) - 1) (-1) (-1) = ((iot n).map fun i => V.int ((n : Int) - 1 - i)) := by
  have e : rangeLen ((n : Int) - 1) (-1) (-1) = n := by
    unfold rangeLen Builtin.Range.rangeSize
    by_cases h : 0 < n
    · have h' : (-1 : Int) < (n : Int) - 1 := by omega
      simp [h']
    · have h' : ¬ (-1 : Int) < (n : Int) - 1 := by omega
      simp [h']; omega
  unfold rangeL iot
  rw [e, List.map_map]
  refine List.map_congr_left fun i _ => ?_
  show V.int ((n : Int) - 1 + (i : Int) * -1) = V.int ((n : Int) - 1 - (i : Int))
  congr 1; omega
theorem iot_get {n i : Nat} {x : Int} (h : (iot n)[i]? = some x) : x = (i : Int) ∧ i < n := by
  unfold iot at h
  rw [List.getElem?_map] at h
  obtain ⟨j, hj, rfl⟩ := Option.map_eq_some_iff.mp h
  obtain ⟨h1, h2⟩ := List.getElem?_eq_some_iff.mp hj
  rw [List.length_range] at h1
  rw [List.getElem_range] at h2
  exact ⟨by rw [h2], h1⟩
theorem iot_len (n : Nat) : (iot n).length = n := by unfold iot; simp
theorem biRange1 {n : Int} {H : HH} {Q : V → HH → Prop} : biV .range [.int n] H Q = (small n ∧ Q (.rng 0 n 1) H) := rfl
theorem biRange2 {a n : Int} {H : HH} {Q : V → HH → Prop} : biV .range [.int a, .int n] H Q = (small a ∧ small n ∧ Q (.rng a n 1) H) := rfl
theorem biRange3 {a n c : Int} {H : HH} {Q : V → HH → Prop} : biV .range [.int a, .int n, .int c] H Q = (small a ∧ small n ∧ (c = 1 ∨ c = -1) ∧ Q (.rng a n c) H) := rfl
theorem biAbs {n : Int} {H : HH} {Q : V → HH → Prop} : biV .abs [.int n] H Q = Q (.int n.natAbs) H := rfl
theorem biMax2 {a n : Int} {H : HH} {Q : V → HH → Prop} : biV .max [.int a, .int n] H Q = Q (.int (max a n)) H := rfl
theorem biLen {l : Nat} {H : HH} {Q : V → HH → Prop} : biV .len [.ref l] H Q = ∃ vs, H l = some (.list vs) ∧ vs.length < 2 ^ 62 ∧ Q (.int vs.length) H := rfl

/-- a for over items that are known, as a fold -/
theorem tFold {σ : Type} {src : V} {vs : List V} {turn : V → Loc → HH → (Fl → Loc → HH → Prop) → Prop} {Q : Fl → Loc → HH → Prop} {l : Loc} {h : HH} (st : σ → V → σ) (s0 : σ) (Rep : Nat → σ → Loc → HH → Prop)
    (hs : ∀ i s l h, Rep i s l h → items h src = some vs) (h0 : Rep 0 s0 l h)
    (step : ∀ i s x l h (k : Fl → Loc → HH → Prop), vs[i]? = some x → Rep i s l h → (∀ l h, Rep (i + 1) (st s x) l h → k .next l h) → (∀ l h, Rep (i + 1) (st s x) l h → k .cont l h) → turn x l h k)
    (fin : ∀ l h, Rep vs.length (vs.foldl st s0) l h → Q .next l h) : ∃ all, items h src = some all ∧ fLoop src all turn Q all l h := by
  refine ⟨vs, hs 0 s0 l h h0, fLoop_inv (fun i l h => Rep i ((vs.take i).foldl st s0) l h) (fun i v l h k hv r k1 k2 _ _ => ⟨hs _ _ _ _ r, step i _ v l h k hv r ?_ ?_⟩) (fun l h r => ?_) (by simpa using h0)⟩
  · intro l h r
    refine k1 l h ?_
    rw [List.take_add_one, hv, List.foldl_append]; exact r
  · intro l h r
    refine k2 l h ?_
    rw [List.take_add_one, hv, List.foldl_append]; exact r
  · rw [List.take_length] at r
    exact ⟨hs _ _ _ _ r, fin l h r⟩
open PySem PySem.W PyProof.Rows PySem.Calls
local macro_rules | `(tactic| walk_at "zd") => `(tactic| dsimp only [wpS, ssN, cFn, cFr, cFc, cFb, wpE, wpEs, wpB, r_finF, r_finI, r_finB, r_tstI, r_tstB, r_isB, r_isI, r_isR, r_isT, r_isN, r_isF, r_og, vget, vset, lenK, igl, giv, r_gt0, r_gt1, putK, r_aA, r_aS, r_aO, r_two, goAT, goAF, goOT, goOF, bAdd, bSub, bMul, bDiv, bMod, bPow, bShl, bShr, bAnd, bOr, bXor, uNeg, uInv, cLt, cLe, cGt, cGe, cEq, cNe, cIn, cNotIn, cIsN, cIsT, eInt, biRange1, biRange2, biRange3, biAbs, biMax2, r_mc, r_mn, r_nt, r_nf])
local macro_rules | `(tactic| walk_at "z") => `(tactic| (first | (with_reducible first | refine Bx.mk ?_ | refine tIT ?_ | refine tIF ?_) | (with_reducible refine' tRA ?h1 ?h2 ?h3 ?_; (case h1 => (with_reducible assumption)); (case h2 => (with_reducible assumption)); (case h3 => (with_unfolding_all exact rfl))) | (with_reducible refine' tRK ?h1 ?h2 ?_; (case h1 => (with_reducible assumption)); (case h2 => (with_unfolding_all exact rfl))) | (with_reducible first | refine tT0 ?_ | refine tT1 ?_ | refine tT2 ?_ | refine tT3 ?_) | (with_reducible refine' tEx ?h1 ?_; (case h1 => (with_reducible assumption))) | (with_reducible refine' tWA ?h1 ?h2 ?_; (case h1 => (with_reducible assumption)); (case h2 => (with_reducible assumption))) | (with_reducible refine' tAp ?h1 ?_; (case h1 => (with_reducible assumption))) | (with_reducible refine' tWL ?h1 ?_; (case h1 => (with_reducible assumption))) | (with_reducible refine' tRep ?h1 ?_; (case h1 => (with_reducible assumption))) | (with_reducible refine' tLen ?h1 ?_; (case h1 => (with_reducible assumption))) | (with_reducible refine And.intro (show (OfNat.ofNat _ : Int) ≤ OfNat.ofNat _ by decide) ?_) | (with_reducible refine And.intro (show (OfNat.ofNat _ : Int) < OfNat.ofNat _ by decide) ?_) | (with_reducible refine tTs ?_) | (with_reducible refine' vget_mk ?h1 ?_; (case h1 => (with_reducible assumption))) | (with_reducible refine' tGt ?h1 ?_; (case h1 => decide)) | (with_reducible refine' tGf ?h1 ?_; (case h1 => decide)) | (with_reducible refine' tITd ?h1 ?_; (case h1 => decide)) | (with_reducible refine' tIFd ?h1 ?_; (case h1 => decide))); (try walk_at "zd"))
local macro_rules | `(tactic| walk_at "zz") => `(tactic| ((try walk_at "zd"); repeat walk_at "z"))
local macro_rules | `(tactic| walk_at "zg") => `(tactic| ((try walk_at "zd"); (try with_reducible refine Bx.mk ?_); refine tK ?_; walk_at "zz"))

theorem c_index {n : Nat} {size side a b c : Int} {H : HH} {Q : V → HH → Prop} (hs : small size) (q : Q (.int (((side * size + a) * size + b) * size + c)) H) : wc (n + 1) 15 [.int size, .int side, .int a, .int b, .int c] H Q := by
  refine ⟨D_index_of, rfl, rfl, ?_⟩; walk_at "zz"
  change wpSs _ B_index_of [some (.int size), some (.int side), some (.int a), some (.int b), some (.int c)] H _
  unfold B_index_of
  walk_at "zg"
  exact ⟨.inr hs, .inr hs, .inr hs, q⟩
theorem c_parts {n : Nat} {size k : Int} {H : HH} {Q : V → HH → Prop} (hs : 0 < size) (h2 : size < 1000) (q : Q (.tup [.int (k.fdiv (size * size * size)), .int ((k.fdiv (size * size)).fmod size), .int ((k.fdiv size).fmod size), .int (k.fmod size)]) H) : wc (n + 1) 16 [.int size, .int k] H Q := by
  refine ⟨D_parts_of, rfl, rfl, ?_⟩; walk_at "zz"
  change wpSs _ B_parts_of [some (.int size), some (.int k)] H _
  have s1 : small size := ⟨by omega, by omega⟩
  have p2 : 0 < size * size := Int.mul_pos hs hs
  have p3 : 0 < size * size * size := Int.mul_pos p2 hs
  have l2 : size * size < 1000000 := by
    have := Int.mul_lt_mul h2 (Int.le_of_lt h2) hs (by omega : (0:Int) ≤ 1000); omega
  have l3 : size * size * size < 1000000000 := by
    have := Int.mul_lt_mul l2 (Int.le_of_lt h2) hs (by omega : (0:Int) ≤ 1000000); omega
  have s2 : small (size * size) := ⟨by omega, by omega⟩
  have s3 : small (size * size * size) := ⟨by omega, by omega⟩
  unfold B_parts_of
  walk_at "zg"
  exact ⟨.inr s1, .inr s1, p3, s3, .inr s1, p2, s2, hs, hs, s1, hs, hs, q⟩
noncomputable def grow (d : Int) : Bool := d == 0 || d == 1 || d == 4 || d == 7
theorem c_grow {n : Nat} {d : Int} {H : HH} {Q : V → HH → Prop} (h0 : 0 ≤ d) (h8 : d < 8) (q : Q (.bool (grow d)) H) : wc (n + 1) 0 [.int d] H Q := by
  refine ⟨D_is_growing, rfl, rfl, ?_⟩; walk_at "zz"
  change wpSs _ B_is_growing [some (.int d)] H _
  obtain ⟨m, rfl⟩ : ∃ m : Nat, d = m := ⟨d.toNat, by omega⟩
  have hd := (by decide : ∀ m < 8, m = 0 ∨ m = 1 ∨ m = 2 ∨ m = 3 ∨ m = 4 ∨ m = 5 ∨ m = 6 ∨ m = 7) m (by omega)
  rcases hd with rfl | rfl | rfl | rfl | rfl | rfl | rfl | rfl <;>
    (unfold B_is_growing; walk_at "zg"; (try refine ⟨⟨by decide, by decide⟩, _, rfl, ?_⟩); walk_at "zz"; (try first | rw [show decide ((0 : Int) < 1) = true from rfl] | rw [show decide ((0 : Int) < 0) = false from rfl] | rw [show decide ((0 : Int) < -1) = false from rfl]); walk_at "zz"; exact q)
theorem c_corner {n : Nat} {w k : Int} {H : HH} {Q : V → HH → Prop} (hs : 0 < w) (h2 : small w) (q : Q (.tup [.int (k.fmod w), .int (k.fdiv w)]) H) : wc (n + 1) 26 [.int w, .int k] H Q := by
  refine ⟨D_law_corner, rfl, rfl, ?_⟩; walk_at "zz"
  change wpSs _ B_law_corner [some (.int w), some (.int k)] H _
  unfold B_law_corner
  walk_at "zg"
  exact ⟨hs, hs, h2, q⟩
theorem c_figure {n : Nat} {ns : List Int} {k : Nat} {H : HH} {Q : V → HH → Prop} (hn : ns.length ≤ 63) (hk : k < 1000) (q : ∀ i, Q (.int i) H) : wc (n + 1) 25 [.frz (ns.map V.int), .int k] H Q := by
  refine ⟨D_law_figure, rfl, rfl, ?_⟩; walk_at "zz"
  change wpSs _ B_law_figure [some (.frz (ns.map V.int)), some (.int k)] H _
  have hsk : small (k : Int) := ⟨by omega, by omega⟩
  unfold B_law_figure
  walk_at "zg"
  refine ⟨by rw [List.length_map]; exact Nat.lt_of_le_of_lt hn (by decide), ?_⟩; walk_at "zz"
  cases h : decide ((k : Int) < ((ns.map V.int).length : Int))
  · walk_at "zz"
    exact ⟨.inr hsk, .inr hsk, .inr hsk, q _⟩
  · have h' := of_decide_eq_true h
    rw [List.length_map] at h'
    have h' : k < ns.length := by omega
    walk_at "zz"
    refine ⟨by omega, hsk, .int ns[k], ?_, q _⟩
    rw [List.getElem?_map, show (k : Int).toNat = k from rfl, List.getElem?_eq_getElem h']; rfl
open PySem PySem.W PyProof.Rows PySem.Calls

theorem c_init {n : Nat} {B H : HH} {x dx : Nat} {f r : Int} {Q : V → HH → Prop} (O : Own' B H [(x, .inst dx), (dx, .attrs 0 (attn.map fun _ => none))]) (hf : 0 < f) (hf2 : f < 10) (hr : 0 < r) (hr2 : r < 5)
    (q : ∀ (H' : HH) (fm rm rays king knight pawn castles rights p0 p1 : Nat), Own' B H' [(rights, .list []), (castles, .list []), (pawn, .list [.ref p0, .ref p1]), (p1, .list []), (p0, .list []), (knight, .list []), (king, .list []), (rays, .list []), (rm, .list []), (fm, .list []), (x, .inst dx), (dx, .attrs 14 [some (.int f), some (.int r), some (.int (f * r)), some (.int (1 * 2 ^ (f * r).toNat - 1)), some (.bool false), some (.bool false), some (.ref fm), some (.ref rm), some (.ref rays), some (.ref king), some (.ref knight), some (.ref pawn), some (.ref castles), some (.ref rights)])] → Q .none H') : wc (n + 1) 1000 [.ref x, .int f, .int r, .bool false, .bool false] H Q := by
  refine ⟨D_init, rfl, rfl, ?_⟩; walk_at "zz"
  change wpSs _ B_init [some (.ref x), some (.int f), some (.int r), some (.bool false), some (.bool false)] H _
  have sm : small f ∨ small r := .inl ⟨by omega, by omega⟩
  have p1 : 0 < f * r := Int.mul_pos hf hr
  have p2 : f * r ≤ 9 * 4 := Int.mul_le_mul (by omega) (by omega) (by omega) (by omega)
  unfold B_init
  walk_at "zg"
  refine tAttr O 0 1 rfl rfl (by show 0 < 14; decide) (by decide) (by decide) fun H O => ?_; walk_at "zz"
  replace O : Own' B H [(x, .inst dx), (dx, .attrs 1 [some (.int f), none, none, none, none, none, none, none, none, none, none, none, none, none])] := O
  walk_at "zg"
  refine tAttr O 0 1 rfl rfl (by show 1 < 14; decide) (by decide) (by decide) fun H O => ?_; walk_at "zz"
  replace O : Own' B H [(x, .inst dx), (dx, .attrs 2 [some (.int f), some (.int r), none, none, none, none, none, none, none, none, none, none, none, none])] := O
  walk_at "zg"
  refine ⟨sm, ?_⟩; walk_at "zz"
  refine tAttr O 0 1 rfl rfl (by show 2 < 14; decide) (by decide) (by decide) fun H O => ?_; walk_at "zz"
  replace O : Own' B H [(x, .inst dx), (dx, .attrs 3 [some (.int f), some (.int r), some (.int (f * r)), none, none, none, none, none, none, none, none, none, none, none])] := O
  walk_at "zg"
  refine ⟨sm, by omega, by omega, by decide, ?_⟩; walk_at "zz"
  refine tAttr O 0 1 rfl rfl (by show 3 < 14; decide) (by decide) (by decide) fun H O => ?_; walk_at "zz"
  replace O : Own' B H [(x, .inst dx), (dx, .attrs 4 [some (.int f), some (.int r), some (.int (f * r)), some (.int (1 * 2 ^ (f * r).toNat - 1)), none, none, none, none, none, none, none, none, none, none])] := O
  walk_at "zg"
  refine tAttr O 0 1 rfl rfl (by show 4 < 14; decide) (by decide) (by decide) fun H O => ?_; walk_at "zz"
  replace O : Own' B H [(x, .inst dx), (dx, .attrs 5 [some (.int f), some (.int r), some (.int (f * r)), some (.int (1 * 2 ^ (f * r).toNat - 1)), some (.bool false), none, none, none, none, none, none, none, none, none])] := O
  walk_at "zg"
  refine tAttr O 0 1 rfl rfl (by show 5 < 14; decide) (by decide) (by decide) fun H O => ?_; walk_at "zz"
  replace O : Own' B H [(x, .inst dx), (dx, .attrs 6 [some (.int f), some (.int r), some (.int (f * r)), some (.int (1 * 2 ^ (f * r).toNat - 1)), some (.bool false), some (.bool false), none, none, none, none, none, none, none, none])] := O
  walk_at "zg"
  intro fm h_fm
  replace O := O.alloc (o := .list []) h_fm
  refine tAttr O 1 2 rfl rfl (by show 6 < 14; decide) (by decide) (by decide) fun H O => ?_; walk_at "zz"
  replace O : Own' B H [(fm, .list []), (x, .inst dx), (dx, .attrs 7 [some (.int f), some (.int r), some (.int (f * r)), some (.int (1 * 2 ^ (f * r).toNat - 1)), some (.bool false), some (.bool false), some (.ref fm), none, none, none, none, none, none, none])] := O
  walk_at "zg"
  intro rm h_rm
  replace O := O.alloc (o := .list []) h_rm
  refine tAttr O 2 3 rfl rfl (by show 7 < 14; decide) (by decide) (by decide) fun H O => ?_; walk_at "zz"
  replace O : Own' B H [(rm, .list []), (fm, .list []), (x, .inst dx), (dx, .attrs 8 [some (.int f), some (.int r), some (.int (f * r)), some (.int (1 * 2 ^ (f * r).toNat - 1)), some (.bool false), some (.bool false), some (.ref fm), some (.ref rm), none, none, none, none, none, none])] := O
  walk_at "zg"
  intro rays h_rays
  replace O := O.alloc (o := .list []) h_rays
  refine tAttr O 3 4 rfl rfl (by show 8 < 14; decide) (by decide) (by decide) fun H O => ?_; walk_at "zz"
  replace O : Own' B H [(rays, .list []), (rm, .list []), (fm, .list []), (x, .inst dx), (dx, .attrs 9 [some (.int f), some (.int r), some (.int (f * r)), some (.int (1 * 2 ^ (f * r).toNat - 1)), some (.bool false), some (.bool false), some (.ref fm), some (.ref rm), some (.ref rays), none, none, none, none, none])] := O
  walk_at "zg"
  intro king h_king
  replace O := O.alloc (o := .list []) h_king
  refine tAttr O 4 5 rfl rfl (by show 9 < 14; decide) (by decide) (by decide) fun H O => ?_; walk_at "zz"
  replace O : Own' B H [(king, .list []), (rays, .list []), (rm, .list []), (fm, .list []), (x, .inst dx), (dx, .attrs 10 [some (.int f), some (.int r), some (.int (f * r)), some (.int (1 * 2 ^ (f * r).toNat - 1)), some (.bool false), some (.bool false), some (.ref fm), some (.ref rm), some (.ref rays), some (.ref king), none, none, none, none])] := O
  walk_at "zg"
  intro knight h_knight
  replace O := O.alloc (o := .list []) h_knight
  refine tAttr O 5 6 rfl rfl (by show 10 < 14; decide) (by decide) (by decide) fun H O => ?_; walk_at "zz"
  replace O : Own' B H [(knight, .list []), (king, .list []), (rays, .list []), (rm, .list []), (fm, .list []), (x, .inst dx), (dx, .attrs 11 [some (.int f), some (.int r), some (.int (f * r)), some (.int (1 * 2 ^ (f * r).toNat - 1)), some (.bool false), some (.bool false), some (.ref fm), some (.ref rm), some (.ref rays), some (.ref king), some (.ref knight), none, none, none])] := O
  walk_at "zg"
  intro p0 h_p0
  replace O := O.alloc (o := .list []) h_p0
  intro p1 h_p1
  replace O := O.alloc (o := .list []) h_p1
  intro pawn h_pawn
  replace O := O.alloc (o := .list [.ref p0, .ref p1]) h_pawn
  refine tAttr O 8 9 rfl rfl (by show 11 < 14; decide) (by decide) (by decide) fun H O => ?_; walk_at "zz"
  replace O : Own' B H [(pawn, .list [.ref p0, .ref p1]), (p1, .list []), (p0, .list []), (knight, .list []), (king, .list []), (rays, .list []), (rm, .list []), (fm, .list []), (x, .inst dx), (dx, .attrs 12 [some (.int f), some (.int r), some (.int (f * r)), some (.int (1 * 2 ^ (f * r).toNat - 1)), some (.bool false), some (.bool false), some (.ref fm), some (.ref rm), some (.ref rays), some (.ref king), some (.ref knight), some (.ref pawn), none, none])] := O
  walk_at "zg"
  intro castles h_castles
  replace O := O.alloc (o := .list []) h_castles
  refine tAttr O 9 10 rfl rfl (by show 12 < 14; decide) (by decide) (by decide) fun H O => ?_; walk_at "zz"
  replace O : Own' B H [(castles, .list []), (pawn, .list [.ref p0, .ref p1]), (p1, .list []), (p0, .list []), (knight, .list []), (king, .list []), (rays, .list []), (rm, .list []), (fm, .list []), (x, .inst dx), (dx, .attrs 13 [some (.int f), some (.int r), some (.int (f * r)), some (.int (1 * 2 ^ (f * r).toNat - 1)), some (.bool false), some (.bool false), some (.ref fm), some (.ref rm), some (.ref rays), some (.ref king), some (.ref knight), some (.ref pawn), some (.ref castles), none])] := O
  walk_at "zg"
  intro rights h_rights
  replace O := O.alloc (o := .list []) h_rights
  refine tAttr O 10 11 rfl rfl (by show 13 < 14; decide) (by decide) (by decide) fun H O => ?_; walk_at "zz"
  replace O : Own' B H [(rights, .list []), (castles, .list []), (pawn, .list [.ref p0, .ref p1]), (p1, .list []), (p0, .list []), (knight, .list []), (king, .list []), (rays, .list []), (rm, .list []), (fm, .list []), (x, .inst dx), (dx, .attrs 14 [some (.int f), some (.int r), some (.int (f * r)), some (.int (1 * 2 ^ (f * r).toNat - 1)), some (.bool false), some (.bool false), some (.ref fm), some (.ref rm), some (.ref rays), some (.ref king), some (.ref knight), some (.ref pawn), some (.ref castles), some (.ref rights)])] := O
  exact q _ fm rm rays king knight pawn castles rights p0 p1 O
open PySem PySem.W PyProof.Rows PySem.Calls

structure GAd where
  x : Nat
  dx : Nat
  fm : Nat
  rm : Nat
  rays : Nat
  king : Nat
  knight : Nat
  pawn : Nat
  castles : Nat
  rights : Nat
  p0 : Nat
  p1 : Nat
noncomputable def gat (a : GAd) (f r : Nat) : List (Option V) := [some (.int f), some (.int r), some (.int ((f : Int) * r)), some (.int (1 * 2 ^ ((f : Int) * r).toNat - 1)), some (.bool false), some (.bool false), some (.ref a.fm), some (.ref a.rm), some (.ref a.rays), some (.ref a.king), some (.ref a.knight), some (.ref a.pawn), some (.ref a.castles), some (.ref a.rights)]
noncomputable def GL (a : GAd) (f r c : Nat) (vri vca vp1 vp0 vkn vki vra vrm vfm : List V) (E : List (Nat × CO)) : List (Nat × CO) :=
  (a.rights, .list vri) :: (a.castles, .list vca) :: (a.pawn, .list [.ref a.p0, .ref a.p1]) :: (a.p1, .list vp1) :: (a.p0, .list vp0) :: (a.knight, .list vkn) :: (a.king, .list vki) :: (a.rays, .list vra) :: (a.rm, .list vrm) :: (a.fm, .list vfm) :: (a.x, .inst a.dx) :: (a.dx, .attrs c (gat a f r)) :: E
noncomputable def vi : V → Int
  | .int i => i
  | _ => 0
noncomputable def rowP (f : Nat) : Int := 1 * 2 ^ (f : Int).toNat - 1
noncomputable def masks1 (f r : Nat) : List Int × Int := ((iot r).map V.int).foldl (fun s x => (s.1 ++ [rowP f * 2 ^ (vi x * f).toNat], Builtin.bitOr s.2 (1 * 2 ^ (vi x * f).toNat))) ([], 0)
noncomputable def masks2 (f : Nat) (col : Int) : List Int := ((iot f).map V.int).foldl (fun s x => s ++ [col * 2 ^ (vi x).toNat]) []
theorem mapInt_snoc (l : List Int) (i : Int) : (l ++ [i]).map V.int = l.map V.int ++ [.int i] := by rw [List.map_append]; rfl
theorem c_masks {n : Nat} {B H : HH} {a : GAd} {f r c : Nat} {vri vca vp1 vp0 vkn vki vra : List V} {E : List (Nat × CO)} {Q : V → HH → Prop} (O : Own' B H (GL a f r c vri vca vp1 vp0 vkn vki vra [] [] E)) (hf : f < 10) (hr : r < 5)
    (hc : (masks1 f r).2.natAbs < 2 ^ 64)
    (q : ∀ H', Own' B H' (GL a f r c vri vca vp1 vp0 vkn vki vra ((masks1 f r).1.map V.int) ((masks2 f (masks1 f r).2).map V.int) E) → Q .none H') : wc (n + 1) 1 [.ref a.x] H Q := by
  refine ⟨D_add_masks, rfl, rfl, ?_⟩; walk_at "zz"
  change wpSs _ B_add_masks [some (.ref a.x), none, none, none, none] H _
  unfold B_add_masks
  have hx := O.get 10 rfl
  have hdx := O.get 11 rfl
  walk_at "zg"
  refine ⟨by omega, by omega, by decide, ?_⟩; walk_at "zz"
  walk_at "zg"
  walk_at "zg"
  have hrow : (rowP f).natAbs < 2 ^ 64 := (by unfold rowP; decide +kernel : ∀ f < 10, (rowP f).natAbs < 2 ^ 64) f hf
  refine ⟨⟨by omega, by omega⟩, tFold (vs := (iot r).map V.int) (fun s x => (s.1 ++ [rowP f * 2 ^ (vi x * f).toNat], Builtin.bitOr s.2 (1 * 2 ^ (vi x * f).toNat))) (([], 0) : List Int × Int)
    (fun i s l h => (∃ o, l = [some (.ref a.x), some (.int (rowP f)), some (.int s.2), o, none]) ∧ s.1.length = i ∧ Own' B h (GL a f r c vri vca vp1 vp0 vkn vki vra (s.1.map V.int) [] E))
    (fun _ _ _ _ _ => congrArg some (rng_up r)) ⟨⟨_, rfl⟩, rfl, O⟩ (fun i s x l h k hv hq1 k1 _ => ?_) (fun l h hq2 => ?_)⟩
  · obtain ⟨⟨o, hl⟩, hlen, O⟩ := hq1
    rw [List.getElem?_map] at hv
    obtain ⟨y, hy, rfl⟩ := Option.map_eq_some_iff.mp hv
    obtain ⟨rfl, hir⟩ := iot_get hy
    subst hl
    have hx := O.get 10 rfl
    have hdx := O.get 11 rfl
    have hrm := O.get 8 rfl
    have p1 : 0 ≤ (i : Int) * f := Int.mul_nonneg (by omega) (by omega)
    have p2 : (i : Int) * f ≤ 4 * 9 := Int.mul_le_mul (by omega) (by omega) (by omega) (by omega)
    walk_at "zg"; (try simp only [hrm]); walk_at "zz"
    refine ⟨.inl ⟨by omega, by omega⟩, p1, by omega, hrow, ?_⟩; walk_at "zz"
    refine ⟨?_, ?_⟩; walk_at "zz"
    · rw [List.length_map, hlen]; exact Nat.le_trans (Nat.le_of_lt hir) (Nat.le_trans (Nat.le_of_lt hr) (by decide))
    · (try refine Bx.mk ?_); (first | refine tPut1 O 8 rfl fun h O => ?_ | refine tPutK O 8 rfl fun h O => ?_); walk_at "zz"
      have hx := O.get 10 rfl
      have hdx := O.get 11 rfl
      walk_at "zg"
      refine ⟨.inl ⟨by omega, by omega⟩, p1, by omega, by decide, ?_⟩; walk_at "zz"
      refine k1 _ _ ⟨⟨_, rfl⟩, by simp [hlen], ?_⟩; walk_at "zz"
      rw [mapInt_snoc]; exact O
  · obtain ⟨⟨o, hl⟩, hlen, O⟩ := hq2
    subst hl
    have hx := O.get 10 rfl
    have hdx := O.get 11 rfl
    refine Bx.mk ?_; walk_at "zz"
    walk_at "zg"
    have e1 : List.foldl (fun s x => (s.1 ++ [rowP f * 2 ^ (vi x * f).toNat], Builtin.bitOr s.2 (1 * 2 ^ (vi x * f).toNat))) (([], 0) : List Int × Int) ((iot r).map V.int) = masks1 f r := rfl
    rw [e1] at O ⊢
    refine ⟨⟨by omega, by omega⟩, tFold (vs := (iot f).map V.int) (fun s x => s ++ [(masks1 f r).2 * 2 ^ (vi x).toNat]) ([] : List Int)
      (fun i s l h => (∃ o, l = [some (.ref a.x), some (.int (rowP f)), some (.int (masks1 f r).2), o.1, o.2]) ∧ s.length = i ∧ Own' B h (GL a f r c vri vca vp1 vp0 vkn vki vra ((masks1 f r).1.map V.int) (s.map V.int) E))
      (fun _ _ _ _ _ => congrArg some (rng_up f)) ⟨⟨(_, _), rfl⟩, rfl, O⟩ (fun i s x l h k hv hq3 k1 _ => ?_) (fun l h ⟨⟨o, hl⟩, hlen, O⟩ => ⟨q _ O⟩)⟩
    obtain ⟨⟨o, hl⟩, hlen, O⟩ := hq3
    rw [List.getElem?_map] at hv
    obtain ⟨y, hy, rfl⟩ := Option.map_eq_some_iff.mp hv
    obtain ⟨rfl, hir⟩ := iot_get hy
    subst hl
    have hx := O.get 10 rfl
    have hdx := O.get 11 rfl
    have hfm := O.get 9 rfl
    walk_at "zg"; (try simp only [hfm]); walk_at "zz"
    refine ⟨by omega, by omega, hc, ?_⟩; walk_at "zz"
    refine ⟨?_, ?_⟩; walk_at "zz"
    · rw [List.length_map, hlen]; exact Nat.le_trans (Nat.le_of_lt hir) (Nat.le_trans (Nat.le_of_lt hf) (by decide))
    · (try refine Bx.mk ?_); (first | refine tPut1 O 9 rfl fun h O => ?_ | refine tPutK O 9 rfl fun h O => ?_); walk_at "zz"
      refine k1 _ _ ⟨⟨(o.1, some (.int i)), rfl⟩, by simp [hlen], ?_⟩; walk_at "zz"
      rw [mapInt_snoc]; exact O
open PySem PySem.W PyProof.Rows PySem.Calls

noncomputable def sfL : List Int := [0, 1, 0, -1, 1, 1, -1, -1]
noncomputable def srL : List Int := [1, 0, -1, 0, 1, -1, -1, 1]
noncomputable def gi (l : List Int) (i : Int) : Int := l.getD i.toNat 0
theorem gi_get {l : List Int} {i : Int} (h : i.toNat < l.length) : (l.map V.int)[i.toNat]? = some (.int (gi l i)) := by
  unfold gi
  rw [List.getElem?_map, List.getElem?_eq_getElem h, List.getD_eq_getElem?_getD, List.getElem?_eq_getElem h]; rfl
noncomputable def orIf (c : Bool) (e x : Int) : Int := if c then Builtin.bitOr e x else e
noncomputable def innerP (f r : Nat) (fm rm : List Int) (d : Int) : Int :=
  Builtin.bitAnd (1 * 2 ^ ((f : Int) * r).toNat - 1) (Builtin.bitNot
    (orIf (decide (gi srL d < 0)) (orIf (decide (0 < gi srL d)) (orIf (decide (gi sfL d < 0)) (orIf (decide (0 < gi sfL d)) 0 (gi fm ((f : Int) - 1))) (gi fm 0)) (gi rm ((r : Int) - 1))) (gi rm 0)))
theorem if_or3 {Φ : Calls} {r : CSs} {H : HH} {K : Fl → Loc → HH → Prop} {c : Bool} {o0 o1 : Option V} {e x : Int} {A : Prop} (ht : c = true → wpSs Φ r [o0, o1, some (.int (Builtin.bitOr e x))] H K → A)
    (h : wpSs Φ r [o0, o1, some (.int (orIf c e x))] H K) : iteB c A (Bx (wpSs Φ r [o0, o1, some (.int e)] H K)) := by
  cases c with
  | false => exact ⟨h⟩
  | true => exact ht rfl h
theorem c_inner {n : Nat} {H : HH} {a : GAd} {f r c : Nat} {d : Int} {fm rm : List Int} {Q : V → HH → Prop} (hx : H a.x = some (.inst a.dx)) (hdx : H a.dx = some (.attrs c (gat a f r)))
    (hfm : H a.fm = some (.list (fm.map V.int))) (hrm : H a.rm = some (.list (rm.map V.int))) (lf : fm.length = f) (lr : rm.length = r) (hf0 : 0 < f) (hr0 : 0 < r) (hf : f < 10) (hr : r < 5) (h0 : 0 ≤ d) (h8 : d < 8)
    (q : Q (.int (innerP f r fm rm d)) H) : wc (n + 1) 2 [.ref a.x, .int d] H Q := by
  refine ⟨D_inner_squares, rfl, rfl, ?_⟩; walk_at "zz"
  change wpSs _ B_inner_squares [some (.ref a.x), some (.int d), none] H _
  unfold B_inner_squares
  have sd : small d := ⟨by omega, by omega⟩
  have g1 : d.toNat < sfL.length := by show d.toNat < 8; omega
  have g2 : d.toNat < srL.length := by show d.toNat < 8; omega
  have e1 := gi_get g1
  have e2 := gi_get g2
  have f1 := gi_get (l := fm) (i := (f : Int) - 1) (by omega)
  have f0 := gi_get (l := fm) (i := 0) (by omega)
  have r1 := gi_get (l := rm) (i := (r : Int) - 1) (by omega)
  have r0 := gi_get (l := rm) (i := 0) (by omega)
  have sf1 : small ((f : Int) - 1) := ⟨by omega, by omega⟩
  have sr1 : small ((r : Int) - 1) := ⟨by omega, by omega⟩
  have s0 : small 0 := ⟨by decide, by decide⟩
  walk_at "zg"
  walk_at "zg"
  refine ⟨h0, sd, _, e1, ?_⟩; walk_at "zz"
  refine if_or3 (x := gi fm ((f : Int) - 1)) (fun _ h => ?_) ?_; walk_at "zz"
  · walk_at "zg"
    refine sList hfm (by omega) sf1 f1 ?_; walk_at "zz"
    exact h
  walk_at "zg"
  refine ⟨h0, sd, _, e1, ?_⟩; walk_at "zz"
  refine if_or3 (x := gi fm 0) (fun _ h => ?_) ?_; walk_at "zz"
  · walk_at "zg"
    refine sList hfm (by decide) s0 f0 ?_; walk_at "zz"
    exact h
  walk_at "zg"
  refine ⟨h0, sd, _, e2, ?_⟩; walk_at "zz"
  refine if_or3 (x := gi rm ((r : Int) - 1)) (fun _ h => ?_) ?_; walk_at "zz"
  · walk_at "zg"
    refine sList hrm (by omega) sr1 r1 ?_; walk_at "zz"
    exact h
  walk_at "zg"
  refine ⟨h0, sd, _, e2, ?_⟩; walk_at "zz"
  refine if_or3 (x := gi rm 0) (fun _ h => ?_) ?_; walk_at "zz"
  · walk_at "zg"
    refine sList hrm (by decide) s0 r0 ?_; walk_at "zz"
    exact h
  walk_at "zg"
  exact q
open PySem PySem.W PyProof.Rows PySem.Calls

theorem Own'.freeze {B H : HH} {L : List (Nat × CO)} {a : Nat} {o : CO} (O : Own' B H ((a, o) :: L)) : Own' (B.set a o) H L where
  nod := (List.nodup_cons.mp O.nod).2
  at_ := fun p hp => O.at_ p (List.mem_cons_of_mem _ hp)
  new := fun p hp => by
    have : p.1 ≠ a := fun e => (List.nodup_cons.mp O.nod).1 (by show a ∈ _; rw [← e]; exact List.mem_map.mpr ⟨p, hp, rfl⟩)
    rw [set_other _ _ this]; exact O.new p (List.mem_cons_of_mem _ hp)
  ext := fun b co e => by
    by_cases q : b = a
    · subst q; rw [set_same] at e; cases e; exact O.at_ _ List.mem_cons_self
    · rw [set_other _ _ q] at e; exact O.ext b co e
theorem Own'.isnew {B H : HH} {L : List (Nat × CO)} {a : Nat} {o : CO} (O : Own' B H ((a, o) :: L)) : B a = none := O.new _ List.mem_cons_self
theorem Ext.ofnew {B : HH} {a : Nat} {o : CO} (h : B a = Option.none) : Ext B (B.set a o) := (Ext.refl B).set h
/-- choose and order what is held -/
theorem Own'.pick {B H : HH} {L : List (Nat × CO)} (O : Own' B H L) (is : List Nat) (hn : is.Nodup) : Own' B H (is.filterMap (L[·]?)) where
  nod := by
    induction is with
    | nil => exact List.nodup_nil
    | cons i is ih =>
      rw [List.nodup_cons] at hn
      rw [List.filterMap_cons]
      split
      · exact ih hn.2
      · rename_i p hp
        rw [List.map_cons, List.nodup_cons]
        refine ⟨fun h => ?_, ih hn.2⟩
        obtain ⟨p2, h2, e2⟩ := List.mem_map.mp h
        obtain ⟨j, hj, hj2⟩ := List.mem_filterMap.mp h2
        have h3 : (L.map (·.1))[i]? = some p.1 := by rw [List.getElem?_map, hp]; rfl
        have h4 : (L.map (·.1))[j]? = some p.1 := by rw [List.getElem?_map, hj2]; exact congrArg some e2
        have : i = j := (List.getElem?_inj (List.getElem?_eq_some_iff.mp h3).1 O.nod).mp (h3.trans h4.symm)
        subst this; exact hn.1 hj
  at_ := fun p hp => by obtain ⟨j, _, hj⟩ := List.mem_filterMap.mp hp; exact O.at_ p (List.mem_of_getElem? hj)
  new := fun p hp => by obtain ⟨j, _, hj⟩ := List.mem_filterMap.mp hp; exact O.new p (List.mem_of_getElem? hj)
  ext := O.ext
theorem tFoldI {σ : Type} {src : V} {xs : List Int} {turn : V → Loc → HH → (Fl → Loc → HH → Prop) → Prop} {Q : Fl → Loc → HH → Prop} {l : Loc} {h : HH} (st : σ → Int → σ) (s0 : σ) (Rep : Nat → σ → Loc → HH → Prop)
    (hs : ∀ i s l h, Rep i s l h → items h src = some (xs.map V.int)) (h0 : Rep 0 s0 l h)
    (step : ∀ i s x l h (k : Fl → Loc → HH → Prop), xs[i]? = some x → Rep i s l h → (∀ l h, Rep (i + 1) (st s x) l h → k .next l h) → (∀ l h, Rep (i + 1) (st s x) l h → k .cont l h) → turn (.int x) l h k)
    (fin : ∀ l h, Rep xs.length (xs.foldl st s0) l h → Q .next l h) : ∃ all, items h src = some all ∧ fLoop src all turn Q all l h := by
  refine tFold (vs := xs.map V.int) (fun s v => st s (vi v)) s0 Rep hs h0 (fun i s x l h k hv r k1 k2 => ?_) (fun l h r => ?_); walk_at "zz"
  · rw [List.getElem?_map] at hv
    obtain ⟨y, hy, rfl⟩ := Option.map_eq_some_iff.mp hv
    exact step i s y l h k hy r k1 k2
  · rw [List.foldl_map, List.length_map] at r
    exact fin l h r
noncomputable def tb (x i : Int) : Bool := decide (Builtin.bitAnd (x.fdiv (2 ^ i.toNat)) 1 ≠ 0)
noncomputable def ordP (n : Nat) (d : Int) : List Int := if grow d then (iot n).map fun i => (n : Int) - 1 - i else iot n
noncomputable def rayStep (inner delta : Int) (s : List Int × List Int) (sq : Int) : List Int × List Int :=
  if tb inner sq then (s.1.set sq.toNat (Builtin.bitOr (gi s.1 (sq + delta)) (1 * 2 ^ (sq + delta).toNat)), s.2.set sq.toNat (Builtin.bitOr (gi s.2 sq) (1 * 2 ^ (sq + delta).toNat))) else s
noncomputable def delP (f : Nat) (d : Int) : Int := gi srL d * f + gi sfL d
noncomputable def dirP (f r : Nat) (fm rm : List Int) (d : Int) (k : List Int) : List Int × List Int := (ordP (f * r) d).foldl (rayStep (innerP f r fm rm d) (delP f d)) (List.replicate (f * r) 0, k)
noncomputable def raysP (f r : Nat) (fm rm : List Int) : List Int × List (List Int) := (iot 8).foldl (fun s d => ((dirP f r fm rm d s.1).2, s.2 ++ [(dirP f r fm rm d s.1).1])) (List.replicate (f * r) 0, [])
noncomputable def RaysAt (B : HH) (ra : List Nat) (R : List (List Int)) : Prop := ra.length = R.length ∧ ∀ (j : Nat) (ρ : Nat) (l : List Int), ra[j]? = some ρ → R[j]? = some l → B ρ = some (.list (l.map V.int))
theorem RaysAt.snoc {B B' : HH} {ra : List Nat} {R : List (List Int)} {ρ : Nat} {l : List Int} (h : RaysAt B ra R) (x : Ext B B') (n : B' ρ = some (.list (l.map V.int))) : RaysAt B' (ra ++ [ρ]) (R ++ [l]) := by
  refine ⟨by simp [h.1], fun j ρ' l' e1 e2 => ?_⟩; walk_at "zz"
  rw [List.getElem?_append] at e1 e2
  split at e1
  · rename_i q
    rw [if_pos (by rw [← h.1]; exact q)] at e2
    exact x _ _ (h.2 j ρ' l' e1 e2)
  · rename_i q
    rw [if_neg (by rw [← h.1]; exact q)] at e2
    rw [h.1] at e1
    rcases Nat.eq_zero_or_pos (j - R.length) with z | z
    · rw [z] at e1 e2; cases e1; cases e2; exact n
    · rw [List.getElem?_eq_none (by simp; omega)] at e1; cases e1
theorem ordP_get {n j : Nat} {d x : Int} (h : (ordP n d)[j]? = some x) : ∃ m : Nat, m < n ∧ x = (m : Int) := by
  unfold ordP at h
  split at h
  · rw [List.getElem?_map] at h
    obtain ⟨y, hy, rfl⟩ := Option.map_eq_some_iff.mp h
    obtain ⟨rfl, hy⟩ := iot_get hy
    exact ⟨n - 1 - j, by omega, by omega⟩
  · exact ⟨j, (iot_get h).2, (iot_get h).1⟩
theorem iot_mem {n m : Nat} (h : m < n) : (m : Int) ∈ iot n := by unfold iot; exact List.mem_map.mpr ⟨m, List.mem_range.mpr h, rfl⟩
theorem c_rays {n : Nat} {B H : HH} {a : GAd} {f r c : Nat} {vri vca vp1 vp0 vkn vki : List V} {fm rm : List Int} {Q : V → HH → Prop} (O : Own' B H (GL a f r c vri vca vp1 vp0 vkn vki [] (rm.map V.int) (fm.map V.int) [])) (hf0 : 0 < f) (hr0 : 0 < r) (hf : f < 10) (hr : r < 5) (hc : c < 900)
    (lf : fm.length = f) (lr : rm.length = r)
    (hfin : ∀ d ∈ iot 8, ∀ sq ∈ iot (f * r), tb (innerP f r fm rm d) sq = true → 0 ≤ sq + delP f d ∧ sq + delP f d < (f * r : Nat))
    (q : ∀ H' B' a' ra, a'.x = a.x → Ext B B' → RaysAt B' ra (raysP f r fm rm).2 → Own' B' H' (GL a' f r (c + 1) vri vca vp1 vp0 vkn ((raysP f r fm rm).1.map V.int) (ra.map V.ref) (rm.map V.int) (fm.map V.int) []) → Q .none H') : wc (n + 2) 3 [.ref a.x] H Q := by
  refine ⟨D_add_rays, rfl, rfl, ?_⟩; walk_at "zz"
  change wpSs _ B_add_rays [some (.ref a.x), none, none, none, none, none, none, none] H _
  unfold B_add_rays
  walk_at "zg"
  intro z hz
  walk_at "zz"
  replace O := O.alloc (o := .list [.int 0]) hz
  have hx := O.get 11 rfl
  have hdx := O.get 12 rfl
  walk_at "zz"
  have e0 : (f : Int) * r = ((f * r : Nat) : Int) := (Int.natCast_mul _ _).symm
  have eN : ((f : Int) * r).toNat = f * r := by rw [e0]; rfl
  have p2 : f * r ≤ 9 * 4 := Nat.mul_le_mul (by omega) (by omega)
  refine ⟨.int 0, set_same _ _ _, by omega, by rw [e0]; exact Int.ofNat_le.mpr (Nat.le_trans p2 (by decide)), fun k hk => ?_⟩; walk_at "zz"
  replace O := O.alloc (o := .list (List.replicate ((f : Int) * r).toNat (.int 0))) hk
  revert O
  generalize HH.set _ k _ = H
  intro O
  have hx := O.get 12 rfl
  have hdx := O.get 13 rfl
  walk_at "zz"
  refine ⟨(show 9 < 14 by decide), by omega, by decide, ?_⟩; walk_at "zz"
  (try refine Bx.mk ?_); (first | refine tPut1 O 13 (o' := .attrs (c + 1) ((gat a f r).set 9 (some (.ref k)))) rfl fun H O => ?_ | refine tPutK O 13 (o' := .attrs (c + 1) ((gat a f r).set 9 (some (.ref k)))) rfl fun H O => ?_); walk_at "zz"
  replace O := O.pick [2, 3, 4, 5, 6, 7, 0, 9, 10, 11, 12, 13] (by decide)
  rw [eN] at O
  replace O : Own' B H (GL { a with king := k } f r (c + 1) vri vca vp1 vp0 vkn (List.replicate (f * r) (V.int 0)) [] (rm.map V.int) (fm.map V.int) []) := O
  rw [show List.replicate (f * r) (V.int 0) = (List.replicate (f * r) (0 : Int)).map V.int from List.map_replicate.symm] at O
  obtain ⟨a', ha⟩ : ∃ a', a' = ({ a with king := k } : GAd) := ⟨_, rfl⟩
  have ex : a'.x = a.x := by rw [ha]
  rw [← ha] at O; rw [← ex] at q ⊢; clear ha ex
  clear hx hdx
  walk_at "zg"
  refine ⟨⟨by decide, by decide⟩, tFoldI (xs := iot 8) (fun s d => ((dirP f r fm rm d s.1).2, s.2 ++ [(dirP f r fm rm d s.1).1])) ((List.replicate (f * r) 0, []) : List Int × List (List Int))
    (fun i s l h => (∃ o1 o2 o3 o4 o5 o6 o7, l = [some (.ref a'.x), o1, o2, o3, o4, o5, o6, o7]) ∧ s.1.length = f * r ∧ s.2.length = i ∧ ∃ B' ra, Ext B B' ∧ RaysAt B' ra s.2 ∧ Own' B' h (GL a' f r (c + 1) vri vca vp1 vp0 vkn (s.1.map V.int) (ra.map V.ref) (rm.map V.int) (fm.map V.int) []))
    (fun _ _ _ _ _ => congrArg some (rng_up 8)) ⟨⟨_, _, _, _, _, _, _, rfl⟩, by simp, rfl, B, [], Ext.refl _, ⟨rfl, fun j ρ l e => by simp at e⟩, O⟩ (fun i s x l H K hv hq1 k1 _ => ?_) (fun l h ⟨_, _, _, B', ra, E, RA, O⟩ => ⟨q _ _ _ _ rfl E RA O⟩)⟩
  obtain ⟨⟨o1, o2, o3, o4, o5, o6, o7, hl⟩, hk1, hr1, B', ra, E, RA, O⟩ := hq1
  obtain ⟨rfl, hi8⟩ := iot_get hv
  subst hl
  have hx := O.get 10 rfl
  have hdx := O.get 11 rfl
  walk_at "zg"
  refine c_inner (a := a') hx hdx (O.get 9 rfl) (O.get 8 rfl) lf lr hf0 hr0 hf hr (by omega) (by omega) ?_; walk_at "zz"
  walk_at "zg"
  have si : small (i : Int) := ⟨by omega, by omega⟩
  have e1 := gi_get (l := sfL) (i := (i : Int)) (by show i < 8; omega)
  have e2 := gi_get (l := srL) (i := (i : Int)) (by show i < 8; omega)
  refine ⟨by omega, si, _, e2, ?_⟩; walk_at "zz"
  walk_at "zz"
  refine ⟨.inr ⟨by omega, by omega⟩, by omega, si, _, e1, ?_⟩; walk_at "zz"
  walk_at "zz"
  walk_at "zg"
  intro z h_z; replace O := O.alloc (o := .list [.int 0]) h_z; revert O; generalize HH.set _ z _ = H; intro O; walk_at "zz"
  have hx := O.get 11 rfl
  have hdx := O.get 12 rfl
  have hz := O.get 0 rfl
  walk_at "zz"; (try simp only [hz, e0]); walk_at "zz"
  refine ⟨by omega, Int.ofNat_le.mpr (Nat.le_trans p2 (by decide)), ?_⟩; walk_at "zz"
  intro ray h_ray; replace O := O.alloc (o := .list (List.replicate ((f * r : Nat) : Int).toNat (.int 0))) h_ray; revert O; generalize HH.set _ ray _ = H; intro O; walk_at "zz"
  replace O := O.pick [0, 2, 3, 4, 5, 6, 7, 8, 9, 10, 11, 12, 13] (by decide)
  rw [show List.replicate ((f * r : Nat) : Int).toNat (V.int 0) = (List.replicate (f * r) (0 : Int)).map V.int from List.map_replicate.symm] at O
  replace O : Own' B' H ((ray, .list ((List.replicate (f * r) (0 : Int)).map V.int)) :: GL a' f r (c + 1) vri vca vp1 vp0 vkn (s.1.map V.int) (ra.map V.ref) (rm.map V.int) (fm.map V.int) []) := O
  have hx := O.get 11 rfl
  have hdx := O.get 12 rfl
  walk_at "zg"; (try simp only [e0]); walk_at "zz"
  refine ⟨⟨by omega, by omega⟩, ?_⟩; walk_at "zz"
  (try walk_at "zd"); (try with_reducible refine Bx.mk ?_); refine tK ?_; generalize hK : cF _ _ _ = K1; walk_at "zz"
  refine c_grow (by omega) (by omega) ?_; walk_at "zz"
  have J : ∀ o, (∀ h, items h o = some ((ordP (f * r) i).map V.int)) → K1 .next [some (.ref a'.x), some (.int i), some (.int (innerP f r fm rm i)), some (.int (delP f i)), some (.ref ray), some o, o6, o7] H := by
    intro o ho
    subst hK
    refine Bx.mk ?_; walk_at "zz"
    walk_at "zg"
    refine tFoldI (xs := ordP (f * r) i) (rayStep (innerP f r fm rm i) (delP f i)) ((List.replicate (f * r) 0, s.1) : List Int × List Int)
      (fun j t l h => (∃ p6 p7, l = [some (.ref a'.x), some (.int i), some (.int (innerP f r fm rm i)), some (.int (delP f i)), some (.ref ray), some o, p6, p7]) ∧ t.1.length = f * r ∧ t.2.length = f * r ∧
        Own' B' h ((ray, .list (t.1.map V.int)) :: GL a' f r (c + 1) vri vca vp1 vp0 vkn (t.2.map V.int) (ra.map V.ref) (rm.map V.int) (fm.map V.int) []))
      (fun _ _ _ h _ => ho h) ⟨⟨_, _, rfl⟩, by simp, hk1, O⟩ (fun j t x l H K hv hq2 k1 _ => ?_) (fun l H hq3 => ?_)
    · obtain ⟨⟨p6, p7, hl⟩, ht1, ht2, O⟩ := hq2
      obtain ⟨m, hm, rfl⟩ := ordP_get hv
      subst hl
      walk_at "zg"
      refine ⟨by omega, ?_⟩; walk_at "zz"
      cases ct : decide (Builtin.bitAnd ((innerP f r fm rm i).fdiv (2 ^ (m : Int).toNat)) 1 ≠ 0)
      · walk_at "zz"
        refine k1 _ _ ⟨⟨_, _, rfl⟩, ?_, ?_, ?_⟩ <;> unfold rayStep <;> rw [show tb _ _ = false from ct] <;> assumption
      · have hb := hfin i (iot_mem hi8) m (iot_mem hm) ct
        walk_at "zz"
        walk_at "zg"
        have hx := O.get 11 rfl
        have hdx := O.get 12 rfl
        have sg : small ((m : Int) + delP f i) := ⟨by omega, by omega⟩
        walk_at "zg"
        refine sList (O.get 0 rfl) hb.1 sg (gi_get (by omega)) ?_; walk_at "zz"
        walk_at "zz"
        refine ⟨hb.1, by omega, by decide, ?_⟩; walk_at "zz"
        refine tWI (O.get 0 rfl) ?_; walk_at "zz"
        refine ⟨by omega, by rw [List.length_map]; omega, ⟨by omega, by omega⟩, ?_⟩; walk_at "zz"
        (try refine Bx.mk ?_); (first | refine tPut1 O 0 rfl fun H O => ?_ | refine tPutK O 0 rfl fun H O => ?_); walk_at "zz"
        rw [← List.map_set] at O
        have hx := O.get 11 rfl
        have hdx := O.get 12 rfl
        have hki := O.get 7 rfl
        walk_at "zg"
        refine ⟨by omega, ⟨by omega, by omega⟩, ?_⟩; walk_at "zz"
        refine sList hki (by omega) ⟨by omega, by omega⟩ (gi_get (by omega)) ?_; walk_at "zz"
        walk_at "zz"
        refine ⟨hb.1, by omega, by decide, _, hki, by rw [List.length_map]; omega, ?_⟩; walk_at "zz"
        (try refine Bx.mk ?_); (first | refine tPut1 O 7 rfl fun H O => ?_ | refine tPutK O 7 rfl fun H O => ?_); walk_at "zz"
        rw [← List.map_set] at O
        refine k1 _ _ ⟨⟨_, _, rfl⟩, ?_, ?_, ?_⟩ <;> unfold rayStep <;> rw [show tb _ _ = true from ct, if_pos rfl]
        · rw [List.length_set]; exact ht1
        · rw [List.length_set]; exact ht2
        · exact O
    · obtain ⟨⟨p6, p7, hl⟩, ht1, ht2, O⟩ := hq3
      subst hl
      have hx := O.get 11 rfl
      have hdx := O.get 12 rfl
      have hra := O.get 8 rfl
      refine Bx.mk ?_; walk_at "zz"
      walk_at "zg"; (try simp only [hra]); walk_at "zz"
      refine ⟨?_, ?_⟩; walk_at "zz"
      · rw [List.length_map, RA.1, hr1]; exact Nat.le_trans (Nat.le_of_lt hi8) (by decide)
      (try refine Bx.mk ?_); (first | refine tPut1 O 8 rfl fun H O => ?_ | refine tPutK O 8 rfl fun H O => ?_); walk_at "zz"
      have hn := O.isnew
      replace O := O.freeze
      refine k1 _ _ ⟨⟨_, _, _, _, _, _, _, rfl⟩, ht2, ?_, _, ra ++ [ray], E.trans (Ext.ofnew hn), RA.snoc (Ext.ofnew hn) (set_same _ _ _), ?_⟩; walk_at "zz"
      · simp [hr1]
      · rw [List.map_append]; exact O
  walk_at "zz"
  cases cg : grow i <;> walk_at "zz"
  · refine J _ fun h => ?_; walk_at "zz"
    unfold ordP
    rw [cg]
    exact congrArg some (rng_up (f * r))
  · walk_at "zg"; (try simp only [e0]); walk_at "zz"
    refine ⟨⟨by omega, by omega⟩, ⟨by decide, by decide⟩, .inr trivial, ?_⟩; walk_at "zz"
    refine J _ fun h => ?_; walk_at "zz"
    unfold ordP
    rw [cg, if_pos rfl, List.map_map]
    exact congrArg some (rng_down (f * r))
open PySem PySem.W PyProof.Rows PySem.Calls

theorem tInv {src : V} {xs : List Int} {turn : V → Loc → HH → (Fl → Loc → HH → Prop) → Prop} {Q : Fl → Loc → HH → Prop} {l : Loc} {h : HH} (Rep : Nat → Loc → HH → Prop)
    (hs : ∀ i l h, Rep i l h → items h src = some (xs.map V.int)) (h0 : Rep 0 l h)
    (step : ∀ i x l h (k : Fl → Loc → HH → Prop), xs[i]? = some x → Rep i l h → (∀ l h, Rep (i + 1) l h → k .next l h) → (∀ l h, Rep (i + 1) l h → k .cont l h) → turn (.int x) l h k)
    (fin : ∀ l h, Rep xs.length l h → Q .next l h) : ∃ all, items h src = some all ∧ fLoop src all turn Q all l h :=
  tFoldI (fun _ _ => ()) () (fun i _ l h => Rep i l h) (fun i _ l h r => hs i l h r) h0 (fun i _ x l h k hv r k1 k2 => step i x l h k hv r k1 k2) fin
theorem getD_get {α : Type} {l : List α} {i : Nat} {d : α} (h : i < l.length) : l[i]? = some (l.getD i d) := by
  rw [List.getElem?_eq_getElem h, List.getD_eq_getElem?_getD, List.getElem?_eq_getElem h]; rfl
theorem RaysAt.at_ {B : HH} {ra : List Nat} {R : List (List Int)} {j : Nat} (h : RaysAt B ra R) (hj : j < R.length) : ∃ ρ, ra[j]? = some ρ ∧ (ra.map V.ref)[j]? = some (.ref ρ) ∧ B ρ = some (.list ((R.getD j []).map V.int)) := by
  have hj' : j < ra.length := by rw [h.1]; exact hj
  exact ⟨ra[j], List.getElem?_eq_getElem hj', by rw [List.getElem?_map, List.getElem?_eq_getElem hj']; rfl, h.2 j _ _ (List.getElem?_eq_getElem hj') (getD_get hj)⟩
theorem c_pawns {n : Nat} {B H : HH} {a : GAd} {f r c : Nat} {vri vca vkn : List V} {fm rm K : List Int} {R : List (List Int)} {ra : List Nat} {Q : V → HH → Prop} (O : Own' B H (GL a f r c vri vca [] [] vkn (K.map V.int) (ra.map V.ref) (rm.map V.int) (fm.map V.int) [])) (hf0 : 0 < f) (hr0 : 0 < r) (hf : f < 10) (hr : r < 5)
    (RA : RaysAt B ra R) (hK : K.length = f * r) (hR : R.length = 8) (hRl : ∀ j < 8, (R.getD j []).length = f * r)
    (q : ∀ H' vp1 vp0, Own' B H' (GL a f r c vri vca vp1 vp0 vkn (K.map V.int) (ra.map V.ref) (rm.map V.int) (fm.map V.int) []) → Q .none H') : wc (n + 1) 4 [.ref a.x] H Q := by
  refine ⟨D_add_pawns, rfl, rfl, ?_⟩; walk_at "zz"
  change wpSs _ B_add_pawns [some (.ref a.x), none] H _
  unfold B_add_pawns
  have e0 : (f : Int) * r = ((f * r : Nat) : Int) := (Int.natCast_mul _ _).symm
  have p2 : f * r ≤ 9 * 4 := Nat.mul_le_mul (by omega) (by omega)
  have hx := O.get 10 rfl
  have hdx := O.get 11 rfl
  walk_at "zg"; (try simp only [e0]); walk_at "zz"
  refine ⟨⟨by omega, by omega⟩, tInv (xs := iot (f * r)) (fun i l h => (∃ o, l = [some (.ref a.x), o]) ∧ ∃ u v : List V, u.length = i ∧ v.length = i ∧ Own' B h (GL a f r c vri vca u v vkn (K.map V.int) (ra.map V.ref) (rm.map V.int) (fm.map V.int) []))
    (fun _ _ _ _ => congrArg some (rng_up _)) ⟨⟨_, rfl⟩, [], [], rfl, rfl, O⟩ (fun i x l H k hv hq1 k1 _ => ?_) (fun l H ⟨_, u, v, _, _, O⟩ => ⟨q _ _ _ O⟩)⟩
  obtain ⟨⟨o, hl⟩, u, v, hu, hvv, O⟩ := hq1
  obtain ⟨rfl, hi⟩ := iot_get hv
  subst hl
  have si : small (i : Int) := ⟨by omega, by omega⟩
  obtain ⟨ρ4, _, ha4, hρ4⟩ := RA.at_ (j := 4) (by rw [hR]; decide)
  obtain ⟨ρ5, _, ha5, hρ5⟩ := RA.at_ (j := 5) (by rw [hR]; decide)
  obtain ⟨ρ6, _, ha6, hρ6⟩ := RA.at_ (j := 6) (by rw [hR]; decide)
  obtain ⟨ρ7, _, ha7, hρ7⟩ := RA.at_ (j := 7) (by rw [hR]; decide)
  have l4 := hRl 4 (by decide)
  have l5 := hRl 5 (by decide)
  have l6 := hRl 6 (by decide)
  have l7 := hRl 7 (by decide)
  have hx := O.get 10 rfl
  have hdx := O.get 11 rfl
  have szl' : (36 : Nat) ≤ szl := by decide
  walk_at "zg"
  refine sList (v := .ref a.p0) (O.get 2 rfl) (by decide) ⟨by decide, by decide⟩ rfl ?_; walk_at "zz"
  try walk_at "zz"
  refine ⟨⟨_, O.get 4 rfl⟩, ?_⟩; walk_at "zz"
  refine sList (O.get 6 rfl) (by omega) si (gi_get (by omega)) ?_; walk_at "zz"
  try walk_at "zz"
  refine sList (O.get 7 rfl) (by decide) ⟨by decide, by decide⟩ ha4 ?_; walk_at "zz"
  refine sList (O.ext _ _ hρ4) (by omega) si (gi_get (by omega)) ?_; walk_at "zz"
  try walk_at "zz"
  refine sList (O.get 7 rfl) (by decide) ⟨by decide, by decide⟩ ha7 ?_; walk_at "zz"
  refine sList (O.ext _ _ hρ7) (by omega) si (gi_get (by omega)) ?_; walk_at "zz"
  try walk_at "zz"
  refine ⟨_, O.get 4 rfl, by omega, ?_⟩; walk_at "zz"
  (try refine Bx.mk ?_); (first | refine tPut1 O 4 rfl fun H O => ?_ | refine tPutK O 4 rfl fun H O => ?_); walk_at "zz"
  have hx := O.get 10 rfl
  have hdx := O.get 11 rfl
  walk_at "zg"
  refine sList (v := .ref a.p1) (O.get 2 rfl) (by decide) ⟨by decide, by decide⟩ rfl ?_; walk_at "zz"
  try walk_at "zz"
  refine ⟨⟨_, O.get 3 rfl⟩, ?_⟩; walk_at "zz"
  refine sList (O.get 6 rfl) (by omega) si (gi_get (by omega)) ?_; walk_at "zz"
  try walk_at "zz"
  refine sList (O.get 7 rfl) (by decide) ⟨by decide, by decide⟩ ha5 ?_; walk_at "zz"
  refine sList (O.ext _ _ hρ5) (by omega) si (gi_get (by omega)) ?_; walk_at "zz"
  try walk_at "zz"
  refine sList (O.get 7 rfl) (by decide) ⟨by decide, by decide⟩ ha6 ?_; walk_at "zz"
  refine sList (O.ext _ _ hρ6) (by omega) si (gi_get (by omega)) ?_; walk_at "zz"
  try walk_at "zz"
  refine ⟨_, O.get 3 rfl, by omega, ?_⟩; walk_at "zz"
  (try refine Bx.mk ?_); (first | refine tPut1 O 3 rfl fun H O => ?_ | refine tPutK O 3 rfl fun H O => ?_); walk_at "zz"
  exact k1 _ _ ⟨⟨_, rfl⟩, _, _, by simp [hu], by simp [hvv], O⟩
noncomputable def fullP (f r : Nat) : Int := 1 * 2 ^ ((f : Int) * r).toNat - 1
noncomputable def knNear (f r : Nat) (fm : List Int) (sq : Int) : Int :=
  Builtin.bitOr (Builtin.bitAnd (1 * 2 ^ sq.toNat * 2 ^ (1 : Int).toNat) (Builtin.bitAnd (fullP f r) (Builtin.bitNot (gi fm 0)))) (Builtin.bitAnd ((1 * 2 ^ sq.toNat : Int).fdiv (2 ^ (1 : Int).toNat)) (Builtin.bitAnd (fullP f r) (Builtin.bitNot (gi fm ((f : Int) - 1)))))
noncomputable def knFar (f r : Nat) (fm : List Int) (sq : Int) : Int :=
  Builtin.bitOr (Builtin.bitAnd (1 * 2 ^ sq.toNat * 2 ^ (2 : Int).toNat) (Builtin.bitAnd (Builtin.bitAnd (fullP f r) (Builtin.bitNot (gi fm 0))) (Builtin.bitNot (gi fm 1)))) (Builtin.bitAnd ((1 * 2 ^ sq.toNat : Int).fdiv (2 ^ (2 : Int).toNat)) (Builtin.bitAnd (Builtin.bitAnd (fullP f r) (Builtin.bitNot (gi fm ((f : Int) - 1)))) (Builtin.bitNot (gi fm ((f : Int) - 2)))))
noncomputable def knP (f r : Nat) (fm : List Int) (sq : Int) : Int :=
  Builtin.bitAnd (Builtin.bitOr (Builtin.bitOr (Builtin.bitOr (knNear f r fm sq * 2 ^ (2 * (f : Int)).toNat) ((knNear f r fm sq).fdiv (2 ^ (2 * (f : Int)).toNat))) (knFar f r fm sq * 2 ^ (f : Int).toNat)) ((knFar f r fm sq).fdiv (2 ^ (f : Int).toNat))) (fullP f r)
theorem c_knights {n : Nat} {B H : HH} {a : GAd} {f r c : Nat} {vri vca vp1 vp0 vki vra vrm : List V} {fm : List Int} {Q : V → HH → Prop} (O : Own' B H (GL a f r c vri vca vp1 vp0 [] vki vra vrm (fm.map V.int) [])) (hf0 : 1 < f) (hr0 : 0 < r) (hf : f < 10) (hr : r < 5)
    (lf : fm.length = f) (hfin : ∀ sq ∈ iot (f * r), (1 * 2 ^ sq.toNat : Int).natAbs < 2 ^ 64 ∧ (knNear f r fm sq).natAbs < 2 ^ 64 ∧ (knFar f r fm sq).natAbs < 2 ^ 64)
    (q : ∀ H', Own' B H' (GL a f r c vri vca vp1 vp0 (((iot (f * r)).foldl (fun s sq => s ++ [knP f r fm sq]) []).map V.int) vki vra vrm (fm.map V.int) []) → Q .none H') : wc (n + 1) 5 [.ref a.x] H Q := by
  refine ⟨D_add_knights, rfl, rfl, ?_⟩; walk_at "zz"
  change wpSs _ B_add_knights [some (.ref a.x), none, none, none, none, none, none, none, none, none, none] H _
  unfold B_add_knights
  have e0 : (f : Int) * r = ((f * r : Nat) : Int) := (Int.natCast_mul _ _).symm
  have p2 : f * r ≤ 9 * 4 := Nat.mul_le_mul (by omega) (by omega)
  have hx := O.get 10 rfl
  have hdx := O.get 11 rfl
  have hfm := O.get 9 rfl
  have szl' : (36 : Nat) ≤ szl := by decide
  walk_at "zg"
  walk_at "zg"
  refine sList hfm (by decide) ⟨by decide, by decide⟩ (gi_get (by show 0 < _; omega)) ?_; walk_at "zz"
  try walk_at "zz"
  walk_at "zg"
  refine sList hfm (by omega) ⟨by omega, by omega⟩ (gi_get (by omega)) ?_; walk_at "zz"
  try walk_at "zz"
  walk_at "zg"
  refine sList hfm (by decide) ⟨by decide, by decide⟩ (gi_get (by show 1 < _; omega)) ?_; walk_at "zz"
  try walk_at "zz"
  walk_at "zg"
  refine sList hfm (by omega) ⟨by omega, by omega⟩ (gi_get (by omega)) ?_; walk_at "zz"
  try walk_at "zz"
  walk_at "zg"; (try simp only [e0]); walk_at "zz"
  refine ⟨⟨by omega, by omega⟩, tFoldI (xs := iot (f * r)) (fun s sq => s ++ [knP f r fm sq]) ([] : List Int) (fun i s l h => (∃ o1 o2 o3 o4 o5, l = [some (.ref a.x), some (.int f),
      some (.int (Builtin.bitAnd (fullP f r) (Builtin.bitNot (gi fm 0)))), some (.int (Builtin.bitAnd (fullP f r) (Builtin.bitNot (gi fm ((f : Int) - 1))))),
      some (.int (Builtin.bitAnd (Builtin.bitAnd (fullP f r) (Builtin.bitNot (gi fm 0))) (Builtin.bitNot (gi fm 1)))),
      some (.int (Builtin.bitAnd (Builtin.bitAnd (fullP f r) (Builtin.bitNot (gi fm ((f : Int) - 1)))) (Builtin.bitNot (gi fm ((f : Int) - 2))))), o1, o2, o3, o4, o5]) ∧ s.length = i ∧
      Own' B h (GL a f r c vri vca vp1 vp0 (s.map V.int) vki vra vrm (fm.map V.int) []))
    (fun _ _ _ _ _ => congrArg some (rng_up _)) ⟨⟨_, _, _, _, _, by unfold fullP; rw [e0]⟩, rfl, O⟩ (fun i s x l H k hv hq2 k1 _ => ?_) (fun l H ⟨_, _, O⟩ => ⟨q _ O⟩)⟩
  obtain ⟨⟨o1, o2, o3, o4, o5, hl⟩, hs, O⟩ := hq2
  obtain ⟨rfl, hi⟩ := iot_get hv
  obtain ⟨b1, b2, b3⟩ := hfin i (iot_mem hi)
  subst hl
  walk_at "zg"
  refine ⟨by omega, by omega, by decide, ?_⟩; walk_at "zz"
  walk_at "zg"
  refine ⟨b1, ?_⟩; walk_at "zz"
  walk_at "zg"
  refine ⟨b1, ?_⟩; walk_at "zz"
  walk_at "zg"
  refine ⟨.inl ⟨by decide, by decide⟩, by omega, by omega, b2, .inl ⟨by decide, by decide⟩, by omega, by omega, by omega, b3, by omega, ?_⟩; walk_at "zz"
  have hx := O.get 10 rfl
  have hdx := O.get 11 rfl
  have hkn := O.get 5 rfl
  walk_at "zg"; (try simp only [hkn]); walk_at "zz"
  refine ⟨by rw [List.length_map]; omega, ?_⟩; walk_at "zz"
  (try refine Bx.mk ?_); (first | refine tPut1 O 5 rfl fun H O => ?_ | refine tPutK O 5 rfl fun H O => ?_); walk_at "zz"
  rw [← mapInt_snoc] at O
  exact k1 _ _ ⟨⟨_, _, _, _, _, rfl⟩, by simp [hs], O⟩
open PySem PySem.W PyProof.Rows PySem.Calls

theorem c_castles {n : Nat} {B H : HH} {a : GAd} {f r c : Nat} {vri vp1 vp0 vkn vki vra vrm vfm : List V} {Q : V → HH → Prop} (O : Own' B H (GL a f r c vri [] vp1 vp0 vkn vki vra vrm vfm [])) (hf0 : 0 < f) (hr0 : 0 < r) (hf : f < 10) (hr : r < 5) (hc : c < 900)
    (q : ∀ H' a' c' vri vca, a'.x = a.x → Own' B H' (GL a' f r c' vri vca vp1 vp0 vkn vki vra vrm vfm []) → Q .none H') : wc (n + 1) 6 [.ref a.x] H Q := by
  refine ⟨D_add_castles, rfl, rfl, ?_⟩; walk_at "zz"
  change wpSs _ B_add_castles [some (.ref a.x), none, none, none, none, none, none] H _
  unfold B_add_castles
  have e0 : (f : Int) * r = ((f * r : Nat) : Int) := (Int.natCast_mul _ _).symm
  have p2 : f * r ≤ 9 * 4 := Nat.mul_le_mul (by omega) (by omega)
  have szl' : (36 : Nat) ≤ szl := by decide
  walk_at "zg"
  intro z h_z; replace O := O.alloc (o := .list [.int 0]) h_z; revert O; generalize HH.set _ z _ = H; intro O; walk_at "zz"
  have hx := O.get 11 rfl
  have hdx := O.get 12 rfl
  have hz := O.get 0 rfl
  walk_at "zz"; (try simp only [hz, e0]); walk_at "zz"
  refine ⟨by omega, Int.ofNat_le.mpr (Nat.le_trans p2 (by decide)), ?_⟩; walk_at "zz"
  intro k h_k; replace O := O.alloc (o := .list (List.replicate ((f * r : Nat) : Int).toNat (.int 0))) h_k; revert O; generalize HH.set _ k _ = H; intro O; walk_at "zz"
  have hx := O.get 12 rfl
  have hdx := O.get 13 rfl
  walk_at "zz"
  refine ⟨(show 13 < 14 by decide), by omega, by decide, ?_⟩; walk_at "zz"
  (try refine Bx.mk ?_); (first | refine tPut1 O 13 (o' := .attrs (c + 1) ((gat a f r).set 13 (some (.ref k)))) rfl fun H O => ?_ | refine tPutK O 13 (o' := .attrs (c + 1) ((gat a f r).set 13 (some (.ref k)))) rfl fun H O => ?_); walk_at "zz"
  replace O := O.pick [0, 3, 4, 5, 6, 7, 8, 9, 10, 11, 12, 13] (by decide)
  generalize List.replicate ((f * r : Nat) : Int).toNat (V.int 0) = vri' at O
  replace O : Own' B H (GL { a with rights := k } f r (c + 1) vri' [] vp1 vp0 vkn vki vra vrm vfm []) := O
  obtain ⟨a', ha⟩ : ∃ a', a' = ({ a with rights := k } : GAd) := ⟨_, rfl⟩
  have ex : a'.x = a.x := by rw [ha]
  rw [← ha] at O; rw [← ex] at q ⊢; clear ha ex hx hdx
  have hx := O.get 10 rfl
  have hdx := O.get 11 rfl
  walk_at "zg"
  refine ⟨(by unfold small; omega), ?_⟩; walk_at "zz"
  walk_at "zg"
  refine ⟨⟨by decide, by decide⟩, tInv (xs := iot 4) (fun i l h => (∃ o1 o2 o3 o4 o5, l = [some (.ref a'.x), some (.int ((f : Int).fdiv 2)), o1, o2, o3, o4, o5]) ∧ ∃ u : List V, u.length = i ∧ Own' B h (GL a' f r (c + 1) vri' u vp1 vp0 vkn vki vra vrm vfm []))
    (fun _ _ _ _ => congrArg some (rng_up 4)) ⟨⟨_, _, _, _, _, rfl⟩, [], rfl, O⟩ (fun i x l H K hv hq1 k1 _ => ?_) (fun l H ⟨_, u, _, O⟩ => ⟨q _ _ _ _ _ rfl O⟩)⟩
  obtain ⟨⟨o1, o2, o3, o4, o5, hl⟩, u, hu, O⟩ := hq1
  obtain ⟨rfl, hi⟩ := iot_get hv
  subst hl
  have hx := O.get 10 rfl
  have hdx := O.get 11 rfl
  have hca := O.get 1 rfl
  walk_at "zg"
  refine ⟨.inr ⟨by omega, by omega⟩, ?_⟩; walk_at "zz"
  refine ⟨.inr ⟨by omega, by omega⟩, ?_⟩; walk_at "zz"
  walk_at "zg"
  walk_at "zg"
  walk_at "zg"
  cases ct : decide (Builtin.bitAnd (i : Int) 1 ≠ 0) <;> walk_at "zz"
  · walk_at "zz"
    walk_at "zg"
    refine ⟨.inl (by unfold small; omega), ?_⟩; walk_at "zz"
    walk_at "zg"; (try simp only [hca]); walk_at "zz"
    walk_at "zg"; (try simp only [hca]); walk_at "zz"
    refine ⟨by omega, ?_⟩; walk_at "zz"
    (try refine Bx.mk ?_); (first | refine tPut1 O 1 rfl fun H O => ?_ | refine tPutK O 1 rfl fun H O => ?_); walk_at "zz"
    exact k1 _ _ ⟨⟨_, _, _, _, _, rfl⟩, _, by simp [hu], O⟩
  · walk_at "zg"
    walk_at "zg"
    walk_at "zz"
    walk_at "zg"
    refine ⟨.inl (by unfold small; omega), ?_⟩; walk_at "zz"
    walk_at "zg"; (try simp only [hca]); walk_at "zz"
    walk_at "zg"; (try simp only [hca]); walk_at "zz"
    refine ⟨by omega, ?_⟩; walk_at "zz"
    (try refine Bx.mk ?_); (first | refine tPut1 O 1 rfl fun H O => ?_ | refine tPutK O 1 rfl fun H O => ?_); walk_at "zz"
    exact k1 _ _ ⟨⟨_, _, _, _, _, rfl⟩, _, by simp [hu], O⟩
open PySem PySem.W PyProof.Rows PySem.Calls

noncomputable def fmP (f r : Nat) : List Int := masks2 f (masks1 f r).2
noncomputable def rmP (f r : Nat) : List Int := (masks1 f r).1
noncomputable def kingP (f r : Nat) : List Int := (raysP f r (fmP f r) (rmP f r)).1
noncomputable def rayP (f r : Nat) : List (List Int) := (raysP f r (fmP f r) (rmP f r)).2
noncomputable def knightP (f r : Nat) : List Int := (iot (f * r)).foldl (fun s sq => s ++ [knP f r (fmP f r) sq]) []
structure ShapeOk (f r : Nat) : Prop where
  c : (masks1 f r).2.natAbs < 2 ^ 64
  lf : (fmP f r).length = f
  lr : (rmP f r).length = r
  ray : ∀ d ∈ iot 8, ∀ sq ∈ iot (f * r), tb (innerP f r (fmP f r) (rmP f r) d) sq = true → 0 ≤ sq + delP f d ∧ sq + delP f d < (f * r : Nat)
  lk : (kingP f r).length = f * r
  lR : (rayP f r).length = 8
  lRl : ∀ j < 8, ((rayP f r).getD j []).length = f * r
  kn : ∀ sq ∈ iot (f * r), (1 * 2 ^ sq.toNat : Int).natAbs < 2 ^ 64 ∧ (knNear f r (fmP f r) sq).natAbs < 2 ^ 64 ∧ (knFar f r (fmP f r) sq).natAbs < 2 ^ 64
  lkn : (knightP f r).length = f * r
theorem ok23 : ShapeOk 2 3 := ⟨by decide +kernel, by decide +kernel, by decide +kernel, by decide +kernel, by decide +kernel, by decide +kernel, by decide +kernel, by decide +kernel, by decide +kernel⟩
theorem ok33 : ShapeOk 3 3 := ⟨by decide +kernel, by decide +kernel, by decide +kernel, by decide +kernel, by decide +kernel, by decide +kernel, by decide +kernel, by decide +kernel, by decide +kernel⟩
theorem ok24 : ShapeOk 2 4 := ⟨by decide +kernel, by decide +kernel, by decide +kernel, by decide +kernel, by decide +kernel, by decide +kernel, by decide +kernel, by decide +kernel, by decide +kernel⟩
noncomputable def GeoAt (H : HH) (x f r : Nat) : Prop := ∃ (a : GAd) (c : Nat) (ra : List Nat), a.x = x ∧ H a.x = some (.inst a.dx) ∧ H a.dx = some (.attrs c (gat a f r)) ∧ H a.king = some (.list ((kingP f r).map V.int)) ∧
  H a.knight = some (.list ((knightP f r).map V.int)) ∧ H a.rays = some (.list (ra.map V.ref)) ∧ RaysAt H ra (rayP f r)
theorem RaysAt.ext {B B' : HH} {ra : List Nat} {R : List (List Int)} (h : RaysAt B ra R) (x : Ext B B') : RaysAt B' ra R := ⟨h.1, fun j ρ l e1 e2 => x _ _ (h.2 j ρ l e1 e2)⟩
theorem GeoAt.ext {H H' : HH} {x f r : Nat} (G : GeoAt H x f r) (E : Ext H H') : GeoAt H' x f r := by
  obtain ⟨a, c, ra, h1, h2, h3, h4, h5, h6, h7⟩ := G
  exact ⟨a, c, ra, h1, E _ _ h2, E _ _ h3, E _ _ h4, E _ _ h5, E _ _ h6, h7.ext E⟩
theorem c_make {n : Nat} {H : HH} {f r : Nat} {Q : V → HH → Prop} (S : ShapeOk f r) (hf0 : 1 < f) (hr0 : 2 < r) (hf : f < 9) (hr : r < 5)
    (q : ∀ H' x, Ext H H' → GeoAt H' x f r → Q (.ref x) H') : wc (n + 3) 7 [.int f, .int r, .bool false, .bool false] H Q := by
  refine ⟨D_make_geometry, rfl, rfl, ?_⟩; walk_at "zz"
  change wpSs _ B_make_geometry [some (.int f), some (.int r), some (.bool false), some (.bool false), none] H _
  unfold B_make_geometry
  have t1 : decide ((f : Int) < 2) = false := decide_eq_false (by omega)
  have t2 : decide ((8 : Int) < f) = false := decide_eq_false (by omega)
  have t3 : decide ((r : Int) < 3) = false := decide_eq_false (by omega)
  have t4 : decide ((8 : Int) < r) = false := decide_eq_false (by omega)
  walk_at "zg"; (try simp only [t1, t2, t3, t4]); walk_at "zz"
  walk_at "zz"
  walk_at "zg"
  refine ⟨rfl, ?_⟩; walk_at "zz"
  intro x dx hne hx0 hdx0
  have O0 : Own' H ((H.set dx (.attrs 0 (attn.map fun _ => none))).set x (.inst dx)) [(x, .inst dx), (dx, .attrs 0 (attn.map fun _ => none))] :=
    ((Own'.nil H).alloc hdx0).alloc (by rw [set_other _ _ hne]; exact hx0)
  refine c_init O0 (by omega) (by omega) (by omega) (by omega) fun H' fm rm rays king knight pawn castles rights p0 p1 O => ?_; walk_at "zz"
  replace O : Own' H H' (GL ⟨x, dx, fm, rm, rays, king, knight, pawn, castles, rights, p0, p1⟩ f r 14 [] [] [] [] [] [] [] [] [] []) := O
  obtain ⟨a, ha⟩ : ∃ a, a = GAd.mk x dx fm rm rays king knight pawn castles rights p0 p1 := ⟨_, rfl⟩
  have ex : x = a.x := by rw [ha]
  rw [← ha] at O; clear ha O0; subst ex
  refine ⟨rfl, ?_⟩; walk_at "zz"
  walk_at "zz"
  walk_at "zg"
  refine c_masks O (by omega) (by omega) S.c fun H O => ?_; walk_at "zz"
  walk_at "zz"
  walk_at "zg"
  refine c_rays (fm := fmP f r) (rm := rmP f r) O (by omega) (by omega) (by omega) (by omega) (by omega) S.lf S.lr S.ray fun H B' a' ra ex E RA O => ?_; walk_at "zz"
  rw [← ex] at *
  walk_at "zz"
  walk_at "zg"
  refine c_pawns O (by omega) (by omega) (by omega) (by omega) RA S.lk S.lR S.lRl fun H vp1 vp0 O => ?_; walk_at "zz"
  walk_at "zz"
  walk_at "zg"
  refine c_knights O (by omega) (by omega) (by omega) (by omega) S.lf S.kn fun H O => ?_; walk_at "zz"
  walk_at "zz"
  walk_at "zg"
  refine c_castles O (by omega) (by omega) (by omega) (by omega) (by omega) fun H a'' c vri vca ex O => ?_; walk_at "zz"
  rw [← ex] at *
  walk_at "zz"
  walk_at "zg"
  exact q _ _ (E.trans O.ext) ⟨a'', c, ra, rfl, O.get 10 rfl, O.get 11 rfl, O.get 6 rfl, O.get 5 rfl, O.get 7 rfl, RA.ext O.ext⟩
open PySem PySem.W PyProof.Rows PySem.Calls

noncomputable def smear (s : Int) : Int :=
  let b0 := s.fdiv (2 ^ (1 : Int).toNat)
  let b1 := Builtin.bitOr b0 (b0.fdiv (2 ^ (1 : Int).toNat))
  let b2 := Builtin.bitOr b1 (b1.fdiv (2 ^ (2 : Int).toNat))
  let b3 := Builtin.bitOr b2 (b2.fdiv (2 ^ (4 : Int).toNat))
  let b4 := Builtin.bitOr b3 (b3.fdiv (2 ^ (8 : Int).toNat))
  let b5 := Builtin.bitOr b4 (b4.fdiv (2 ^ (16 : Int).toNat))
  Builtin.bitOr b5 (b5.fdiv (2 ^ (32 : Int).toNat))
noncomputable def rayCut (ray occ : Int) (g : Bool) : Int :=
  if decide (Builtin.bitAnd ray occ = 0) then ray else if g then Builtin.bitAnd ray (Builtin.bitXor (Builtin.bitAnd ray occ) (Builtin.bitAnd ray occ - 1)) else Builtin.bitAnd ray (Builtin.bitNot (smear (Builtin.bitAnd ray occ)))
noncomputable def rayAtt (f r : Nat) (d sq occ : Int) : Int := rayCut (gi ((rayP f r).getD d.toNat []) sq) occ (grow d)
theorem c_rayatt {n : Nat} {H : HH} {x f r : Nat} {d sq occ : Int} {Q : V → HH → Prop} (S : ShapeOk f r) (G : GeoAt H x f r) (h0 : 0 ≤ d) (h8 : d < 8) (s0 : 0 ≤ sq) (s1 : sq < (f * r : Nat)) (sz : f * r < 10)
    (q : Q (.int (rayAtt f r d sq occ)) H) : wc (n + 2) 8 [.ref x, .int d, .int sq, .int occ] H Q := by
  refine ⟨D_ray_attacks, rfl, rfl, ?_⟩; walk_at "zz"
  change wpSs _ B_ray_attacks [some (.ref x), some (.int d), some (.int sq), some (.int occ), none, none, none] H _
  unfold B_ray_attacks
  obtain ⟨a, c, ra, rfl, hx, hdx, _, _, hra, RA⟩ := G
  obtain ⟨ρ, _, e1, e2⟩ := RA.at_ (j := d.toNat) (by rw [S.lR]; omega)
  have hl := S.lRl d.toNat (by omega)
  unfold rayAtt rayCut at q
  walk_at "zg"
  refine sList hra h0 (by unfold small; omega) e1 ?_; walk_at "zz"
  refine sList e2 s0 (by unfold small; omega) (gi_get (by omega)) ?_; walk_at "zz"
  walk_at "zz"
  generalize gi ((rayP f r).getD d.toNat []) sq = ray at q ⊢
  walk_at "zg"
  walk_at "zg"
  cases c1 : decide (Builtin.bitAnd ray occ = 0) <;> simp only [c1, if_true, if_false, Bool.false_eq_true] at q <;> walk_at "zz"
  · walk_at "zz"
    walk_at "zg"
    refine c_grow h0 h8 ?_; walk_at "zz"
    cases c2 : grow d <;> simp only [c2, if_true, if_false, Bool.false_eq_true] at q <;> walk_at "zz"
    · walk_at "zz"
      walk_at "zg"
      walk_at "zg"
      walk_at "zg"
      walk_at "zg"
      walk_at "zg"
      walk_at "zg"
      walk_at "zg"
      walk_at "zg"
      exact q
    · walk_at "zg"
      exact q
  · walk_at "zg"
    exact q
noncomputable def rookP (f r : Nat) (sq occ : Int) : Int := (iot 4).foldl (fun s d => Builtin.bitOr s (rayAtt f r d sq occ)) 0
noncomputable def bishP (f r : Nat) (sq occ : Int) : Int := ((iot 4).map fun i => 4 + i).foldl (fun s d => Builtin.bitOr s (rayAtt f r d sq occ)) 0
theorem c_rook {n : Nat} {H : HH} {x f r : Nat} {sq occ : Int} {Q : V → HH → Prop} (S : ShapeOk f r) (G : GeoAt H x f r) (s0 : 0 ≤ sq) (s1 : sq < (f * r : Nat)) (sz : f * r < 10)
    (q : Q (.int (rookP f r sq occ)) H) : wc (n + 3) 9 [.ref x, .int sq, .int occ] H Q := by
  refine ⟨D_rook_attacks, rfl, rfl, ?_⟩; walk_at "zz"
  change wpSs _ B_rook_attacks [some (.ref x), some (.int sq), some (.int occ), none, none] H _
  unfold B_rook_attacks
  walk_at "zg"
  walk_at "zg"
  refine ⟨(by unfold small; omega), tFoldI (xs := iot 4) (fun s d => Builtin.bitOr s (rayAtt f r d sq occ)) (0 : Int) (fun i s l h => h = H ∧ ∃ o, l = [some (.ref x), some (.int sq), some (.int occ), some (.int s), o]) (fun _ _ _ _ _ => congrArg some (rng_up 4))
    ⟨rfl, _, rfl⟩ (fun i s y l h k hv hq1 k1 _ => ?_) (fun l h hq2 => ?_)⟩
  · obtain ⟨e, o, hl⟩ := hq1
    obtain ⟨rfl, hi⟩ := iot_get hv
    subst e hl
    walk_at "zg"
    refine c_rayatt S G (by omega) (by omega) s0 s1 sz ?_; walk_at "zz"
    walk_at "zz"
    exact k1 _ _ ⟨rfl, _, rfl⟩
  · obtain ⟨e, o, hl⟩ := hq2
    subst e hl
    walk_at "zz"
    walk_at "zg"
    exact q
theorem c_bish {n : Nat} {H : HH} {x f r : Nat} {sq occ : Int} {Q : V → HH → Prop} (S : ShapeOk f r) (G : GeoAt H x f r) (s0 : 0 ≤ sq) (s1 : sq < (f * r : Nat)) (sz : f * r < 10)
    (q : Q (.int (bishP f r sq occ)) H) : wc (n + 3) 10 [.ref x, .int sq, .int occ] H Q := by
  refine ⟨D_bishop_attacks, rfl, rfl, ?_⟩; walk_at "zz"
  change wpSs _ B_bishop_attacks [some (.ref x), some (.int sq), some (.int occ), none, none] H _
  unfold B_bishop_attacks
  walk_at "zg"
  walk_at "zg"
  refine ⟨(by unfold small; omega), (by unfold small; omega), tFoldI (xs := (iot 4).map fun i => 4 + i) (fun s d => Builtin.bitOr s (rayAtt f r d sq occ)) (0 : Int) (fun i s l h => h = H ∧ ∃ o, l = [some (.ref x), some (.int sq), some (.int occ), some (.int s), o])
    (fun _ _ _ _ _ => congrArg some ((rng_from 4 8 (by decide)).trans (by rw [List.map_map]; rfl)))
    ⟨rfl, _, rfl⟩ (fun i s y l h k hv hq3 k1 _ => ?_) (fun l h hq4 => ?_)⟩
  · obtain ⟨e, o, hl⟩ := hq3
    rw [List.getElem?_map] at hv
    obtain ⟨y, hv2, rfl⟩ := Option.map_eq_some_iff.mp hv
    obtain ⟨rfl, hi⟩ := iot_get hv2
    subst e hl
    walk_at "zg"
    refine c_rayatt S G (by omega) (by omega) s0 s1 sz ?_; walk_at "zz"
    walk_at "zz"
    exact k1 _ _ ⟨rfl, _, rfl⟩
  · obtain ⟨e, o, hl⟩ := hq4
    subst e hl
    walk_at "zz"
    walk_at "zg"
    exact q
theorem c_queen {n : Nat} {H : HH} {x f r : Nat} {sq occ : Int} {Q : V → HH → Prop} (S : ShapeOk f r) (G : GeoAt H x f r) (s0 : 0 ≤ sq) (s1 : sq < (f * r : Nat)) (sz : f * r < 10)
    (q : Q (.int (Builtin.bitOr (rookP f r sq occ) (bishP f r sq occ))) H) : wc (n + 4) 11 [.ref x, .int sq, .int occ] H Q := by
  refine ⟨D_queen_attacks, rfl, rfl, ?_⟩; walk_at "zz"
  change wpSs _ B_queen_attacks [some (.ref x), some (.int sq), some (.int occ)] H _
  unfold B_queen_attacks
  walk_at "zg"
  refine c_rook S G s0 s1 sz ?_; walk_at "zz"
  refine c_bish S G s0 s1 sz ?_; walk_at "zz"
  walk_at "zz"
  exact q
noncomputable def attP (f r : Nat) (kind sq occ : Int) : Int :=
  if kind = 2 then gi (knightP f r) sq else if kind = 3 then bishP f r sq occ else if kind = 4 then rookP f r sq occ else Builtin.bitOr (rookP f r sq occ) (bishP f r sq occ)
theorem c_att {n : Nat} {H : HH} {x f r : Nat} {side kind sq occ : Int} {Q : V → HH → Prop} (S : ShapeOk f r) (G : GeoAt H x f r) (k0 : 2 ≤ kind) (k5 : kind ≤ 5) (s0 : 0 ≤ sq) (s1 : sq < (f * r : Nat)) (sz : f * r < 10)
    (q : Q (.int (attP f r kind sq occ)) H) : wc (n + 6) 13 [.ref x, .int side, .int kind, .int sq, .int occ] H Q := by
  refine ⟨D_piece_attacks, rfl, rfl, ?_⟩; walk_at "zz"
  change wpSs _ B_piece_attacks [some (.ref x), some (.int side), some (.int kind), some (.int sq), some (.int occ)] H _
  unfold B_piece_attacks
  have hk : kind = 2 ∨ kind = 3 ∨ kind = 4 ∨ kind = 5 := by omega
  rcases hk with rfl | rfl | rfl | rfl
  · obtain ⟨a, c, ra, rfl, hx, hdx, _, hkn, hra, RA⟩ := G
    walk_at "zg"
    walk_at "zz"
    walk_at "zg"
    walk_at "zg"
    refine sList hkn s0 (by unfold small; omega) (gi_get (by rw [S.lkn]; omega)) ?_; walk_at "zz"
    exact q
  · walk_at "zg"
    walk_at "zz"
    walk_at "zg"
    walk_at "zz"
    walk_at "zg"
    walk_at "zz"
    walk_at "zg"
    refine ⟨D_slider_attacks, rfl, rfl, ?_⟩; walk_at "zz"
    change wpSs _ B_slider_attacks [some (.ref x), some (.int 3), some (.int sq), some (.int occ)] H _
    unfold B_slider_attacks
    walk_at "zg"
    walk_at "zg"
    refine c_bish S G s0 s1 sz ?_; walk_at "zz"
    exact q
  · walk_at "zg"
    walk_at "zz"
    walk_at "zg"
    walk_at "zz"
    walk_at "zg"
    walk_at "zz"
    walk_at "zg"
    refine ⟨D_slider_attacks, rfl, rfl, ?_⟩; walk_at "zz"
    change wpSs _ B_slider_attacks [some (.ref x), some (.int 4), some (.int sq), some (.int occ)] H _
    unfold B_slider_attacks
    walk_at "zg"
    walk_at "zz"
    walk_at "zg"
    walk_at "zg"
    refine c_rook S G s0 s1 sz ?_; walk_at "zz"
    exact q
  · walk_at "zg"
    walk_at "zz"
    walk_at "zg"
    walk_at "zz"
    walk_at "zg"
    walk_at "zz"
    walk_at "zg"
    refine ⟨D_slider_attacks, rfl, rfl, ?_⟩; walk_at "zz"
    change wpSs _ B_slider_attacks [some (.ref x), some (.int 5), some (.int sq), some (.int occ)] H _
    unfold B_slider_attacks
    walk_at "zg"
    walk_at "zz"
    walk_at "zg"
    walk_at "zz"
    walk_at "zg"
    walk_at "zg"
    refine c_queen S G s0 s1 sz ?_; walk_at "zz"
    exact q
open PySem PySem.W PyProof.Rows PySem.Calls

theorem Own'.comp {B H H' : HH} {L L' : List (Nat × CO)} (O : Own' B H L) (N : Own' H H' L') : Own' B H' (L' ++ L) where
  nod := by
    rw [List.map_append, List.nodup_append]
    refine ⟨N.nod, O.nod, fun a ha b hb e => ?_⟩; walk_at "zz"
    obtain ⟨p, hp, rfl⟩ := List.mem_map.mp ha
    obtain ⟨p2, hp2, rfl⟩ := List.mem_map.mp hb
    have h1 := N.new p hp
    rw [e, O.at_ p2 hp2] at h1; cases h1
  at_ := fun p hp => by
    rcases List.mem_append.mp hp with h | h
    · exact N.at_ p h
    · exact N.ext _ _ (O.at_ p h)
  new := fun p hp => by
    rcases List.mem_append.mp hp with h | h
    · exact O.ext.none (N.new p h)
    · exact O.new p h
  ext := O.ext.trans N.ext
theorem tFlatI {α : Type} {src : V} {xs : List Int} {turn : V → Loc → HH → (Fl → Loc → HH → Prop) → Prop} {Q : Fl → Loc → HH → Prop} {l : Loc} {h : HH} (F : Int → List α) (Rep : Nat → List α → Loc → HH → Prop)
    (hs : ∀ i s l h, Rep i s l h → items h src = some (xs.map V.int)) (h0 : Rep 0 [] l h)
    (step : ∀ i s x l h (k : Fl → Loc → HH → Prop), xs[i]? = some x → Rep i s l h → (∀ l h, Rep (i + 1) (s ++ F x) l h → k .next l h) → (∀ l h, Rep (i + 1) (s ++ F x) l h → k .cont l h) → turn (.int x) l h k)
    (fin : ∀ l h, Rep xs.length (xs.flatMap F) l h → Q .next l h) : ∃ all, items h src = some all ∧ fLoop src all turn Q all l h := by
  have e : ∀ (ys : List Int) s, ys.foldl (fun s x => s ++ F x) s = s ++ ys.flatMap F := by
    intro ys
    induction ys with
    | nil => intro s; simp
    | cons y ys ih => intro s; rw [List.foldl_cons, ih, List.flatMap_cons, List.append_assoc]
  refine tFoldI (fun s x => s ++ F x) [] Rep hs h0 step fun l h r => fin l h ?_; walk_at "zz"
  rw [e] at r; exact r
noncomputable def idx (n side s p w : Int) : Int := ((side * n + s) * n + p) * n + w
theorem idx_step {A M n p : Int} (h0 : 0 ≤ A) (h1 : A + 1 ≤ M) (p0 : 0 ≤ p) (p1 : p < n) : 0 ≤ A * n + p ∧ A * n + p + 1 ≤ M * n := by
  have h2 : 0 ≤ A * n := Int.mul_nonneg h0 (by omega)
  have h3 : (A + 1) * n ≤ M * n := Int.mul_le_mul_of_nonneg_right h1 (by omega)
  rw [Int.add_mul, Int.one_mul] at h3
  omega
theorem idx_lt {n side s p w : Int} (a0 : 0 ≤ side) (a1 : side < 2) (s0 : 0 ≤ s) (s1 : s < n) (p0 : 0 ≤ p) (p1 : p < n) (w0 : 0 ≤ w) (w1 : w < n) : 0 ≤ idx n side s p w ∧ idx n side s p w < 2 * n * n * n := by
  obtain ⟨h1, h2⟩ := idx_step (M := 2) a0 (by omega) s0 s1
  obtain ⟨h3, h4⟩ := idx_step h1 h2 p0 p1
  obtain ⟨h5, h6⟩ := idx_step h3 h4 w0 w1
  exact ⟨h5, by unfold idx; omega⟩
noncomputable abbrev Mv := Int × Int × Int
noncomputable def mvV (m : Mv) : V := .tup [.int m.1, .int m.2.1, .int m.2.2]
noncomputable def weakF (f r : Nat) (T : List Int) (s p w g : Int) : List Mv :=
  if tb (gi (kingP f r) w) g then
    if g = p then (if tb (gi (kingP f r) s) p then [] else [(w, g, -1)])
    else if gi T (idx (f * r : Nat) 0 s p g) = -2 then [] else [(w, g, idx (f * r : Nat) 0 s p g)]
  else []
noncomputable def weakM (f r : Nat) (T : List Int) (s p w : Int) : List Mv := (iot (f * r)).flatMap (weakF f r T s p w)
noncomputable def strongK (f r : Nat) (T : List Int) (s p w g : Int) : List Mv :=
  if tb (gi (kingP f r) s) g then if gi T (idx (f * r : Nat) 1 g p w) = -2 then [] else [(s, g, idx (f * r : Nat) 1 g p w)] else []
noncomputable def strongS (f r : Nat) (T : List Int) (kind s p w g : Int) : List Mv :=
  if tb (attP f r kind p (Builtin.bitOr (1 * 2 ^ s.toNat) (1 * 2 ^ w.toNat))) g then if gi T (idx (f * r : Nat) 1 s g w) = -2 then [] else [(p, g, idx (f * r : Nat) 1 s g w)] else []
noncomputable def strongM (f r : Nat) (T : List Int) (kind s p w : Int) : List Mv := (iot (f * r)).flatMap (strongK f r T s p w) ++ (iot (f * r)).flatMap (strongS f r T kind s p w)
theorem tb_t {x i : Int} (h : decide (Builtin.bitAnd (x.fdiv (2 ^ i.toNat)) 1 = 0) = false) : tb x i = true := by
  unfold tb; exact decide_eq_true (of_decide_eq_false h)
theorem tb_f {x i : Int} (h : decide (Builtin.bitAnd (x.fdiv (2 ^ i.toNat)) 1 = 0) = true) : tb x i = false := by
  unfold tb; exact decide_eq_false (not_not_intro (of_decide_eq_true h))
theorem idx_small {n : Nat} {T : List Int} {side s p w : Int} (hn : n < 10) (hT : T.length = 2 * n * n * n) (a0 : 0 ≤ side) (a1 : side < 2) (s0 : 0 ≤ s) (s1 : s < n) (p0 : 0 ≤ p) (p1 : p < n) (w0 : 0 ≤ w) (w1 : w < n) :
    0 ≤ idx n side s p w ∧ small (idx n side s p w) ∧ (T.map V.int)[(idx n side s p w).toNat]? = some (.int (gi T (idx n side s p w))) := by
  obtain ⟨h1, h2⟩ := idx_lt a0 a1 s0 s1 p0 p1 w0 w1
  have h3 : (T.length : Int) = 2 * n * n * n := by rw [hT]; simp
  have h4 : 2 * (n : Int) * n * n ≤ 18 * 9 * 9 := Int.mul_le_mul (Int.mul_le_mul (by omega) (by omega) (by omega) (by omega)) (by omega) (by omega) (by omega)
  exact ⟨h1, (by unfold small; omega), gi_get (by omega)⟩
theorem c_idx {n : Nat} {size side a b c : Int} {H : HH} {Q : V → HH → Prop} (hs : small size) (q : Q (.int (idx size side a b c)) H) : wc (n + 1) 15 [.int size, .int side, .int a, .int b, .int c] H Q := c_index hs q
theorem c_weak {n : Nat} {B : HH} {x f r tab : Nat} {T : List Int} {s p w : Int} {Q : V → HH → Prop} (S : ShapeOk f r) (G : GeoAt B x f r) (ht : B tab = some (.list (T.map V.int))) (hT : T.length = 2 * (f * r) * (f * r) * (f * r)) (sz : f * r < 10)
    (s0 : 0 ≤ s) (s1 : s < (f * r : Nat)) (p0 : 0 ≤ p) (p1 : p < (f * r : Nat)) (w0 : 0 ≤ w) (w1 : w < (f * r : Nat))
    (q : ∀ H' c, Own' B H' [(c, .list ((weakM f r T s p w).map mvV))] → Q (.ref c) H') : wc (n + 2) 18 [.ref x, .ref tab, .int s, .int p, .int w] B Q := by
  refine ⟨D_weak_moves, rfl, rfl, ?_⟩; walk_at "zz"
  change wpSs _ B_weak_moves [some (.ref x), some (.ref tab), some (.int s), some (.int p), some (.int w), none, none, none, none] B _
  unfold B_weak_moves
  have e0 : (f : Int) * r = ((f * r : Nat) : Int) := (Int.natCast_mul _ _).symm
  obtain ⟨a, c, ra, rfl, hx, hdx, hki, _, _, _⟩ := G
  have O := Own'.nil B
  have szl' : (1000 : Nat) ≤ szl := by decide
  walk_at "zg"
  intro out h_out; replace O := O.alloc (o := .list []) h_out; revert O; generalize HH.set _ out _ = H; intro O; walk_at "zz"
  have hx' := O.ext _ _ hx
  have hdx' := O.ext _ _ hdx
  walk_at "zg"
  refine sList (O.ext _ _ hki) w0 (by unfold small; omega) (gi_get (by rw [S.lk]; omega)) ?_; walk_at "zz"
  walk_at "zz"
  walk_at "zg"; (try simp only [e0]); walk_at "zz"
  refine ⟨(by unfold small; omega), tFlatI (xs := iot (f * r)) (weakF f r T s p w) (fun i m l h => (∃ o1 o2, l = [some (.ref a.x), some (.ref tab), some (.int s), some (.int p), some (.int w), some (.ref out), some (.int (gi (kingP f r) w)), o1, o2]) ∧ m.length ≤ i ∧ Own' B h [(out, .list (m.map mvV))])
    (fun _ _ _ _ _ => congrArg some (rng_up _)) ⟨⟨_, _, rfl⟩, Nat.le_refl _, O⟩ (fun i m y l H k hv hq1 k1 k2 => ?_) (fun l H hq2 => ?_)⟩
  · obtain ⟨⟨o1, o2, hl⟩, hm, O⟩ := hq1
    obtain ⟨rfl, hi⟩ := iot_get hv
    subst hl
    have hx' := O.ext _ _ hx
    have hdx' := O.ext _ _ hdx
    have ho := O.get 0 rfl
    walk_at "zg"
    refine ⟨by omega, ?_⟩; walk_at "zz"
    unfold weakF at k1 k2
    cases c1 : decide (Builtin.bitAnd ((gi (kingP f r) w).fdiv (2 ^ (i : Int).toNat)) 1 = 0)
    · rw [tb_t c1, if_pos rfl] at k1
      walk_at "zz"
      walk_at "zz"
      walk_at "zg"
      cases c2 : decide ((i : Int) = p)
      · rw [if_neg (of_decide_eq_false c2)] at k1
        walk_at "zz"
        walk_at "zg"; (try simp only [e0]); walk_at "zz"
        refine c_idx (by unfold small; omega) ?_; walk_at "zz"
        obtain ⟨i0, i1, i2⟩ := idx_small (side := 0) sz hT (by decide) (by decide) s0 s1 p0 p1 (w := i) (by omega) (by omega)
        generalize idx (f * r : Nat) 0 s p i = pl at i0 i1 i2 k1 ⊢
        walk_at "zz"
        walk_at "zg"
        refine sList (O.ext _ _ ht) i0 i1 i2 ?_; walk_at "zz"
        walk_at "zz"
        cases c3 : decide (gi T pl = -2)
        · rw [if_neg (of_decide_eq_false c3)] at k1
          walk_at "zz"
          walk_at "zg"
          refine ⟨by rw [List.length_map]; omega, ?_⟩; walk_at "zz"
          (try refine Bx.mk ?_); (first | refine tPut1 O 0 rfl fun H O => ?_ | refine tPutK O 0 rfl fun H O => ?_); walk_at "zz"
          exact k1 _ _ ⟨⟨_, _, rfl⟩, by simp; omega, by rw [List.map_append]; exact O⟩
        · rw [if_pos (of_decide_eq_true c3)] at k1
          walk_at "zz"
          exact k1 _ _ ⟨⟨_, _, rfl⟩, by simp; omega, by simpa using O⟩
      · rw [if_pos (of_decide_eq_true c2)] at k1
        walk_at "zz"
        walk_at "zg"
        refine sList (O.ext _ _ hki) s0 (by unfold small; omega) (gi_get (by rw [S.lk]; omega)) ?_; walk_at "zz"
        walk_at "zz"
        refine ⟨p0, ?_⟩; walk_at "zz"
        cases c3 : decide (Builtin.bitAnd ((gi (kingP f r) s).fdiv (2 ^ p.toNat)) 1 = 0)
        · rw [tb_t c3, if_pos rfl] at k1
          walk_at "zz"
          exact k1 _ _ ⟨⟨_, _, rfl⟩, by simp; omega, by simpa using O⟩
        · rw [tb_f c3, if_neg (by decide)] at k1
          walk_at "zz"
          walk_at "zg"
          refine ⟨by rw [List.length_map]; omega, ?_⟩; walk_at "zz"
          (try refine Bx.mk ?_); (first | refine tPut1 O 0 rfl fun H O => ?_ | refine tPutK O 0 rfl fun H O => ?_); walk_at "zz"
          exact k1 _ _ ⟨⟨_, _, rfl⟩, by simp; omega, by rw [List.map_append]; exact O⟩
    · rw [tb_f c1, if_neg (by decide)] at k2
      walk_at "zz"
      walk_at "zg"
      exact k2 _ _ ⟨⟨_, _, rfl⟩, by simp; omega, by simpa using O⟩
  · obtain ⟨⟨o1, o2, hl⟩, hm, O⟩ := hq2
    subst hl
    walk_at "zz"
    walk_at "zg"
    exact q _ _ O
open PySem PySem.W PyProof.Rows PySem.Calls

theorem tb_d {x i : Int} {b : Bool} (h : decide (Builtin.bitAnd (x.fdiv (2 ^ i.toNat)) 1 ≠ 0) = b) : tb x i = b := h
theorem pow_lt {s : Int} (h0 : 0 ≤ s) (h1 : s < 10) : (1 : Int).natAbs < 2 ^ 64 := by decide
theorem flat_len {α : Type} {F : Int → List α} (h : ∀ x, (F x).length ≤ 1) (l : List Int) : (l.flatMap F).length ≤ l.length := by
  induction l with
  | nil => simp
  | cons x l ih => rw [List.flatMap_cons, List.length_append, List.length_cons]; have := h x; omega
theorem strongK_len (f r : Nat) (T : List Int) (s p w g : Int) : (strongK f r T s p w g).length ≤ 1 := by
  unfold strongK; split <;> (try split) <;> simp
theorem strongS_len (f r : Nat) (T : List Int) (kind s p w g : Int) : (strongS f r T kind s p w g).length ≤ 1 := by
  unfold strongS; split <;> (try split) <;> simp
theorem weakF_len (f r : Nat) (T : List Int) (s p w g : Int) : (weakF f r T s p w g).length ≤ 1 := by
  unfold weakF; split <;> (try split) <;> (try split) <;> simp
theorem c_strong {n : Nat} {B : HH} {x f r tab : Nat} {T : List Int} {kind s p w : Int} {Q : V → HH → Prop} (S : ShapeOk f r) (G : GeoAt B x f r) (ht : B tab = some (.list (T.map V.int))) (hT : T.length = 2 * (f * r) * (f * r) * (f * r)) (sz : f * r < 10)
    (k0 : 2 ≤ kind) (k5 : kind ≤ 5) (s0 : 0 ≤ s) (s1 : s < (f * r : Nat)) (p0 : 0 ≤ p) (p1 : p < (f * r : Nat)) (w0 : 0 ≤ w) (w1 : w < (f * r : Nat))
    (q : ∀ H' c, Own' B H' [(c, .list ((strongM f r T kind s p w).map mvV))] → Q (.ref c) H') : wc (n + 7) 19 [.ref x, .ref tab, .int kind, .int s, .int p, .int w] B Q := by
  refine ⟨D_strong_moves, rfl, rfl, ?_⟩; walk_at "zz"
  change wpSs _ B_strong_moves [some (.ref x), some (.ref tab), some (.int kind), some (.int s), some (.int p), some (.int w), none, none, none, none, none] B _
  unfold B_strong_moves
  have e0 : (f : Int) * r = ((f * r : Nat) : Int) := (Int.natCast_mul _ _).symm
  have G0 := G
  obtain ⟨a, c, ra, rfl, hx, hdx, hki, _, _, _⟩ := G
  have O := Own'.nil B
  have szl' : (1000 : Nat) ≤ szl := by decide
  walk_at "zg"
  intro out h_out; replace O := O.alloc (o := .list []) h_out; revert O; generalize HH.set _ out _ = H; intro O; walk_at "zz"
  have hx' := O.ext _ _ hx
  have hdx' := O.ext _ _ hdx
  walk_at "zg"
  refine sList (O.ext _ _ hki) s0 (by unfold small; omega) (gi_get (by rw [S.lk]; omega)) ?_; walk_at "zz"
  walk_at "zz"
  walk_at "zg"
  refine ⟨s0, by omega, by decide, w0, by omega, by decide, ?_⟩; walk_at "zz"
  refine c_att S (G0.ext O.ext) k0 k5 p0 p1 sz ?_; walk_at "zz"
  walk_at "zz"
  walk_at "zg"; (try simp only [e0]); walk_at "zz"
  refine ⟨(by unfold small; omega), tFlatI (xs := iot (f * r)) (strongK f r T s p w) (fun i m l h => (∃ o1 o2, l = [some (.ref a.x), some (.ref tab), some (.int kind), some (.int s), some (.int p), some (.int w), some (.ref out), some (.int (gi (kingP f r) s)), some (.int (attP f r kind p (Builtin.bitOr (1 * 2 ^ s.toNat) (1 * 2 ^ w.toNat)))), o1, o2]) ∧ m.length ≤ i ∧ Own' B h [(out, .list (m.map mvV))])
    (fun _ _ _ _ _ => congrArg some (rng_up _)) ⟨⟨_, _, rfl⟩, Nat.le_refl _, O⟩ (fun i m y l H k hv hq1 k1 _ => ?_) (fun l H hq2 => ?_)⟩
  · obtain ⟨⟨o1, o2, hl⟩, hm, O⟩ := hq1
    obtain ⟨rfl, hi⟩ := iot_get hv
    subst hl
    have hx' := O.ext _ _ hx
    have hdx' := O.ext _ _ hdx
    have ho := O.get 0 rfl
    walk_at "zg"
    refine ⟨by omega, ?_⟩; walk_at "zz"
    unfold strongK at k1
    cases c1 : decide (Builtin.bitAnd ((gi (kingP f r) s).fdiv (2 ^ (i : Int).toNat)) 1 ≠ 0)
    · rw [tb_d c1, if_neg (by decide)] at k1
      walk_at "zz"
      exact k1 _ _ ⟨⟨_, _, rfl⟩, by simp; omega, by simpa using O⟩
    · rw [tb_d c1, if_pos rfl] at k1
      walk_at "zz"
      walk_at "zg"; (try simp only [e0]); walk_at "zz"
      refine c_idx (by unfold small; omega) ?_; walk_at "zz"
      obtain ⟨i0, i1, i2⟩ := idx_small (side := 1) (s := i) sz hT (by decide) (by decide) (by omega) (by omega) p0 p1 w0 w1
      generalize idx (f * r : Nat) 1 i p w = pl at i0 i1 i2 k1 ⊢
      walk_at "zz"
      walk_at "zg"
      refine sList (O.ext _ _ ht) i0 i1 i2 ?_; walk_at "zz"
      walk_at "zz"
      cases c3 : decide (gi T pl = -2)
      · rw [if_neg (of_decide_eq_false c3)] at k1
        walk_at "zz"
        walk_at "zg"
        refine ⟨by rw [List.length_map]; omega, ?_⟩; walk_at "zz"
        (try refine Bx.mk ?_); (first | refine tPut1 O 0 rfl fun H O => ?_ | refine tPutK O 0 rfl fun H O => ?_); walk_at "zz"
        exact k1 _ _ ⟨⟨_, _, rfl⟩, by simp; omega, by rw [List.map_append]; exact O⟩
      · rw [if_pos (of_decide_eq_true c3)] at k1
        walk_at "zz"
        exact k1 _ _ ⟨⟨_, _, rfl⟩, by simp; omega, by simpa using O⟩
  · obtain ⟨⟨o1, o2, hl⟩, hm1, O⟩ := hq2
    subst hl
    walk_at "zz"
    have hx' := O.ext _ _ hx
    have hdx' := O.ext _ _ hdx
    walk_at "zg"; (try simp only [e0]); walk_at "zz"
    have hM := flat_len (strongK_len f r T s p w) (iot (f * r))
    rw [iot_len] at hM hm1
    refine ⟨(by unfold small; omega), tFlatI (xs := iot (f * r)) (strongS f r T kind s p w) (fun i m l h => (∃ o1 o2, l = [some (.ref a.x), some (.ref tab), some (.int kind), some (.int s), some (.int p), some (.int w), some (.ref out), some (.int (gi (kingP f r) s)), some (.int (attP f r kind p (Builtin.bitOr (1 * 2 ^ s.toNat) (1 * 2 ^ w.toNat)))), o1, o2]) ∧ m.length ≤ i ∧ Own' B h [(out, .list (((iot (f * r)).flatMap (strongK f r T s p w) ++ m).map mvV))])
      (fun _ _ _ _ _ => congrArg some (rng_up _)) ⟨⟨_, _, rfl⟩, Nat.le_refl _, by rw [List.append_nil]; exact O⟩ (fun i m y l H k hv hq3 k1 _ => ?_) (fun l H hq4 => ?_)⟩
    · obtain ⟨⟨o1, o2, hl⟩, hm, O⟩ := hq3
      obtain ⟨rfl, hi⟩ := iot_get hv
      subst hl
      have hx' := O.ext _ _ hx
      have hdx' := O.ext _ _ hdx
      have ho := O.get 0 rfl
      walk_at "zg"
      refine ⟨by omega, ?_⟩; walk_at "zz"
      unfold strongS at k1
      cases c1 : decide (Builtin.bitAnd ((attP f r kind p (Builtin.bitOr (1 * 2 ^ s.toNat) (1 * 2 ^ w.toNat))).fdiv (2 ^ (i : Int).toNat)) 1 ≠ 0)
      · rw [tb_d c1, if_neg (by decide)] at k1
        walk_at "zz"
        exact k1 _ _ ⟨⟨_, _, rfl⟩, by simp; omega, by simpa using O⟩
      · rw [tb_d c1, if_pos rfl] at k1
        walk_at "zz"
        walk_at "zg"; (try simp only [e0]); walk_at "zz"
        refine c_idx (by unfold small; omega) ?_; walk_at "zz"
        obtain ⟨i0, i1, i2⟩ := idx_small (side := 1) (p := i) sz hT (by decide) (by decide) s0 s1 (by omega) (by omega) w0 w1
        generalize idx (f * r : Nat) 1 s i w = pl at i0 i1 i2 k1 ⊢
        walk_at "zz"
        walk_at "zg"
        refine sList (O.ext _ _ ht) i0 i1 i2 ?_; walk_at "zz"
        walk_at "zz"
        cases c3 : decide (gi T pl = -2)
        · rw [if_neg (of_decide_eq_false c3)] at k1
          walk_at "zz"
          walk_at "zg"
          refine ⟨by rw [List.length_map, List.length_append]; omega, ?_⟩; walk_at "zz"
          (try refine Bx.mk ?_); (first | refine tPut1 O 0 rfl fun H O => ?_ | refine tPutK O 0 rfl fun H O => ?_); walk_at "zz"
          exact k1 _ _ ⟨⟨_, _, rfl⟩, by simp; omega, by rw [← List.append_assoc, List.map_append]; exact O⟩
        · rw [if_pos (of_decide_eq_true c3)] at k1
          walk_at "zz"
          exact k1 _ _ ⟨⟨_, _, rfl⟩, by simp; omega, by simpa using O⟩
    · obtain ⟨⟨o1, o2, hl⟩, hm1, O⟩ := hq4
      subst hl
      walk_at "zz"
      walk_at "zg"
      exact q _ _ O
noncomputable def movesP (f r : Nat) (T : List Int) (kind side s p w : Int) : List Mv := if side = 1 then weakM f r T s p w else strongM f r T kind s p w
theorem c_moves {n : Nat} {B : HH} {x f r tab : Nat} {T : List Int} {kind side s p w : Int} {Q : V → HH → Prop} (S : ShapeOk f r) (G : GeoAt B x f r) (ht : B tab = some (.list (T.map V.int))) (hT : T.length = 2 * (f * r) * (f * r) * (f * r)) (sz : f * r < 10)
    (k0 : 2 ≤ kind) (k5 : kind ≤ 5) (s0 : 0 ≤ s) (s1 : s < (f * r : Nat)) (p0 : 0 ≤ p) (p1 : p < (f * r : Nat)) (w0 : 0 ≤ w) (w1 : w < (f * r : Nat))
    (q : ∀ H' c, Own' B H' [(c, .list ((movesP f r T kind side s p w).map mvV))] → Q (.ref c) H') : wc (n + 8) 20 [.ref x, .ref tab, .int kind, .int side, .int s, .int p, .int w] B Q := by
  refine ⟨D_moves_at, rfl, rfl, ?_⟩; walk_at "zz"
  change wpSs _ B_moves_at [some (.ref x), some (.ref tab), some (.int kind), some (.int side), some (.int s), some (.int p), some (.int w)] B _
  unfold B_moves_at
  walk_at "zg"
  unfold movesP at q
  cases c1 : decide (side = 1) <;> walk_at "zz"
  · rw [if_neg (of_decide_eq_false c1)] at q
    walk_at "zz"
    walk_at "zg"
    refine c_strong S G ht hT sz k0 k5 s0 s1 p0 p1 w0 w1 fun H' c O => ?_; walk_at "zz"
    walk_at "zz"
    exact q _ _ O
  · rw [if_pos (of_decide_eq_true c1)] at q
    walk_at "zg"
    refine c_weak S G ht hT sz s0 s1 p0 p1 w0 w1 fun H' c O => ?_; walk_at "zz"
    walk_at "zz"
    exact q _ _ O
open PySem PySem.W PyProof.Rows PySem.Calls

noncomputable def freeP (f r : Nat) (s p : Int) : Int := Builtin.bitAnd (fullP f r) (Builtin.bitNot (Builtin.bitOr (Builtin.bitOr (gi (kingP f r) s) (1 * 2 ^ s.toNat)) (1 * 2 ^ p.toNat)))
noncomputable def placeW (f r : Nat) (kind s p w : Int) : List Int :=
  if tb (freeP f r s p) w then idx (f * r : Nat) 1 s p w :: (if tb (attP f r kind p (1 * 2 ^ s.toNat)) w then [] else [idx (f * r : Nat) 0 s p w]) else []
noncomputable def placeP (f r : Nat) (kind zone s p : Int) : List Int :=
  if tb zone s && !decide (p = s) && !decide (freeP f r s p = 0) then (iot (f * r)).flatMap (placeW f r kind s p) else []
noncomputable def placeS (f r : Nat) (kind zone s : Int) : List Int := (iot (f * r)).flatMap (placeP f r kind zone s)
noncomputable def placesM (f r : Nat) (kind zone : Int) : List Int := (iot (f * r)).flatMap (placeS f r kind zone)
noncomputable def marked (T : List Int) (P : List Int) : List Int := P.foldl (fun T n => T.set n.toNat (-1)) T
theorem flat_lenN {α : Type} {F : Int → List α} {k : Nat} (h : ∀ x, (F x).length ≤ k) (l : List Int) : (l.flatMap F).length ≤ k * l.length := by
  induction l with
  | nil => simp
  | cons x l ih => rw [List.flatMap_cons, List.length_append, List.length_cons, Nat.mul_add]; have := h x; omega
theorem placeW_len (f r : Nat) (kind s p w : Int) : (placeW f r kind s p w).length ≤ 2 := by
  unfold placeW; split <;> (try split) <;> simp
theorem placeP_len (f r : Nat) (kind zone s p : Int) : (placeP f r kind zone s p).length ≤ 2 * (f * r) := by
  unfold placeP; split
  · have := flat_lenN (placeW_len f r kind s p) (iot (f * r)); rwa [iot_len] at this
  · simp
theorem placeS_len (f r : Nat) (kind zone s : Int) : (placeS f r kind zone s).length ≤ 2 * (f * r) * (f * r) := by
  have := flat_lenN (placeP_len f r kind zone s) (iot (f * r)); rwa [iot_len] at this
theorem placesM_len (f r : Nat) (kind zone : Int) : (placesM f r kind zone).length ≤ 2 * (f * r) * (f * r) * (f * r) := by
  have := flat_lenN (placeS_len f r kind zone) (iot (f * r)); rwa [iot_len] at this
theorem placesM_mem {f r : Nat} {kind zone m : Int} (h : m ∈ placesM f r kind zone) : ∃ side s p w : Int, m = idx (f * r : Nat) side s p w ∧ (side = 0 ∨ side = 1) ∧ s ∈ iot (f * r) ∧ p ∈ iot (f * r) ∧ w ∈ iot (f * r) ∧ p ≠ s ∧ tb (freeP f r s p) w = true := by
  unfold placesM at h
  obtain ⟨s, hs, h⟩ := List.mem_flatMap.mp h
  unfold placeS at h
  obtain ⟨p, hp, h⟩ := List.mem_flatMap.mp h
  unfold placeP at h
  split at h
  · rename_i hc
    simp only [Bool.and_eq_true, Bool.not_eq_true', decide_eq_false_iff_not] at hc
    obtain ⟨w, hw, h⟩ := List.mem_flatMap.mp h
    unfold placeW at h
    split at h
    · rename_i hf
      rcases List.mem_cons.mp h with rfl | h
      · exact ⟨1, s, p, w, rfl, .inr rfl, hs, hp, hw, hc.1.2, hf⟩
      · split at h
        · cases h
        · cases List.mem_singleton.mp h
          exact ⟨0, s, p, w, rfl, .inl rfl, hs, hp, hw, hc.1.2, hf⟩
    · cases h
  · cases h
theorem iot_mem_iff {n : Nat} {x : Int} : x ∈ iot n ↔ 0 ≤ x ∧ x < n := by
  unfold iot
  rw [List.mem_map]
  constructor
  · rintro ⟨m, h, rfl⟩; rw [List.mem_range] at h; omega
  · rintro ⟨h0, h1⟩; exact ⟨x.toNat, List.mem_range.mpr (by omega), by omega⟩
theorem placesM_range {f r : Nat} {kind zone m : Int} (h : m ∈ placesM f r kind zone) : 0 ≤ m ∧ m < 2 * (f * r : Nat) * (f * r : Nat) * (f * r : Nat) := by
  obtain ⟨side, s, p, w, rfl, hs, h1, h2, h3, _⟩ := placesM_mem h
  rw [iot_mem_iff] at h1 h2 h3
  exact idx_lt (by omega) (by omega) h1.1 h1.2 h2.1 h2.2 h3.1 h3.2
theorem marked_len (P : List Int) : ∀ T : List Int, (marked T P).length = T.length := by
  induction P with
  | nil => intro T; rfl
  | cons n P ih => intro T; exact (ih _).trans (List.length_set ..)
theorem c_mark {n : Nat} {B H : HH} {x f r tab : Nat} {T : List Int} {kind zone : Int} {Q : V → HH → Prop} (S : ShapeOk f r) (G : GeoAt B x f r) (O : Own' B H [(tab, .list (T.map V.int))]) (hT : T.length = 2 * (f * r) * (f * r) * (f * r)) (sz : f * r < 10)
    (k0 : 2 ≤ kind) (k5 : kind ≤ 5)
    (q : ∀ H' c, Own' B H' [(c, .list ((placesM f r kind zone).map V.int)), (tab, .list ((marked T (placesM f r kind zone)).map V.int))] → Q (.ref c) H') : wc (n + 7) 17 [.ref x, .int kind, .int zone, .ref tab] H Q := by
  refine ⟨D_mark_places, rfl, rfl, ?_⟩; walk_at "zz"
  change wpSs _ B_mark_places [some (.ref x), some (.int kind), some (.int zone), some (.ref tab), none, none, none, none, none, none, none, none] H _
  unfold B_mark_places
  have e0 : (f : Int) * r = ((f * r : Nat) : Int) := (Int.natCast_mul _ _).symm
  have G0 := G
  obtain ⟨a, c, ra, rfl, hx, hdx, hki, _, _, _⟩ := G
  have szl' : (2000 : Nat) ≤ szl := by decide
  have n3 : 2 * (f * r) * (f * r) * (f * r) ≤ 2 * 9 * 9 * 9 := Nat.mul_le_mul (Nat.mul_le_mul (Nat.mul_le_mul (Nat.le_refl _) (by omega)) (by omega)) (by omega)
  have hx' := O.ext _ _ hx
  have hdx' := O.ext _ _ hdx
  walk_at "zg"; (try simp only [e0]); walk_at "zz"
  walk_at "zg"
  intro out h_out; replace O := O.alloc (o := .list []) h_out; revert O; generalize HH.set _ out _ = H; intro O; walk_at "zz"
  walk_at "zg"
  refine ⟨(by unfold small; omega), tFlatI (xs := iot (f * r)) (placeS f r kind zone) (fun i m l h => (∃ o1 o2 o3 o4 o5 o6, l = [some (.ref a.x), some (.int kind), some (.int zone), some (.ref tab), some (.int (f * r : Nat)), some (.ref out), o1, o2, o3, o4, o5, o6]) ∧ m.length ≤ 2 * (f * r) * (f * r) * i ∧ Own' B h [(out, .list (m.map V.int)), (tab, .list (T.map V.int))])
    (fun _ _ _ _ _ => congrArg some (rng_up _)) ⟨⟨_, _, _, _, _, _, rfl⟩, Nat.le_refl _, O⟩ (fun i m y l H k hv hq1 k1 _ => ?_) (fun l H hq2 => ?_)⟩
  · obtain ⟨⟨o1, o2, o3, o4, o5, o6, hl⟩, hm, O⟩ := hq1
    obtain ⟨rfl, hi⟩ := iot_get hv
    subst hl
    walk_at "zz"
    have hmi : 2 * (f * r) * (f * r) * (i + 1) ≤ 2 * (f * r) * (f * r) * (f * r) := Nat.mul_le_mul_left _ hi
    rw [Nat.mul_add] at hmi
    walk_at "zg"
    refine ⟨(by unfold small; omega), tFlatI (xs := iot (f * r)) (placeP f r kind zone i) (fun j m2 l h => (∃ o2 o3 o4 o5 o6, l = [some (.ref a.x), some (.int kind), some (.int zone), some (.ref tab), some (.int (f * r : Nat)), some (.ref out), some (.int i), o2, o3, o4, o5, o6]) ∧ m2.length ≤ 2 * (f * r) * j ∧ Own' B h [(out, .list ((m ++ m2).map V.int)), (tab, .list (T.map V.int))])
      (fun _ _ _ _ _ => congrArg some (rng_up _)) ⟨⟨_, _, _, _, _, rfl⟩, Nat.le_refl _, by rw [List.append_nil]; exact O⟩ (fun j m2 y l H k hv hq3 k1 k2 => ?_) (fun l H hq4 => ?_)⟩
    · obtain ⟨⟨o2, o3, o4, o5, o6, hl⟩, hm2, O⟩ := hq3
      obtain ⟨rfl, hj⟩ := iot_get hv
      subst hl
      walk_at "zz"
      have hmj : 2 * (f * r) * (j + 1) ≤ 2 * (f * r) * (f * r) := Nat.mul_le_mul_left _ hj
      rw [Nat.mul_add] at hmj
      have hx' := O.ext _ _ hx
      have hdx' := O.ext _ _ hdx
      walk_at "zg"
      refine sList (O.ext _ _ hki) (by omega) (by unfold small; omega) (gi_get (by rw [S.lk]; omega)) ?_; walk_at "zz"
      walk_at "zz"
      refine ⟨by omega, by omega, by decide, by omega, by omega, by decide, ?_⟩; walk_at "zz"
      walk_at "zg"
      refine ⟨by omega, ?_⟩; walk_at "zz"
      have hfr : Builtin.bitAnd (1 * 2 ^ ((f : Int) * r).toNat - 1) (Builtin.bitNot (Builtin.bitOr (Builtin.bitOr (gi (kingP f r) i) (1 * 2 ^ (i : Int).toNat)) (1 * 2 ^ (j : Int).toNat))) = freeP f r i j := rfl
      rw [hfr]
      have skip : placeP f r kind zone i j = [] → k .cont [some (.ref a.x), some (.int kind), some (.int zone), some (.ref tab), some (.int (f * r : Nat)), some (.ref out), some (.int i), some (.int j), some (.int (freeP f r i j)), o4, o5, o6] H := by
        intro he
        refine k2 _ _ ⟨⟨_, _, _, _, _, rfl⟩, ?_, ?_⟩ <;> rw [he, List.append_nil]
        · rw [Nat.mul_add]; omega
        · exact O
      cases c1 : decide (Builtin.bitAnd (zone.fdiv (2 ^ (i : Int).toNat)) 1 = 0) <;> walk_at "zz"
      · cases c2 : decide ((j : Int) = i) <;> walk_at "zz"
        · cases c3 : decide (freeP f r i j = 0) <;> walk_at "zz"
          · have hPe : placeP f r kind zone i j = (iot (f * r)).flatMap (placeW f r kind i j) := by unfold placeP; rw [tb_t c1, c2, c3]; rfl
            rw [hPe] at k1
            walk_at "zz"
            walk_at "zg"
            refine ⟨by omega, by omega, by decide, ?_⟩; walk_at "zz"
            refine c_att S (G0.ext O.ext) k0 k5 (by omega) (by omega) sz ?_; walk_at "zz"
            walk_at "zz"
            walk_at "zg"
            refine ⟨(by unfold small; omega), tFlatI (xs := iot (f * r)) (placeW f r kind i j) (fun t m3 l h => (∃ o6 o7, l = [some (.ref a.x), some (.int kind), some (.int zone), some (.ref tab), some (.int (f * r : Nat)), some (.ref out), some (.int i), some (.int j), some (.int (freeP f r i j)), some (.int (attP f r kind j (1 * 2 ^ (i : Int).toNat))), o6, o7]) ∧ m3.length ≤ 2 * t ∧ Own' B h [(out, .list ((m ++ m2 ++ m3).map V.int)), (tab, .list (T.map V.int))])
              (fun _ _ _ _ _ => congrArg some (rng_up _)) ⟨⟨_, _, rfl⟩, Nat.le_refl _, by rw [List.append_nil]; exact O⟩ (fun t m3 y l H k hv hq5 k1 _ => ?_) (fun l H hq6 => ?_)⟩
            · obtain ⟨⟨o6, o7, hl⟩, hm3, O⟩ := hq5
              obtain ⟨rfl, ht⟩ := iot_get hv
              subst hl
              walk_at "zz"
              have ho := O.get 0 rfl
              unfold placeW at k1
              walk_at "zg"
              refine ⟨by omega, ?_⟩; walk_at "zz"
              cases c4 : decide (Builtin.bitAnd ((freeP f r i j).fdiv (2 ^ (t : Int).toNat)) 1 ≠ 0) <;> walk_at "zz"
              · rw [tb_d c4, if_neg (by decide)] at k1
                exact k1 _ _ ⟨⟨_, _, rfl⟩, by simp; omega, by simpa using O⟩
              · rw [tb_d c4, if_pos rfl] at k1
                walk_at "zg"
                refine c_idx (by unfold small; omega) ?_; walk_at "zz"
                walk_at "zz"
                refine ⟨by simp only [List.length_map, List.length_append]; omega, ?_⟩; walk_at "zz"
                (try refine Bx.mk ?_); (first | refine tPut1 O 0 rfl fun H O => ?_ | refine tPutK O 0 rfl fun H O => ?_); walk_at "zz"
                have ho := O.get 0 rfl
                walk_at "zg"
                refine ⟨by omega, ?_⟩; walk_at "zz"
                cases c5 : decide (Builtin.bitAnd ((attP f r kind j (1 * 2 ^ (i : Int).toNat)).fdiv (2 ^ (t : Int).toNat)) 1 = 0) <;> walk_at "zz"
                · rw [tb_t c5, if_pos rfl] at k1
                  exact k1 _ _ ⟨⟨_, _, rfl⟩, by simp; omega, by simpa using O⟩
                · rw [tb_f c5, if_neg (by decide)] at k1
                  walk_at "zg"
                  refine c_idx (by unfold small; omega) ?_; walk_at "zz"
                  walk_at "zz"
                  refine ⟨by simp only [List.length_map, List.length_append, List.length_cons, List.length_nil]; omega, ?_⟩; walk_at "zz"
                  (try refine Bx.mk ?_); (first | refine tPut1 O 0 rfl fun H O => ?_ | refine tPutK O 0 rfl fun H O => ?_); walk_at "zz"
                  exact k1 _ _ ⟨⟨_, _, rfl⟩, by simp; omega, by simpa using O⟩
            · obtain ⟨⟨o6, o7, hl⟩, hm3, O⟩ := hq6
              subst hl
              walk_at "zz"
              rw [iot_len] at hm3
              have hP := placeP_len f r kind zone i j
              refine k1 _ _ ⟨⟨_, _, _, _, _, rfl⟩, ?_, by rw [← List.append_assoc]; exact O⟩
              have := flat_lenN (placeW_len f r kind i j) (iot (f * r))
              rw [iot_len] at this
              rw [List.length_append, Nat.mul_add]; omega
          · walk_at "zg"
            exact skip (by unfold placeP; rw [tb_t c1, c2, c3]; rfl)
        · walk_at "zg"
          exact skip (by unfold placeP; rw [tb_t c1, c2]; rfl)
      · walk_at "zg"
        exact skip (by unfold placeP; rw [tb_f c1]; rfl)
    · obtain ⟨⟨o2, o3, o4, o5, o6, hl⟩, hm2, O⟩ := hq4
      subst hl
      walk_at "zz"
      refine k1 _ _ ⟨⟨_, _, _, _, _, _, rfl⟩, ?_, O⟩
      have := placeS_len f r kind zone i
      rw [List.length_append, Nat.mul_add]
      unfold placeS at this
      unfold placeS
      omega
  · obtain ⟨⟨o1, o2, o3, o4, o5, o6, hl⟩, hm1, O⟩ := hq2
    subst hl
    walk_at "zz"
    walk_at "zz"
    walk_at "zg"
    have hp := placesM_len f r kind zone
    refine tFoldI (xs := placesM f r kind zone) (fun T n => T.set n.toNat (-1)) T (fun i t l h => (∃ o1 o2 o3 o4 o5 o6, l = [some (.ref a.x), some (.int kind), some (.int zone), some (.ref tab), some (.int (f * r : Nat)), some (.ref out), o1, o2, o3, o4, o5, o6]) ∧ t.length = T.length ∧ Own' B h [(out, .list ((placesM f r kind zone).map V.int)), (tab, .list (t.map V.int))])
      (fun i s l h ⟨_, _, O⟩ => by have := O.get 0 rfl; unfold items; simp only [this]) ⟨⟨_, _, _, _, _, _, rfl⟩, rfl, O⟩ (fun i t m l H k hv hq7 k1 _ => ?_) (fun l H hq8 => ?_)
    · obtain ⟨⟨o1, o2, o3, o4, o5, o6, hl⟩, ht, O⟩ := hq7
      subst hl
      walk_at "zz"
      have hr := placesM_range (List.mem_of_getElem? hv)
      have e3 : (T.length : Int) = 2 * (f * r : Nat) * (f * r : Nat) * (f * r : Nat) := by rw [hT]; simp
      have n3' : (2 * (f * r : Nat) * (f * r : Nat) * (f * r : Nat) : Int) ≤ 2 * 9 * 9 * 9 := by
        have : ((2 * (f * r) * (f * r) * (f * r) : Nat) : Int) ≤ ((2 * 9 * 9 * 9 : Nat) : Int) := Int.ofNat_le.mpr n3
        simpa using this
      walk_at "zg"
      refine tWI (O.get 1 rfl) ?_; walk_at "zz"
      refine ⟨by omega, by rw [List.length_map]; omega, (by unfold small; omega), ?_⟩; walk_at "zz"
      (try refine Bx.mk ?_); (first | refine tPut1 O 1 rfl fun H O => ?_ | refine tPutK O 1 rfl fun H O => ?_); walk_at "zz"
      rw [← List.map_set] at O
      exact k1 _ _ ⟨⟨_, _, _, _, _, _, rfl⟩, by rw [List.length_set]; exact ht, O⟩
    · obtain ⟨⟨o1, o2, o3, o4, o5, o6, hl⟩, ht, O⟩ := hq8
      subst hl
      walk_at "zz"
      walk_at "zz"
      walk_at "zg"
      exact q _ _ O
open PySem PySem.W PyProof.Rows PySem.Calls

theorem gi_set {l : List Int} {n k x : Int} (n0 : 0 ≤ n) (n1 : n < l.length) (k0 : 0 ≤ k) : gi (l.set n.toNat x) k = if k = n then x else gi l k := by
  unfold gi
  rw [List.getD_eq_getElem?_getD, List.getD_eq_getElem?_getD, List.getElem?_set]
  by_cases h : k = n
  · subst h
    rw [if_pos rfl, if_pos rfl, if_pos (by omega)]; rfl
  · rw [if_neg h, if_neg (by omega)]
/-- an edge that is still open -/
noncomputable def opn (T : List Int) (e : Int) : Bool := decide (e = -1 ∨ e ∉ T)
theorem cnt_split {T : List Int} {m : Int} (h1 : m ≠ -1) (h2 : m ∉ T) (l : List Int) : l.countP (opn T) = l.countP (opn (T ++ [m])) + l.count m := by
  induction l with
  | nil => rfl
  | cons x l ih =>
    rw [List.countP_cons, List.countP_cons, List.count_cons, ih]
    by_cases hx : x = m
    · subst hx
      have a1 : opn T x = true := decide_eq_true (.inr h2)
      have a2 : opn (T ++ [x]) x = false := decide_eq_false (by simp [h1])
      rw [a1, a2]; simp; omega
    · have a1 : opn (T ++ [m]) x = opn T x := by unfold opn; simp [hx]
      rw [a1]; simp [hx]; omega
section
variable (N : Nat) (R Bf : Int → List Int) (sd : List Int)
/-- what the search holds: a of the queue are done; of the next one, m, the rows in dn -/
structure Bfs (a : Nat) (dn : List Int) (vals left queue : List Int) : Prop where
  lv : vals.length = N
  ll : left.length = N
  qn : queue.Nodup
  qr : ∀ x ∈ queue, 0 ≤ x ∧ x < N
  ql : queue.length = vals.countP (fun v => decide (0 ≤ v))
  qv : ∀ n : Int, 0 ≤ n → n < N → (gi vals n = -1 ∧ n ∉ queue) ∨ (0 ≤ gi vals n ∧ n ∈ queue)
  mono : ∀ (i j : Nat) (x y : Int), i ≤ j → queue[i]? = some x → queue[j]? = some y → gi vals x ≤ gi vals y
  near : ∀ (i j : Nat) (x y : Int), a ≤ i → queue[i]? = some x → queue[j]? = some y → gi vals y ≤ gi vals x + 1
  idx : ∀ (j : Nat) (y : Int), queue[j]? = some y → gi vals y ≤ j
  lf : ∀ n : Int, 0 ≤ n → n < N → gi left n = ((R n).countP (opn (queue.take a)) : Int) - (dn.count n : Int)
  str : ∀ n : Int, 0 ≤ n → n < N → gi sd n = 0 → gi vals n = -1 → n ∉ dn ∧ ∀ e ∈ R n, e ∉ queue.take a
  vs : ∀ n : Int, 0 ≤ n → n < N → 0 < gi vals n → gi sd n = 0 → (∃ e ∈ R n, e ∈ queue ∧ gi vals e = gi vals n - 1) ∧ ∀ e ∈ R n, e ∈ queue → gi vals n - 1 ≤ gi vals e
  vw : ∀ n : Int, 0 ≤ n → n < N → 0 < gi vals n → gi sd n ≠ 0 → (∃ e ∈ R n, e ∈ queue ∧ gi vals e = gi vals n - 1) ∧ ∀ e ∈ R n, e ∈ queue ∧ gi vals e ≤ gi vals n - 1
variable {N R Bf sd}
theorem Bfs.fin {a : Nat} {m : Int} {vals left queue : List Int} (I : Bfs N R sd a (Bf m) vals left queue) (hm : queue[a]? = some m) (hc : ∀ n : Int, 0 ≤ n → n < N → (Bf m).count n = (R n).count m) : Bfs N R sd (a + 1) [] vals left queue := by
  have hmq := List.mem_of_getElem? hm
  have hm0 := I.qr m hmq
  have ht : queue.take (a + 1) = queue.take a ++ [m] := by rw [List.take_add_one, hm]; rfl
  have hmt : m ∉ queue.take a := by
    intro h
    obtain ⟨i, hi⟩ := List.mem_iff_getElem?.mp h
    rw [List.getElem?_take] at hi
    split at hi
    · have ha : a < queue.length := (List.getElem?_eq_some_iff.mp hm).1
      have := (List.getElem?_inj (by omega) I.qn).mp (hi.trans hm.symm)
      omega
    · cases hi
  refine ⟨I.lv, I.ll, I.qn, I.qr, I.ql, I.qv, I.mono, fun i j x y h => I.near i j x y (by omega), I.idx, fun n n0 n1 => ?_, fun n n0 n1 s v => ?_, I.vs, I.vw⟩
  · rw [I.lf n n0 n1, hc n n0 n1, ht, cnt_split (by omega) hmt]; simp
  · obtain ⟨h1, h2⟩ := I.str n n0 n1 s v
    refine ⟨by simp, fun e he => ?_⟩; walk_at "zz"
    rw [ht, List.mem_append, List.mem_singleton, not_or]
    refine ⟨h2 e he, fun q => ?_⟩; walk_at "zz"
    subst q
    have : 0 < (R n).count e := List.count_pos_iff.mpr he
    rw [← hc n n0 n1] at this
    exact h1 (List.count_pos_iff.mp this)
/-- one row of m's, with no new value -/
theorem Bfs.pass {a : Nat} {m n : Int} {dn vals left queue : List Int} (I : Bfs N R sd a dn vals left queue) (n0 : 0 ≤ n) (n1 : n < N)
    (c : ¬ (gi vals n = -1 ∧ (gi sd n = 0 ∨ gi left n - 1 = 0))) : Bfs N R sd a (dn ++ [n]) vals (left.set n.toNat (gi left n - 1)) queue := by
  refine ⟨I.lv, by rw [List.length_set]; exact I.ll, I.qn, I.qr, I.ql, I.qv, I.mono, I.near, I.idx, fun k k0 k1 => ?_, fun k k0 k1 s v => ?_, I.vs, I.vw⟩
  · rw [gi_set n0 (by rw [I.ll]; exact n1) k0, List.count_append, List.count_singleton]
    by_cases h : k = n
    · subst h
      rw [if_pos rfl, I.lf k k0 k1]; simp; omega
    · rw [if_neg h, I.lf k k0 k1, show (n == k) = false from beq_eq_false_iff_ne.mpr fun e => h e.symm]; simp
  · obtain ⟨h1, h2⟩ := I.str k k0 k1 s v
    refine ⟨fun h => ?_, h2⟩
    rcases List.mem_append.mp h with h | h
    · exact h1 h
    · cases List.mem_singleton.mp h
      exact c ⟨v, .inl s⟩
/-- one row of m's, with its value -/
theorem Bfs.put {a : Nat} {m n : Int} {dn vals left queue : List Int} (I : Bfs N R sd a dn vals left queue) (n0 : 0 ≤ n) (n1 : n < N) (hm : queue[a]? = some m)
    (hR : ∀ k : Int, 0 ≤ k → k < N → ∀ e ∈ R k, e = -1 ∨ (0 ≤ e ∧ e < N))
    (hc : ((dn ++ [n]).count n : Int) ≤ (R n).count m) (c1 : gi vals n = -1) (c2 : gi sd n = 0 ∨ gi left n - 1 = 0) : Bfs N R sd a (dn ++ [n]) (vals.set n.toNat (gi vals m + 1)) (left.set n.toNat (gi left n - 1)) (queue ++ [n]) := by
  have hmq := List.mem_of_getElem? hm
  have hm0 := I.qr m hmq
  have ha : a < queue.length := (List.getElem?_eq_some_iff.mp hm).1
  have hnq : n ∉ queue := by
    rcases I.qv n n0 n1 with h | h
    · exact h.2
    · omega
  have hvm : 0 ≤ gi vals m := by
    rcases I.qv m hm0.1 hm0.2 with h | h
    · exact absurd hmq h.2
    · exact h.1
  have hmn : m ≠ n := fun q => hnq (q ▸ hmq)
  have ht : queue.take (a + 1) = queue.take a ++ [m] := by rw [List.take_add_one, hm]; rfl
  have hmt : m ∉ queue.take a := by
    intro h
    obtain ⟨i, hi⟩ := List.mem_iff_getElem?.mp h
    rw [List.getElem?_take] at hi
    split at hi
    · have := (List.getElem?_inj (by omega) I.qn).mp (hi.trans hm.symm)
      omega
    · cases hi
  have hta : (queue ++ [n]).take a = queue.take a := List.take_append_of_le_length (Nat.le_of_lt ha)
  have gv : ∀ k : Int, 0 ≤ k → gi (vals.set n.toNat (gi vals m + 1)) k = if k = n then gi vals m + 1 else gi vals k := fun k k0 => gi_set n0 (by rw [I.lv]; exact n1) k0
  have gq : ∀ k, k ∈ queue → gi (vals.set n.toNat (gi vals m + 1)) k = gi vals k := fun k hk => by
    rw [gv k (I.qr k hk).1, if_neg fun (q : k = n) => hnq (q ▸ hk)]
  have gn : gi (vals.set n.toNat (gi vals m + 1)) n = gi vals m + 1 := by rw [gv n n0, if_pos rfl]
  have hpos : 0 < (R n).count m := by
    rw [List.count_append, List.count_singleton, if_pos (by simp)] at hc; omega
  have hmR : m ∈ R n := List.count_pos_iff.mp hpos
  have qget : ∀ (j : Nat) (y : Int), (queue ++ [n])[j]? = some y → queue[j]? = some y ∨ (j = queue.length ∧ y = n) := fun j y h => by
    rw [List.getElem?_append] at h
    split at h
    · exact .inl h
    · rcases Nat.eq_zero_or_pos (j - queue.length) with z | z
      · rw [z] at h; cases h; exact .inr ⟨by omega, rfl⟩
      · rw [List.getElem?_eq_none (by simp; omega)] at h; cases h
  have hall : ∀ e ∈ queue, gi vals e ≤ gi vals m + 1 := fun e he => by
    obtain ⟨j, hj⟩ := List.mem_iff_getElem?.mp he
    exact I.near a j m e (Nat.le_refl _) hm hj
  refine ⟨by rw [List.length_set]; exact I.lv, by rw [List.length_set]; exact I.ll, ?_, ?_, ?_, ?_, ?_, ?_, ?_, ?_, ?_, ?_, ?_⟩; walk_at "zz"
  · rw [List.nodup_append]
    exact ⟨I.qn, by simp, fun x hx y hy => by cases List.mem_singleton.mp hy; exact fun q => hnq (q ▸ hx)⟩
  · intro x hx
    rcases List.mem_append.mp hx with h | h
    · exact I.qr x h
    · cases List.mem_singleton.mp h; exact ⟨n0, n1⟩
  · have hln : n.toNat < vals.length := by rw [I.lv]; omega
    have hgn : vals[n.toNat] = -1 := by
      rw [← c1]; unfold gi; rw [List.getD_eq_getElem?_getD, List.getElem?_eq_getElem hln]; rfl
    rw [List.countP_set hln, hgn, ← I.ql, List.length_append]
    simp; omega
  · intro k k0 k1
    rw [gv k k0]
    by_cases h : k = n
    · subst h; rw [if_pos rfl]; exact .inr ⟨by omega, by simp⟩
    · rw [if_neg h]
      rcases I.qv k k0 k1 with z | z
      · exact .inl ⟨z.1, by simp [z.2, h]⟩
      · exact .inr ⟨z.1, by simp [z.2]⟩
  · intro i j x y hij hx hy
    rcases qget i x hx with hx' | ⟨hi, rfl⟩
    · rw [gq x (List.mem_of_getElem? hx')]
      rcases qget j y hy with hy' | ⟨hj, rfl⟩
      · rw [gq y (List.mem_of_getElem? hy')]; exact I.mono i j x y hij hx' hy'
      · rw [gn]; exact hall x (List.mem_of_getElem? hx')
    · rcases qget j y hy with hy' | ⟨hj, rfl⟩
      · have := (List.getElem?_eq_some_iff.mp hy').1; omega
      · exact Int.le_refl _
  · intro i j x y hai hx hy
    have hx2 : gi vals m ≤ gi (vals.set n.toNat (gi vals m + 1)) x := by
      rcases qget i x hx with hx' | ⟨hi, rfl⟩
      · rw [gq x (List.mem_of_getElem? hx')]; exact I.mono a i m x hai hm hx'
      · rw [gn]; omega
    rcases qget j y hy with hy' | ⟨hj, rfl⟩
    · rw [gq y (List.mem_of_getElem? hy')]; have := hall y (List.mem_of_getElem? hy'); omega
    · rw [gn]; omega
  · intro j y hy
    rcases qget j y hy with hy' | ⟨hj, rfl⟩
    · rw [gq y (List.mem_of_getElem? hy')]; exact I.idx j y hy'
    · rw [gn]; have := I.idx a m hm; omega
  · intro k k0 k1
    rw [gi_set n0 (by rw [I.ll]; exact n1) k0, List.count_append, List.count_singleton, hta]
    by_cases h : k = n
    · subst h
      rw [if_pos rfl, I.lf k k0 k1]; simp; omega
    · rw [if_neg h, I.lf k k0 k1, show (n == k) = false from beq_eq_false_iff_ne.mpr fun e => h e.symm]; simp
  · intro k k0 k1 s v
    rw [gv k k0] at v
    by_cases h : k = n
    · rw [if_pos h] at v; omega
    · rw [if_neg h] at v
      obtain ⟨h1, h2⟩ := I.str k k0 k1 s v
      rw [hta]
      exact ⟨by simp [h1, h], h2⟩
  · intro k k0 k1 v s
    rw [gv k k0] at v ⊢
    by_cases h : k = n
    · rw [if_pos h]
      subst h
      refine ⟨⟨m, hmR, by simp [hmq], by rw [gq m hmq]; omega⟩, fun e he heq => ?_⟩; walk_at "zz"
      rcases List.mem_append.mp heq with z | z
      · rw [gq e z]
        obtain ⟨j, hj⟩ := List.mem_iff_getElem?.mp z
        have h2 := (I.str k k0 k1 s c1).2 e he
        have hja : a ≤ j := Nat.le_of_not_lt fun q => h2 (List.mem_iff_getElem?.mpr ⟨j, by rw [List.getElem?_take, if_pos q]; exact hj⟩)
        have := I.mono a j m e hja hm hj
        omega
      · cases List.mem_singleton.mp z
        rw [gn]; omega
    · rw [if_neg h] at v ⊢
      obtain ⟨⟨e, h1, h2, h3⟩, h4⟩ := I.vs k k0 k1 v s
      refine ⟨⟨e, h1, by simp [h2], by rw [gq e h2]; exact h3⟩, fun e he heq => ?_⟩; walk_at "zz"
      rcases List.mem_append.mp heq with z | z
      · rw [gq e z]; exact h4 e he z
      · cases List.mem_singleton.mp z
        rw [gn]
        rcases I.qv k k0 k1 with z | z
        · omega
        · have := hall k z.2; omega
  · intro k k0 k1 v s
    rw [gv k k0] at v ⊢
    by_cases h : k = n
    · rw [if_pos h]
      subst h
      refine ⟨⟨m, hmR, by simp [hmq], by rw [gq m hmq]; omega⟩, fun e he => ?_⟩; walk_at "zz"
      have h0 : gi left k - 1 = 0 := c2.resolve_left s
      rw [I.lf k k0 k1, cnt_split (by omega) hmt] at h0
      rw [List.count_append, List.count_singleton, if_pos (by simp)] at hc
      have h3 : (R k).countP (opn (queue.take a ++ [m])) = 0 := by omega
      have h4 := List.countP_eq_zero.mp h3 e he
      have h5 : e ∈ queue.take a ++ [m] := by
        unfold opn at h4
        simp only [decide_eq_true_eq, not_or, Classical.not_not] at h4
        exact h4.2
      rw [← ht] at h5
      obtain ⟨j, hj⟩ := List.mem_iff_getElem?.mp h5
      rw [List.getElem?_take] at hj
      split at hj
      · have h6 := List.mem_of_getElem? hj
        have := I.mono j a e m (by omega) hj hm
        exact ⟨by simp [h6], by rw [gq e h6]; omega⟩
      · cases hj
    · rw [if_neg h] at v ⊢
      obtain ⟨⟨e, h1, h2, h3⟩, h4⟩ := I.vw k k0 k1 v s
      refine ⟨⟨e, h1, by simp [h2], by rw [gq e h2]; exact h3⟩, fun e he => ?_⟩; walk_at "zz"
      obtain ⟨z1, z2⟩ := h4 e he
      exact ⟨by simp [z1], by rw [gq e z1]; exact z2⟩
end
open PySem PySem.W PyProof.Rows PySem.Calls

noncomputable def bg (l : List (List Int)) (i : Int) : List Int := l.getD i.toNat []
theorem bg_set {l : List (List Int)} {n k : Int} {x : List Int} (n0 : 0 ≤ n) (n1 : n < l.length) (k0 : 0 ≤ k) : bg (l.set n.toNat x) k = if k = n then x else bg l k := by
  unfold bg
  rw [List.getD_eq_getElem?_getD, List.getD_eq_getElem?_getD, List.getElem?_set]
  by_cases h : k = n
  · subst h
    rw [if_pos rfl, if_pos rfl, if_pos (by omega)]; rfl
  · rw [if_neg h, if_neg (by omega)]
/-- the rows behind, when the rows of all n below i and j edges of row i are laid -/
structure Bef (N : Nat) (R : Int → List Int) (i j : Nat) (befs : List (List Int)) : Prop where
  lb : befs.length = N
  cnt : ∀ m n : Int, 0 ≤ m → m < N → 0 ≤ n → (bg befs m).count n = if n < i then (R n).count m else if n = i then ((R n).take j).count m else 0
  br : ∀ m : Int, 0 ≤ m → m < N → ∀ x ∈ bg befs m, 0 ≤ x ∧ x ≤ i
  bl : ∀ m : Int, 0 ≤ m → m < N → (bg befs m).length ≤ 100 * i + j
theorem Bef.start (N : Nat) (R : Int → List Int) : Bef N R 0 0 (List.replicate N []) := by
  have h : ∀ m : Int, 0 ≤ m → m < N → bg (List.replicate N []) m = [] := fun m m0 m1 => by
    unfold bg; rw [List.getD_eq_getElem?_getD, List.getElem?_replicate]; split <;> rfl
  refine ⟨by simp, fun m n m0 m1 n0 => ?_, fun m m0 m1 x hx => ?_, fun m m0 m1 => ?_⟩; walk_at "zz"
  · rw [h m m0 m1, if_neg (by omega)]; split <;> simp
  · rw [h m m0 m1] at hx; cases hx
  · rw [h m m0 m1]; simp
theorem Bef.out {N : Nat} {R : Int → List Int} {i j : Nat} {befs : List (List Int)} (I : Bef N R i j befs) (e : (R i)[j]? = some (-1)) : Bef N R i (j + 1) befs := by
  refine ⟨I.lb, fun m n m0 m1 n0 => ?_, I.br, fun m m0 m1 => Nat.le_succ_of_le (I.bl m m0 m1)⟩
  rw [I.cnt m n m0 m1 n0]
  split
  · rfl
  · split
    · rename_i h; subst h
      rw [List.take_add_one, e, List.count_append]
      have : m ≠ -1 := by omega
      simp [List.count_singleton, this, Eq.comm]
    · rfl
theorem Bef.put {N : Nat} {R : Int → List Int} {i j : Nat} {befs : List (List Int)} {e : Int} (I : Bef N R i j befs) (h : (R i)[j]? = some e) (e0 : 0 ≤ e) (e1 : e < N) : Bef N R i (j + 1) (befs.set e.toNat (bg befs e ++ [(i : Int)])) := by
  have hs : ∀ m : Int, 0 ≤ m → bg (befs.set e.toNat (bg befs e ++ [(i : Int)])) m = if m = e then bg befs e ++ [(i : Int)] else bg befs m := fun m m0 => bg_set e0 (by rw [I.lb]; exact e1) m0
  refine ⟨by rw [List.length_set]; exact I.lb, fun m n m0 m1 n0 => ?_, fun m m0 m1 x hx => ?_, fun m m0 m1 => ?_⟩; walk_at "zz"
  · rw [hs m m0]
    by_cases hm : m = e
    · subst hm
      rw [if_pos rfl, List.count_append, I.cnt m n m0 m1 n0]
      by_cases hn : n = i
      · subst hn
        rw [if_neg (by omega), if_pos rfl, List.take_add_one, h, List.count_append]; simp [List.count_singleton]
      · have : ((i : Int) == n) = false := beq_eq_false_iff_ne.mpr fun q => hn q.symm
        simp [List.count_singleton, this, hn]
    · rw [if_neg hm, I.cnt m n m0 m1 n0]
      split
      · rfl
      · split
        · rename_i hn; subst hn
          have : (e == m) = false := beq_eq_false_iff_ne.mpr fun q => hm q.symm
          rw [List.take_add_one, h, List.count_append]; simp [List.count_singleton, this]
        · rfl
  · rw [hs m m0] at hx
    split at hx
    · rcases List.mem_append.mp hx with z | z
      · exact I.br e e0 e1 x z
      · cases List.mem_singleton.mp z; omega
    · exact I.br m m0 m1 x hx
  · rw [hs m m0]
    split
    · have := I.bl e e0 e1; simp; omega
    · have := I.bl m m0 m1; omega
theorem Bef.next {N : Nat} {R : Int → List Int} {i j : Nat} {befs : List (List Int)} (I : Bef N R i j befs) (h : (R i).length = j) (hj : j ≤ 100) : Bef N R (i + 1) 0 befs := by
  refine ⟨I.lb, fun m n m0 m1 n0 => ?_, fun m m0 m1 x hx => ?_, fun m m0 m1 => ?_⟩; walk_at "zz"
  · rw [I.cnt m n m0 m1 n0]
    by_cases hn : n = i
    · subst hn
      rw [if_neg (by omega), if_pos rfl, if_pos (by omega), ← h, List.take_length]
    · by_cases h2 : n < i
      · rw [if_pos h2, if_pos (by omega)]
      · rw [if_neg h2, if_neg hn, if_neg (by omega)]; split <;> simp
  · have := I.br m m0 m1 x hx; omega
  · have := I.bl m m0 m1; omega
theorem gi_map {N : Nat} {g : Int → Int} {k : Int} (k0 : 0 ≤ k) (k1 : k < N) : gi ((iot N).map g) k = g k := by
  unfold gi iot
  rw [List.map_map, List.getD_eq_getElem?_getD, List.getElem?_map, List.getElem?_range (by omega)]
  show g ((k.toNat : Nat) : Int) = g k
  rw [Int.toNat_of_nonneg k0]
theorem iot_nodup (N : Nat) : (iot N).Nodup := by
  unfold iot
  exact List.Pairwise.map _ (fun a b (h : a ≠ b) => by omega) List.nodup_range
/-- the start of the search -/
theorem Bfs.start {N : Nat} {R : Int → List Int} {sd left : List Int} (L : Int → Bool) (hl : left.length = N) (hlf : ∀ n : Int, 0 ≤ n → n < N → gi left n = (R n).length) :
    Bfs N R sd 0 [] ((iot N).map fun n => if L n then 0 else -1) left ((iot N).filter L) := by
  have hq : ∀ x ∈ (iot N).filter L, 0 ≤ x ∧ x < N := fun x hx => iot_mem_iff.mp (List.mem_filter.mp hx).1
  have hv : ∀ x ∈ (iot N).filter L, gi ((iot N).map fun n => if L n then 0 else -1) x = 0 := fun x hx => by
    rw [gi_map (hq x hx).1 (hq x hx).2, if_pos (List.mem_filter.mp hx).2]
  have h1 : ∀ (n : Int), 0 ≤ n → n < N → ¬ 0 < gi ((iot N).map fun n => if L n then 0 else -1) n := fun n n0 n1 => by
    rw [gi_map n0 n1]; split <;> omega
  refine ⟨by rw [List.length_map, iot_len], hl, (iot_nodup N).filter _, hq, ?_, fun n n0 n1 => ?_, fun i j x y _ hx hy => ?_, fun i j x y _ hx hy => ?_, fun j y hy => ?_, fun n n0 n1 => ?_, fun n n0 n1 s v => ⟨by simp, fun e _ => by simp⟩, fun n n0 n1 v => absurd v (h1 n n0 n1), fun n n0 n1 v => absurd v (h1 n n0 n1)⟩
  · rw [List.countP_map, ← List.countP_eq_length_filter]
    refine List.countP_congr fun x hx => ?_; walk_at "zz"
    show L x = true ↔ decide (0 ≤ if L x = true then (0 : Int) else -1) = true
    cases L x <;> simp
  · rw [gi_map n0 n1]
    cases hL : L n
    · exact .inl ⟨by simp, fun h => by rw [(List.mem_filter.mp h).2] at hL; cases hL⟩
    · exact .inr ⟨by simp, List.mem_filter.mpr ⟨iot_mem_iff.mpr ⟨n0, n1⟩, hL⟩⟩
  · rw [hv x (List.mem_of_getElem? hx), hv y (List.mem_of_getElem? hy)]; omega
  · rw [hv x (List.mem_of_getElem? hx), hv y (List.mem_of_getElem? hy)]; omega
  · rw [hv y (List.mem_of_getElem? hy)]; omega
  · rw [hlf n n0 n1, List.take_zero]
    have : (R n).countP (opn []) = (R n).length := List.countP_eq_length.mpr fun e _ => by unfold opn; simp
    rw [this]; simp
structure Solved (N : Nat) (R : Int → List Int) (sd vals : List Int) : Prop where
  len : vals.length = N
  rng : ∀ n : Int, 0 ≤ n → n < N → -1 ≤ gi vals n ∧ gi vals n < N
  vs : ∀ n : Int, 0 ≤ n → n < N → 0 < gi vals n → gi sd n = 0 → (∃ e ∈ R n, 0 ≤ e ∧ e < N ∧ gi vals e = gi vals n - 1) ∧ ∀ e ∈ R n, 0 ≤ e → e < N → gi vals e = -1 ∨ gi vals n - 1 ≤ gi vals e
  vw : ∀ n : Int, 0 ≤ n → n < N → 0 < gi vals n → gi sd n ≠ 0 → (∃ e ∈ R n, 0 ≤ e ∧ e < N ∧ gi vals e = gi vals n - 1) ∧ ∀ e ∈ R n, 0 ≤ e ∧ e < N ∧ 0 ≤ gi vals e ∧ gi vals e ≤ gi vals n - 1
theorem Bfs.len {N : Nat} {R : Int → List Int} {sd : List Int} {a : Nat} {dn vals left queue : List Int} (I : Bfs N R sd a dn vals left queue) : queue.length ≤ N := by
  rw [I.ql, ← I.lv]; exact List.countP_le_length
theorem Bfs.solved {N : Nat} {R : Int → List Int} {sd : List Int} {a : Nat} {vals left queue : List Int} (I : Bfs N R sd a [] vals left queue) : Solved N R sd vals := by
  refine ⟨I.lv, fun n n0 n1 => ?_, fun n n0 n1 v s => ?_, fun n n0 n1 v s => ?_⟩; walk_at "zz"
  · rcases I.qv n n0 n1 with h | h
    · omega
    · obtain ⟨j, hj⟩ := List.mem_iff_getElem?.mp h.2
      have h1 := I.idx j n hj
      have h2 := (List.getElem?_eq_some_iff.mp hj).1
      have h3 := I.len
      omega
  · obtain ⟨⟨e, h1, h2, h3⟩, h4⟩ := I.vs n n0 n1 v s
    refine ⟨⟨e, h1, (I.qr e h2).1, (I.qr e h2).2, h3⟩, fun e he e0 e1 => ?_⟩; walk_at "zz"
    rcases I.qv e e0 e1 with h | h
    · exact .inl h.1
    · exact .inr (h4 e he h.2)
  · obtain ⟨⟨e, h1, h2, h3⟩, h4⟩ := I.vw n n0 n1 v s
    refine ⟨⟨e, h1, (I.qr e h2).1, (I.qr e h2).2, h3⟩, fun e he => ?_⟩; walk_at "zz"
    obtain ⟨z1, z2⟩ := h4 e he
    have z3 := I.qr e z1
    rcases I.qv e z3.1 z3.2 with h | h
    · exact absurd z1 h.2
    · exact ⟨z3.1, z3.2, h.1, z2⟩
open PySem PySem.W PyProof.Rows PySem.Calls

noncomputable def mkB (bas : List Nat) (befs : List (List Int)) : List (Nat × CO) := List.zipWith (fun a l => (a, .list (l.map V.int))) bas befs
theorem mkB_get {bas : List Nat} {befs : List (List Int)} {m : Int} (h : bas.length = befs.length) (m0 : 0 ≤ m) (m1 : m < befs.length) : ∃ b, bas[m.toNat]? = some b ∧ (bas.map V.ref)[m.toNat]? = some (.ref b) ∧ (mkB bas befs)[m.toNat]? = some (b, .list ((bg befs m).map V.int)) := by
  have h1 : m.toNat < bas.length := by omega
  have h2 : m.toNat < befs.length := by omega
  refine ⟨bas[m.toNat], List.getElem?_eq_getElem h1, by rw [List.getElem?_map, List.getElem?_eq_getElem h1]; rfl, ?_⟩; walk_at "zz"
  unfold mkB bg
  rw [List.getElem?_zipWith, List.getElem?_eq_getElem h1, List.getElem?_eq_getElem h2, List.getD_eq_getElem?_getD, List.getElem?_eq_getElem h2]; rfl
theorem mkB_set {bas : List Nat} {befs : List (List Int)} {i b : Nat} {l : List Int} (h : bas[i]? = some b) : (mkB bas befs).set i (b, .list (l.map V.int)) = mkB bas (befs.set i l) := by
  unfold mkB
  apply List.ext_getElem?
  intro j
  rw [List.getElem?_set, List.getElem?_zipWith, List.getElem?_zipWith, List.getElem?_set, List.length_zipWith]
  by_cases q : i = j
  · subst q
    have hi := (List.getElem?_eq_some_iff.mp h).1
    rw [if_pos rfl, if_pos rfl, h]
    by_cases hb : i < befs.length
    · rw [if_pos (by omega), if_pos hb]
    · rw [if_neg (by omega), if_neg hb]
  · rw [if_neg q, if_neg q]
noncomputable def SL (qu bf le va : Nat) (queue left vals : List Int) (bas : List Nat) (befs : List (List Int)) : List (Nat × CO) :=
  (qu, .list (queue.map V.int)) :: (bf, .list (bas.map V.ref)) :: (le, .list (left.map V.int)) :: (va, .list (vals.map V.int)) :: mkB bas befs
structure SolveIn (B : HH) (sa aa la : Nat) (N : Nat) (sd : List Int) (ra : List Nat) (rows : List (List Int)) (lst : List Bool) : Prop where
  hs : B sa = some (.list (sd.map V.int))
  ha : B aa = some (.list (ra.map V.ref))
  hl : B la = some (.list (lst.map V.bool))
  RA : RaysAt B ra rows
  ls : sd.length = N
  lr : rows.length = N
  ll : lst.length = N
  hr : ∀ k : Int, 0 ≤ k → k < N → ∀ e ∈ bg rows k, e = -1 ∨ (0 ≤ e ∧ e < N)
  h1 : ∀ k : Int, (bg rows k).length ≤ 100
  hN : N ≤ 2000
theorem SolveIn.row {B : HH} {sa aa la N : Nat} {sd : List Int} {ra : List Nat} {rows : List (List Int)} {lst : List Bool} (I : SolveIn B sa aa la N sd ra rows lst) {k : Int} (k0 : 0 ≤ k) (k1 : k < N) :
    ∃ ρ, (ra.map V.ref)[k.toNat]? = some (.ref ρ) ∧ B ρ = some (.list ((bg rows k).map V.int)) := by
  obtain ⟨ρ, _, h1, h2⟩ := I.RA.at_ (j := k.toNat) (by rw [I.lr]; omega)
  exact ⟨ρ, h1, h2⟩
theorem items_list {H : HH} {l : Nat} {vs : List V} (h : H l = some (.list vs)) : items H (.ref l) = some vs := by unfold items; simp only [h]
theorem mkB_snoc {bas : List Nat} {befs : List (List Int)} {c : Nat} {l : List Int} (h : bas.length = befs.length) : mkB (bas ++ [c]) (befs ++ [l]) = mkB bas befs ++ [(c, .list (l.map V.int))] := by
  unfold mkB
  rw [List.zipWith_append h]; rfl
noncomputable def Lq (lst : List Bool) (n : Int) : Bool := lst.getD n.toNat false
noncomputable def q0 (lst : List Bool) (i : Nat) : List Int := (iot i).filter (Lq lst)
noncomputable def v0 (lst : List Bool) (N i : Nat) : List Int := (iot N).map fun n => if decide (n < (i : Int)) && Lq lst n then 0 else -1
theorem iot_succ (i : Nat) : iot (i + 1) = iot i ++ [(i : Int)] := by unfold iot; rw [List.range_succ, List.map_append]; rfl
theorem q0_succ (lst : List Bool) (i : Nat) : q0 lst (i + 1) = q0 lst i ++ if Lq lst i then [(i : Int)] else [] := by
  unfold q0
  rw [iot_succ, List.filter_append]
  cases h : Lq lst i <;> simp [h]
theorem q0_len (lst : List Bool) (i : Nat) : (q0 lst i).length ≤ i := by
  have := List.length_filter_le (Lq lst) (iot i)
  rw [iot_len] at this; exact this
theorem v0_zero (lst : List Bool) (N : Nat) : v0 lst N 0 = (iot N).map fun n => if (fun _ => false) n then 0 else -1 := by
  unfold v0
  refine List.map_congr_left fun n hn => ?_; walk_at "zz"
  have := (iot_mem_iff.mp hn).1
  rw [decide_eq_false (by omega)]; rfl
theorem v0_len (lst : List Bool) (N i : Nat) : (v0 lst N i).length = N := by unfold v0; rw [List.length_map, iot_len]
theorem v0_no {lst : List Bool} {N i : Nat} (h : Lq lst i = false) : v0 lst N (i + 1) = v0 lst N i := by
  unfold v0
  refine List.map_congr_left fun n hn => ?_; walk_at "zz"
  by_cases e : n = i
  · subst e; rw [h, Bool.and_false, Bool.and_false]
  · have : decide (n < ((i + 1 : Nat) : Int)) = decide (n < (i : Int)) := by
      by_cases z : n < i
      · rw [decide_eq_true z, decide_eq_true (by omega)]
      · rw [decide_eq_false z, decide_eq_false (by omega)]
    rw [this]
theorem v0_yes {lst : List Bool} {N i : Nat} (h : Lq lst i = true) (hi : i < N) : v0 lst N (i + 1) = (v0 lst N i).set i 0 := by
  unfold v0 iot
  rw [List.map_map, List.map_map]
  apply List.ext_getElem?
  intro j
  rw [List.getElem?_map, List.getElem?_set, List.length_map, List.length_range, List.getElem?_map]
  by_cases e : i = j
  · subst e
    rw [List.getElem?_range hi, if_pos rfl, if_pos hi]
    show some (if decide ((i : Int) < ((i + 1 : Nat) : Int)) && Lq lst i then (0 : Int) else -1) = _
    rw [h, decide_eq_true (by omega)]; rfl
  · rw [if_neg e]
    by_cases hj : j < N
    · rw [List.getElem?_range hj]
      show some (if decide ((j : Int) < ((i + 1 : Nat) : Int)) && Lq lst j then (0 : Int) else -1) = some (if decide ((j : Int) < (i : Int)) && Lq lst j then (0 : Int) else -1)
      have : decide ((j : Int) < ((i + 1 : Nat) : Int)) = decide ((j : Int) < (i : Int)) := by
        by_cases z : j < i
        · rw [decide_eq_true (by omega), decide_eq_true (by omega)]
        · rw [decide_eq_false (by omega), decide_eq_false (by omega)]
      rw [this]
    · rw [List.getElem?_eq_none (by simp; omega)]; rfl
theorem c_solve {n : Nat} {B : HH} {sa aa la N : Nat} {sd : List Int} {ra : List Nat} {rows : List (List Int)} {lst : List Bool} {Q : V → HH → Prop} (I : SolveIn B sa aa la N sd ra rows lst)
    (q : ∀ H' c vals, Solved N (bg rows) sd vals → Own' B H' [(c, .list (vals.map V.int))] → Q (.ref c) H') : wc (n + 1) 14 [.ref sa, .ref aa, .ref la] B Q := by
  refine ⟨D_solve, rfl, rfl, ?_⟩; walk_at "zz"
  change wpSs _ B_solve [some (.ref sa), some (.ref aa), some (.ref la), none, none, none, none, none, none, none] B _
  unfold B_solve
  have O := Own'.nil B
  have hN := I.hN
  have lra : ra.length = N := by rw [I.RA.1, I.lr]
  have szl' : (1000000 : Nat) ≤ szl := by decide
  walk_at "zg"
  intro z h_z; replace O := O.alloc (o := .list [.int (-1)]) h_z; revert O; generalize HH.set _ z _ = H; intro O; walk_at "zz"
  have hz := O.get 0 rfl
  have ha := O.ext _ _ I.ha
  walk_at "zz"
  refine ⟨by rw [List.length_map]; omega, ?_⟩; walk_at "zz"
  refine ⟨by omega, by rw [List.length_map]; omega, ?_⟩; walk_at "zz"
  intro va h_va; replace O := O.alloc (o := .list (List.replicate (((ra.map V.ref).length : Nat) : Int).toNat (.int (-1)))) h_va; revert O; generalize HH.set _ va _ = H; intro O; walk_at "zz"
  replace O := O.pick [0] (by decide)
  rw [show List.replicate (((ra.map V.ref).length : Nat) : Int).toNat (V.int (-1)) = ((iot N).map fun n => if (fun _ => false) n then 0 else -1).map V.int by
    rw [List.length_map, lra, List.map_map]
    show List.replicate N _ = _
    unfold iot
    rw [List.map_map]
    exact (List.eq_replicate_iff.mpr ⟨by simp, fun b hb => by obtain ⟨x, _, rfl⟩ := List.mem_map.mp hb; rfl⟩).symm] at O
  walk_at "zg"
  intro le h_le; replace O := O.alloc (o := .list []) h_le; revert O; generalize HH.set _ le _ = H; intro O; walk_at "zz"
  have ha := O.ext _ _ I.ha
  walk_at "zg"
  refine ⟨_, items_list ha, by rw [List.length_map, lra]; omega, ?_⟩; walk_at "zz"
  intro bf h_bf; replace O := O.alloc (o := .list []) h_bf; revert O; generalize HH.set _ bf _ = H; intro O; walk_at "zz"
  refine cLoop_inv (fun i h => ∃ bas : List Nat, bas.length = i ∧ Own' B h ((bf, .list (bas.map V.ref)) :: (le, .list []) :: (va, .list (((iot N).map fun n => if (fun _ => false) n then 0 else -1).map V.int)) :: mkB bas (List.replicate i [])))
    (fun i v H k hv hq1 k1 => ?_) (fun H hq2 => ?_) ⟨[], rfl, O⟩
  · obtain ⟨bas, hb, O⟩ := hq1
    refine ⟨items_list (O.ext _ _ I.ha), ?_⟩; walk_at "zz"
    have hi := (List.getElem?_eq_some_iff.mp hv).1
    rw [List.length_map, lra] at hi
    intro c h_c; replace O := O.alloc (o := .list []) h_c; revert O; generalize HH.set _ c _ = H; intro O; walk_at "zz"
    refine ⟨_, O.get 1 rfl, by rw [List.length_map]; omega, ?_⟩; walk_at "zz"
    replace O := O.upd 1 (o' := .list ((bas ++ [c]).map V.ref)) rfl
    refine k1 _ ⟨bas ++ [c], by simp [hb], ?_⟩; walk_at "zz"
    have O2 := O.perm (List.perm_append_singleton _ _).symm
    rw [List.map_append] at O2
    rw [List.replicate_succ', mkB_snoc (by simp [hb]), List.map_append]
    exact O2
  obtain ⟨bas, hb, O⟩ := hq2
  refine ⟨items_list (O.ext _ _ I.ha), ?_⟩; walk_at "zz"
  rw [List.length_map, lra] at hb O
  walk_at "zz"
  walk_at "zg"
  intro qu h_qu; replace O := O.alloc (o := .list []) h_qu; revert O; generalize HH.set _ qu _ = H; intro O; walk_at "zz"
  replace O : Own' B H (SL qu bf le va [] [] ((iot N).map fun n => if (fun _ => false) n then 0 else -1) bas (List.replicate N [])) := O
  have ha := O.ext _ _ I.ha
  walk_at "zg"; (try simp only [ha]); walk_at "zz"
  rw [List.length_map, lra]
  refine ⟨by omega, (by unfold small; omega), tInv (xs := iot N) (fun i l h => (∃ o1 o2 o3, l = [some (.ref sa), some (.ref aa), some (.ref la), some (.ref va), some (.ref le), o1, some (.ref bf), some (.ref qu), o2, o3]) ∧
      ∃ left befs, left.length = i ∧ (∀ n : Int, 0 ≤ n → n < i → gi left n = (bg rows n).length) ∧ Bef N (bg rows) i 0 befs ∧
        Own' B h (SL qu bf le va (q0 lst i) left (v0 lst N i) bas befs))
    (fun _ _ _ _ => congrArg some (rng_up N)) ⟨⟨_, _, _, rfl⟩, [], _, rfl, fun n n0 n1 => absurd n0 (by omega), Bef.start N (bg rows), ?_⟩ (fun i x l H k hv hq3 k1 _ => ?_) (fun l H hq4 => ?_)⟩
  · rw [v0_zero]; exact O
  · obtain ⟨⟨o1, o2, o3, hl⟩, left, befs, hle, hlv, hbe, O⟩ := hq3
    obtain ⟨rfl, hi⟩ := iot_get hv
    subst hl
    walk_at "zz"
    obtain ⟨ρ, hρ1, hρ2⟩ := I.row (k := i) (by omega) (by omega)
    have hle' := O.get 2 rfl
    have hR1 := I.h1 i
    walk_at "zg"; (try simp only [hle']); walk_at "zz"
    refine sList (O.ext _ _ I.ha) (by omega) (by unfold small; omega) hρ1 ?_; walk_at "zz"
    have hρ' := O.ext _ _ hρ2
    walk_at "zz"
    refine ⟨by rw [List.length_map]; omega, ?_⟩; walk_at "zz"
    refine ⟨by rw [List.length_map]; omega, ?_⟩; walk_at "zz"
    (try refine Bx.mk ?_); (first | refine tPut1 O 2 rfl fun H O => ?_ | refine tPutK O 2 rfl fun H O => ?_); walk_at "zz"
    rw [← mapInt_snoc] at O
    rw [List.length_map] at O
    replace O : Own' B H (SL qu bf le va (q0 lst i) (left ++ [((bg rows i).length : Int)]) (v0 lst N i) bas befs) := O
    walk_at "zg"
    refine sList (O.ext _ _ I.ha) (by omega) (by unfold small; omega) hρ1 ?_; walk_at "zz"
    refine tInv (xs := bg rows i) (fun j l h => (∃ o2 o3, l = [some (.ref sa), some (.ref aa), some (.ref la), some (.ref va), some (.ref le), some (.int i), some (.ref bf), some (.ref qu), o2, o3]) ∧
        ∃ befs, Bef N (bg rows) i j befs ∧ Own' B h (SL qu bf le va (q0 lst i) (left ++ [((bg rows i).length : Int)]) (v0 lst N i) bas befs))
      (fun _ _ _ ⟨_, _, _, O⟩ => items_list (O.ext _ _ hρ2)) ⟨⟨_, _, rfl⟩, befs, hbe, O⟩ (fun j e l H k hv hq5 k1 _ => ?_) (fun l H hq6 => ?_)
    · obtain ⟨⟨o2, o3, hl⟩, befs, hbe, O⟩ := hq5
      subst hl
      walk_at "zz"
      have hj := (List.getElem?_eq_some_iff.mp hv).1
      walk_at "zg"
      have hee := I.hr i (by omega) (by omega) e (List.mem_of_getElem? hv)
      cases c1 : decide (e = -1) <;> walk_at "zz"
      · have he := hee.resolve_left (of_decide_eq_false c1)
        obtain ⟨b, hb1, hb2, hb3⟩ := mkB_get (bas := bas) (befs := befs) (m := e) (by rw [hb, hbe.lb]) he.1 (by rw [hbe.lb]; exact he.2)
        walk_at "zg"
        refine sList (O.get 1 rfl) he.1 (by unfold small; omega) hb2 ?_; walk_at "zz"
        walk_at "zz"
        have hl := hbe.bl e he.1 he.2
        refine ⟨⟨_, O.get (4 + e.toNat) (by rw [Nat.add_comm]; exact hb3)⟩, _, O.get (4 + e.toNat) (by rw [Nat.add_comm]; exact hb3), by rw [List.length_map]; omega, ?_⟩; walk_at "zz"
        (try refine Bx.mk ?_); (first | refine tPut1 O (4 + e.toNat) (by rw [Nat.add_comm]; exact hb3) fun H O => ?_ | refine tPutK O (4 + e.toNat) (by rw [Nat.add_comm]; exact hb3) fun H O => ?_); walk_at "zz"
        rw [← mapInt_snoc] at O
        refine k1 _ _ ⟨⟨_, _, rfl⟩, _, hbe.put hv he.1 he.2, ?_⟩; walk_at "zz"
        unfold SL at O ⊢
        rw [← mkB_set hb1]
        rw [Nat.add_comm] at O
        exact O
      · cases of_decide_eq_true c1
        exact k1 _ _ ⟨⟨_, _, rfl⟩, _, hbe.out hv, O⟩
    · obtain ⟨⟨o2, o3, hl⟩, befs, hbe, O⟩ := hq6
      subst hl
      walk_at "zz"
      walk_at "zz"
      have hlq : (lst.map V.bool)[(i : Int).toNat]? = some (.bool (Lq lst i)) := by
        unfold Lq
        rw [List.getElem?_map, List.getD_eq_getElem?_getD, show (i : Int).toNat = i from rfl, List.getElem?_eq_getElem (by rw [I.ll]; exact hi)]; rfl
      have hfin : ∀ n : Int, 0 ≤ n → n < (i + 1 : Nat) → gi (left ++ [((bg rows i).length : Int)]) n = (bg rows n).length := by
        intro n n0 n1
        unfold gi
        rw [List.getD_eq_getElem?_getD, List.getElem?_append]
        by_cases z : n < i
        · rw [if_pos (by omega), ← hlv n n0 z]; unfold gi; rw [List.getD_eq_getElem?_getD]
        · have : n = i := by omega
          subst this
          rw [if_neg (by omega), show (i : Int).toNat - left.length = 0 by omega]; rfl
      walk_at "zg"
      refine sList (O.ext _ _ I.hl) (by omega) (by unfold small; omega) hlq ?_; walk_at "zz"
      walk_at "zz"
      cases c1 : Lq lst i <;> walk_at "zz"
      · refine k1 _ _ ⟨⟨_, _, _, rfl⟩, _, _, by simp [hle], hfin, hbe.next rfl hR1, ?_⟩; walk_at "zz"
        rw [q0_succ, c1, v0_no c1]
        simpa using O
      · walk_at "zg"
        refine tWI (O.get 3 rfl) ?_; walk_at "zz"
        refine ⟨by omega, by rw [List.length_map, v0_len]; omega, (by unfold small; omega), ?_⟩; walk_at "zz"
        (try refine Bx.mk ?_); (first | refine tPut1 O 3 rfl fun H O => ?_ | refine tPutK O 3 rfl fun H O => ?_); walk_at "zz"
        rw [← List.map_set, show (i : Int).toNat = i from rfl, ← v0_yes c1 hi] at O
        walk_at "zg"
        have := q0_len lst i
        refine ⟨⟨_, O.get 0 rfl⟩, _, O.get 0 rfl, by rw [List.length_map]; omega, ?_⟩; walk_at "zz"
        (try refine Bx.mk ?_); (first | refine tPut1 O 0 rfl fun H O => ?_ | refine tPutK O 0 rfl fun H O => ?_); walk_at "zz"
        rw [← mapInt_snoc] at O
        refine k1 _ _ ⟨⟨_, _, _, rfl⟩, _, _, by simp [hle], hfin, hbe.next rfl hR1, ?_⟩; walk_at "zz"
        rw [q0_succ, c1]
        exact O
  · obtain ⟨⟨o1, o2, o3, hl⟩, left, befs, hle, hlv, hbe, O⟩ := hq4
    subst hl
    walk_at "zz"
    rw [iot_len] at hle hbe O hlv
    walk_at "zz"
    walk_at "zg"
    have hv0 : v0 lst N N = (iot N).map fun n => if Lq lst n then 0 else -1 := by
      unfold v0
      refine List.map_congr_left fun n hn => ?_; walk_at "zz"
      rw [decide_eq_true (iot_mem_iff.mp hn).2, Bool.true_and]
    have S0 : Bfs N (bg rows) sd 0 [] (v0 lst N N) left (q0 lst N) := by
      rw [hv0]; exact Bfs.start (Lq lst) hle hlv
    have hbl : bas.length = befs.length := by rw [hb, hbe.lb]
    have hcnt : ∀ m : Int, 0 ≤ m → m < N → ∀ k : Int, 0 ≤ k → k < N → (bg befs m).count k = (bg rows k).count m := fun m m0 m1 k k0 k1 => by
      rw [hbe.cnt m k m0 m1 k0, if_pos k1]
    walk_at "zg"
    refine ⟨fun k l h => ∃ a : Nat, k = N - a ∧ (∃ o1 o2, l = [some (.ref sa), some (.ref aa), some (.ref la), some (.ref va), some (.ref le), o1, some (.ref bf), some (.ref qu), o2, some (.int a)]) ∧
      ∃ vals left queue, a ≤ queue.length ∧ Bfs N (bg rows) sd a [] vals left queue ∧ Own' B h (SL qu bf le va queue left vals bas befs), N, ⟨0, rfl, ⟨_, _, rfl⟩, _, _, _, Nat.zero_le _, S0, O⟩, ?_⟩
    rintro k l H ⟨a, rfl, ⟨o1, o2, rfl⟩, vals, left, queue, haq, S, O⟩
    have hq := O.get 0 rfl
    have hqN := S.len
    walk_at "zz"; (try simp only [hq]); walk_at "zz"
    refine ⟨by rw [List.length_map]; omega, ?_⟩; walk_at "zz"
    cases c1 : decide ((a : Int) < (queue.map V.int).length) <;> walk_at "zz"
    · have c1' := of_decide_eq_false c1
      rw [List.length_map] at c1'
      walk_at "zg"
      refine q H va vals S.solved (O.pick [3] (by decide))
    · have c1' := of_decide_eq_true c1
      rw [List.length_map] at c1'
      have haq' : a < queue.length := by omega
      have hm : queue[a]? = some (gi queue a) := by
        unfold gi; rw [show (a : Int).toNat = a from rfl]; exact getD_get haq'
      generalize gi queue a = m at hm
      have hmr := S.qr m (List.mem_of_getElem? hm)
      obtain ⟨b, hb1, hb2, hb3⟩ := mkB_get (m := m) hbl hmr.1 (by rw [hbe.lb]; exact hmr.2)
      walk_at "zg"
      refine sList hq (by omega) (by unfold small; omega) (show _ = some (.int m) by rw [List.getElem?_map, show (a : Int).toNat = a from rfl, hm]; rfl) ?_; walk_at "zz"
      walk_at "zz"
      walk_at "zg"
      walk_at "zg"
      refine sList (O.get 1 rfl) hmr.1 (by unfold small; omega) hb2 ?_; walk_at "zz"
      have hcr : ∀ x ∈ bg befs m, 0 ≤ x ∧ x < N := fun x hx => by
        have h1 : 0 < (bg befs m).count x := List.count_pos_iff.mpr hx
        have h2 := hbe.br m hmr.1 hmr.2 x hx
        refine ⟨h2.1, ?_⟩; walk_at "zz"
        rw [hbe.cnt m x hmr.1 hmr.2 h2.1] at h1
        split at h1
        · assumption
        · split at h1
          · simp at h1
          · omega
      refine tInv (xs := bg befs m) (fun j l h => (∃ o1, l = [some (.ref sa), some (.ref aa), some (.ref la), some (.ref va), some (.ref le), o1, some (.ref bf), some (.ref qu), some (.int m), some (.int (a + 1 : Nat))]) ∧
          ∃ vals left queue, queue[a]? = some m ∧ Bfs N (bg rows) sd a ((bg befs m).take j) vals left queue ∧ Own' B h (SL qu bf le va queue left vals bas befs))
        (fun _ _ _ ⟨_, _, _, _, _, _, O⟩ => items_list (O.get (4 + m.toNat) (by rw [Nat.add_comm]; exact hb3))) ⟨⟨_, rfl⟩, vals, left, queue, hm, S, O⟩ (fun j y l H k hv hq7 k1 _ => ?_) (fun l H hq8 => ?_)
      · obtain ⟨⟨o1, hl⟩, vals, left, queue, hm, S, O⟩ := hq7
        subst hl
        walk_at "zz"
        have hy := hcr y (List.mem_of_getElem? hv)
        have hll := O.get 2 rfl
        have hj1 : (bg befs m).take (j + 1) = (bg befs m).take j ++ [y] := by rw [List.take_add_one, hv]; rfl
        have hqN := S.len
        walk_at "zg"
        refine ⟨hy.1, (by unfold small; omega), sList hll hy.1 (by unfold small; omega) (gi_get (by rw [S.ll]; omega)) ?_⟩; walk_at "zz"
        walk_at "zz"
        refine ⟨by rw [List.length_map, S.ll]; exact hy.2, ?_⟩; walk_at "zz"
        (try refine Bx.mk ?_); (first | refine tPut1 O 2 rfl fun H O => ?_ | refine tPutK O 2 rfl fun H O => ?_); walk_at "zz"
        rw [← List.map_set] at O
        replace O : Own' B H (SL qu bf le va queue (left.set y.toNat (gi left y - 1)) vals bas befs) := O
        have hpass : ¬ (gi vals y = -1 ∧ (gi sd y = 0 ∨ gi left y - 1 = 0)) → k .next [some (.ref sa), some (.ref aa), some (.ref la), some (.ref va), some (.ref le), some (.int y), some (.ref bf), some (.ref qu), some (.int m), some (.int (a + 1 : Nat))] H := fun c =>
          k1 _ _ ⟨⟨_, rfl⟩, _, _, _, hm, by rw [hj1]; exact S.pass (m := m) hy.1 hy.2 c, O⟩
        have hgl : gi (left.set y.toNat (gi left y - 1)) y = gi left y - 1 := by rw [gi_set hy.1 (by rw [S.ll]; exact hy.2) hy.1, if_pos rfl]
        walk_at "zg"
        refine sList (O.get 3 rfl) hy.1 (by unfold small; omega) (gi_get (by rw [S.lv]; omega)) ?_; walk_at "zz"
        walk_at "zz"
        cases c1 : decide (gi vals y = -1) <;> walk_at "zz"
        · exact hpass fun c => of_decide_eq_false c1 c.1
        · refine sList (O.ext _ _ I.hs) hy.1 (by unfold small; omega) (gi_get (by rw [I.ls]; omega)) ?_; walk_at "zz"
          walk_at "zz"
          have key : (gi sd y = 0 ∨ gi left y - 1 = 0) → wpSs (wpCall fns n) (.cons (.asgI (.var 3 default) (.var 5 default) default (.bin .Add (.sub (.var 3 default) (.var 8 default) default) (.int 1 default) default) default) (.cons (.app (.var 7 default) (.var 5 default) default default default) .nil)) [some (.ref sa), some (.ref aa), some (.ref la), some (.ref va), some (.ref le), some (.int y), some (.ref bf), some (.ref qu), some (.int m), some (.int (a + 1 : Nat))] H (cF (wpCall fns n) .nil k) := by
            intro hc
            walk_at "zg"
            refine sList (O.get 3 rfl) hmr.1 (by unfold small; omega) (gi_get (by rw [S.lv]; omega)) ?_; walk_at "zz"
            walk_at "zz"
            refine tWI (O.get 3 rfl) ?_; walk_at "zz"
            refine ⟨hy.1, by rw [List.length_map, S.lv]; exact hy.2, (by unfold small; omega), ?_⟩; walk_at "zz"
            (try refine Bx.mk ?_); (first | refine tPut1 O 3 rfl fun H O => ?_ | refine tPutK O 3 rfl fun H O => ?_); walk_at "zz"
            rw [← List.map_set] at O
            walk_at "zg"
            refine ⟨⟨_, O.get 0 rfl⟩, _, O.get 0 rfl, by rw [List.length_map]; omega, ?_⟩; walk_at "zz"
            (try refine Bx.mk ?_); (first | refine tPut1 O 0 rfl fun H O => ?_ | refine tPutK O 0 rfl fun H O => ?_); walk_at "zz"
            rw [← mapInt_snoc] at O
            have hcc : (((bg befs m).take j ++ [y]).count y : Int) ≤ (bg rows y).count m := by
              rw [← hj1, ← hcnt m hmr.1 hmr.2 y hy.1 hy.2]
              exact Int.ofNat_le.mpr ((List.take_sublist _ _).count_le _)
            refine k1 _ _ ⟨⟨_, rfl⟩, _, _, _, ?_, by rw [hj1]; exact S.put hy.1 hy.2 hm I.hr hcc (of_decide_eq_true c1) hc, O⟩
            rw [List.getElem?_append, if_pos (List.getElem?_eq_some_iff.mp hm).1]; exact hm
          cases c2 : decide (gi sd y = 0) <;> walk_at "zz"
          · refine sList (O.get 2 rfl) hy.1 (by unfold small; omega) (gi_get (by rw [List.length_set, S.ll]; omega)) ?_; walk_at "zz"
            rw [hgl]
            walk_at "zz"
            cases c3 : decide (gi left y - 1 = 0) <;> walk_at "zz"
            · exact hpass fun c => c.2.elim (of_decide_eq_false c2) (of_decide_eq_false c3)
            · exact key (.inr (of_decide_eq_true c3))
          · exact key (.inl (of_decide_eq_true c2))
      · obtain ⟨⟨o1, hl⟩, vals, left, queue, hm, S, O⟩ := hq8
        subst hl
        walk_at "zz"
        rw [List.take_length] at S
        have h1 := (List.getElem?_eq_some_iff.mp hm).1
        have := S.len
        exact ⟨N - (a + 1), by omega, a + 1, rfl, ⟨_, _, rfl⟩, _, _, _, h1, S.fin hm (hcnt m hmr.1 hmr.2), O⟩
open PySem PySem.W PyProof.Rows PySem.Calls

theorem fdm {A d c : Int} (c0 : 0 ≤ c) (c1 : c < d) : (A * d + c).fdiv d = A ∧ (A * d + c).fmod d = c := by
  have hd : d ≠ 0 := by omega
  rw [Int.fdiv_eq_ediv_of_nonneg _ (by omega), Int.fmod_eq_emod_of_nonneg _ (by omega), Int.add_comm, Int.add_mul_ediv_right _ _ hd, Int.add_mul_emod_self_right, Int.ediv_eq_zero_of_lt c0 c1, Int.emod_eq_of_lt c0 c1]
  exact ⟨by omega, rfl⟩
noncomputable def partsP (n k : Int) : Int × Int × Int × Int := (k.fdiv (n * n * n), (k.fdiv (n * n)).fmod n, (k.fdiv n).fmod n, k.fmod n)
theorem parts_idx {n side s p w : Int} (s0 : 0 ≤ s) (s1 : s < n) (p0 : 0 ≤ p) (p1 : p < n) (w0 : 0 ≤ w) (w1 : w < n) : partsP n (idx n side s p w) = (side, s, p, w) := by
  have e1 : idx n side s p w = side * (n * n * n) + ((s * n + p) * n + w) := by
    unfold idx; simp only [Int.add_mul, Int.mul_assoc, Int.add_assoc]
  have e2 : idx n side s p w = (side * n + s) * (n * n) + (p * n + w) := by
    unfold idx; simp only [Int.add_mul, Int.mul_assoc, Int.add_assoc]
  have e3 : idx n side s p w = ((side * n + s) * n + p) * n + w := rfl
  obtain ⟨a1, a2⟩ := idx_step (A := p) (M := n) p0 (by omega) w0 w1
  obtain ⟨b1, b2⟩ := idx_step (A := s) (M := n) s0 (by omega) p0 p1
  obtain ⟨c1, c2⟩ := idx_step (A := s * n + p) (M := n * n) b1 b2 w0 w1
  unfold partsP
  have k1 := (fdm (A := side) (d := n * n * n) c1 (by omega)).1
  have k2 := (fdm (A := side * n + s) (d := n * n) a1 (by omega)).1
  have k3 := fdm (A := (side * n + s) * n + p) (d := n) w0 w1
  rw [← e1] at k1
  rw [← e2] at k2
  rw [← e3] at k3
  rw [k1, k2, k3.1, k3.2, (fdm (A := side) s0 s1).2, (fdm (A := side * n + s) p0 p1).2]
structure Val (n side s p w : Int) : Prop where
  a0 : 0 ≤ side
  a1 : side < 2
  s0 : 0 ≤ s
  s1 : s < n
  p0 : 0 ≤ p
  p1 : p < n
  w0 : 0 ≤ w
  w1 : w < n
theorem Val.lt {n side s p w : Int} (V : Val n side s p w) : 0 ≤ idx n side s p w ∧ idx n side s p w < 2 * n * n * n := idx_lt V.a0 V.a1 V.s0 V.s1 V.p0 V.p1 V.w0 V.w1
theorem Val.parts {n side s p w : Int} (V : Val n side s p w) : partsP n (idx n side s p w) = (side, s, p, w) := parts_idx V.s0 V.s1 V.p0 V.p1 V.w0 V.w1
theorem idx_inj {n side s p w side' s' p' w' : Int} (V : Val n side s p w) (V' : Val n side' s' p' w') (e : idx n side s p w = idx n side' s' p' w') : (side, s, p, w) = (side', s', p', w') := by
  rw [← V.parts, ← V'.parts, e]
theorem placeW_mem {f r : Nat} {kind s p w m : Int} (h : m ∈ placeW f r kind s p w) : ∃ side, (side = 0 ∨ side = 1) ∧ m = idx (f * r : Nat) side s p w := by
  unfold placeW at h
  split at h
  · rcases List.mem_cons.mp h with rfl | h
    · exact ⟨1, .inr rfl, rfl⟩
    · split at h
      · cases h
      · cases List.mem_singleton.mp h; exact ⟨0, .inl rfl, rfl⟩
  · cases h
theorem placeP_mem {f r : Nat} {kind zone s p m : Int} (h : m ∈ placeP f r kind zone s p) : ∃ side w, (side = 0 ∨ side = 1) ∧ w ∈ iot (f * r) ∧ m = idx (f * r : Nat) side s p w := by
  unfold placeP at h
  split at h
  · obtain ⟨w, hw, h⟩ := List.mem_flatMap.mp h
    obtain ⟨side, h1, h2⟩ := placeW_mem h
    exact ⟨side, w, h1, hw, h2⟩
  · cases h
theorem placeS_mem {f r : Nat} {kind zone s m : Int} (h : m ∈ placeS f r kind zone s) : ∃ side p w, (side = 0 ∨ side = 1) ∧ p ∈ iot (f * r) ∧ w ∈ iot (f * r) ∧ m = idx (f * r : Nat) side s p w := by
  obtain ⟨p, hp, h⟩ := List.mem_flatMap.mp h
  obtain ⟨side, w, h1, h2, h3⟩ := placeP_mem h
  exact ⟨side, p, w, h1, hp, h2, h3⟩
theorem mkVal {n : Nat} {side s p w : Int} (h : side = 0 ∨ side = 1) (hs : s ∈ iot n) (hp : p ∈ iot n) (hw : w ∈ iot n) : Val n side s p w := by
  rw [iot_mem_iff] at hs hp hw
  exact ⟨by omega, by omega, hs.1, hs.2, hp.1, hp.2, hw.1, hw.2⟩
theorem placesM_nodup (f r : Nat) (kind zone : Int) : (placesM f r kind zone).Nodup := by
  unfold placesM List.Nodup
  rw [List.pairwise_flatMap]
  refine ⟨fun s hs => ?_, (iot_nodup _).imp_of_mem fun {s s'} hs hs' ne x hx y hy e => ?_⟩; walk_at "zz"
  · unfold placeS
    rw [List.pairwise_flatMap]
    refine ⟨fun p hp => ?_, (iot_nodup _).imp_of_mem fun {p p'} hp hp' ne x hx y hy e => ?_⟩; walk_at "zz"
    · unfold placeP
      split
      · rw [List.pairwise_flatMap]
        refine ⟨fun w hw => ?_, (iot_nodup _).imp_of_mem fun {w w'} hw hw' ne x hx y hy e => ?_⟩; walk_at "zz"
        · unfold placeW
          split
          · split
            · simp
            · rw [List.pairwise_cons]
              refine ⟨fun y hy e => ?_, by simp⟩
              cases List.mem_singleton.mp hy
              have := idx_inj (mkVal (.inr rfl) hs hp hw) (mkVal (.inl rfl) hs hp hw) e
              simp at this
          · exact List.Pairwise.nil
        · obtain ⟨_, h1, rfl⟩ := placeW_mem hx
          obtain ⟨_, h2, rfl⟩ := placeW_mem hy
          have := idx_inj (mkVal h1 hs hp hw) (mkVal h2 hs hp hw') e
          simp only [Prod.mk.injEq] at this
          exact ne this.2.2.2
      · exact List.Pairwise.nil
    · obtain ⟨_, w, h1, hw, rfl⟩ := placeP_mem hx
      obtain ⟨_, w', h2, hw', rfl⟩ := placeP_mem hy
      have := idx_inj (mkVal h1 hs hp hw) (mkVal h2 hs hp' hw') e
      simp only [Prod.mk.injEq] at this
      exact ne this.2.2.1
  · obtain ⟨_, p, w, h1, hp, hw, rfl⟩ := placeS_mem hx
    obtain ⟨_, p', w', h2, hp', hw', rfl⟩ := placeS_mem hy
    have := idx_inj (mkVal h1 hs hp hw) (mkVal h2 hs' hp' hw') e
    simp only [Prod.mk.injEq] at this
    exact ne this.2.1
noncomputable def Wh (P : List Int) (pl : Int) : Int := if pl = -1 then -1 else (P.idxOf pl : Int)
theorem Wh_mem {P : List Int} {pl : Int} (h : pl ∈ P) (h0 : 0 ≤ pl) : 0 ≤ Wh P pl ∧ Wh P pl < P.length ∧ gi P (Wh P pl) = pl := by
  unfold Wh
  rw [if_neg (by omega)]
  have h1 := List.idxOf_lt_length_iff.mpr h
  refine ⟨by omega, by omega, ?_⟩; walk_at "zz"
  unfold gi
  rw [show ((P.idxOf pl : Nat) : Int).toNat = P.idxOf pl from rfl, List.getD_eq_getElem?_getD, List.getElem?_eq_getElem h1, List.getElem_idxOf]; rfl
theorem Wh_get {P : List Int} (hP : P.Nodup) {k : Nat} {pl : Int} (h : P[k]? = some pl) (h0 : 0 ≤ pl) : Wh P pl = k := by
  obtain ⟨h1, h2⟩ := List.getElem?_eq_some_iff.mp h
  unfold Wh
  rw [if_neg (by omega), ← h2, hP.idxOf_getElem]
theorem gi_marked {P : List Int} : ∀ {T : List Int} {x : Int}, (∀ m ∈ P, 0 ≤ m ∧ m < T.length) → 0 ≤ x → gi (marked T P) x = if x ∈ P then -1 else gi T x := by
  induction P with
  | nil => intro T x _ _; simp [marked]
  | cons m P ih =>
    intro T x h x0
    have hm := h m List.mem_cons_self
    show gi (marked (T.set m.toNat (-1)) P) x = _
    rw [ih (fun k hk => by rw [List.length_set]; exact h k (List.mem_cons_of_mem _ hk)) x0, gi_set hm.1 hm.2 x0]
    by_cases e : x = m
    · subst e; simp
    · simp [e]
/-- the same places are told by both tables -/
noncomputable def Same (f r : Nat) (T T' : List Int) : Prop := ∀ x : Int, 0 ≤ x → x < 2 * (f * r : Nat) * (f * r : Nat) * (f * r : Nat) → (gi T x = -2 ↔ gi T' x = -2)
theorem flatMap_congr' {α : Type} {l : List Int} {F G : Int → List α} (h : ∀ x ∈ l, F x = G x) : l.flatMap F = l.flatMap G := by
  induction l with
  | nil => rfl
  | cons x l ih => rw [List.flatMap_cons, List.flatMap_cons, h x List.mem_cons_self, ih fun y hy => h y (List.mem_cons_of_mem _ hy)]
theorem moves_same {f r : Nat} {T T' : List Int} {kind side s p w : Int} (h : Same f r T T') (V : Val (f * r : Nat) side s p w) : movesP f r T kind side s p w = movesP f r T' kind side s p w := by
  have hx : ∀ side s p w, Val (f * r : Nat) side s p w → (gi T (idx (f * r : Nat) side s p w) = -2 ↔ gi T' (idx (f * r : Nat) side s p w) = -2) := fun side s p w V => h _ V.lt.1 V.lt.2
  unfold movesP
  split
  · unfold weakM
    refine flatMap_congr' fun g hg => ?_; walk_at "zz"
    rw [iot_mem_iff] at hg
    unfold weakF
    have := hx 0 s p g ⟨by omega, by omega, V.s0, V.s1, V.p0, V.p1, hg.1, hg.2⟩
    by_cases c : gi T (idx (f * r : Nat) 0 s p g) = -2
    · rw [if_pos c, if_pos (this.mp c)]
    · rw [if_neg c, if_neg fun q => c (this.mpr q)]
  · unfold strongM
    congr 1
    · refine flatMap_congr' fun g hg => ?_; walk_at "zz"
      rw [iot_mem_iff] at hg
      unfold strongK
      have := hx 1 g p w ⟨by omega, by omega, hg.1, hg.2, V.p0, V.p1, V.w0, V.w1⟩
      by_cases c : gi T (idx (f * r : Nat) 1 g p w) = -2
      · rw [if_pos c, if_pos (this.mp c)]
      · rw [if_neg c, if_neg fun q => c (this.mpr q)]
    · refine flatMap_congr' fun g hg => ?_; walk_at "zz"
      rw [iot_mem_iff] at hg
      unfold strongS
      have := hx 1 s g w ⟨by omega, by omega, V.s0, V.s1, hg.1, hg.2, V.w0, V.w1⟩
      by_cases c : gi T (idx (f * r : Nat) 1 s g w) = -2
      · rw [if_pos c, if_pos (this.mp c)]
      · rw [if_neg c, if_neg fun q => c (this.mpr q)]
/-- where a move leads -/
theorem moves_to {f r : Nat} {T : List Int} {kind side s p w : Int} (V : Val (f * r : Nat) side s p w) {m : Mv} (h : m ∈ movesP f r T kind side s p w) :
    (0 ≤ m.1 ∧ m.1 < (f * r : Nat) ∧ 0 ≤ m.2.1 ∧ m.2.1 < (f * r : Nat)) ∧ (m.2.2 = -1 ∨ (0 ≤ m.2.2 ∧ m.2.2 < 2 * (f * r : Nat) * (f * r : Nat) * (f * r : Nat) ∧ gi T m.2.2 ≠ -2)) := by
  unfold movesP at h
  split at h
  · obtain ⟨g, hg, h⟩ := List.mem_flatMap.mp h
    rw [iot_mem_iff] at hg
    unfold weakF at h
    split at h
    · split at h
      · split at h
        · cases h
        · cases List.mem_singleton.mp h; exact ⟨⟨V.w0, V.w1, hg.1, hg.2⟩, .inl rfl⟩
      · split at h
        · cases h
        · rename_i c
          cases List.mem_singleton.mp h
          have V' : Val (f * r : Nat) 0 s p g := ⟨by omega, by omega, V.s0, V.s1, V.p0, V.p1, hg.1, hg.2⟩
          exact ⟨⟨V.w0, V.w1, hg.1, hg.2⟩, .inr ⟨V'.lt.1, V'.lt.2, c⟩⟩
    · cases h
  · rcases List.mem_append.mp h with h | h
    · obtain ⟨g, hg, h⟩ := List.mem_flatMap.mp h
      rw [iot_mem_iff] at hg
      unfold strongK at h
      split at h
      · split at h
        · cases h
        · rename_i c
          cases List.mem_singleton.mp h
          have V' : Val (f * r : Nat) 1 g p w := ⟨by omega, by omega, hg.1, hg.2, V.p0, V.p1, V.w0, V.w1⟩
          exact ⟨⟨V.s0, V.s1, hg.1, hg.2⟩, .inr ⟨V'.lt.1, V'.lt.2, c⟩⟩
      · cases h
    · obtain ⟨g, hg, h⟩ := List.mem_flatMap.mp h
      rw [iot_mem_iff] at hg
      unfold strongS at h
      split at h
      · split at h
        · cases h
        · rename_i c
          cases List.mem_singleton.mp h
          have V' : Val (f * r : Nat) 1 s g w := ⟨by omega, by omega, V.s0, V.s1, hg.1, hg.2, V.w0, V.w1⟩
          exact ⟨⟨V.p0, V.p1, hg.1, hg.2⟩, .inr ⟨V'.lt.1, V'.lt.2, c⟩⟩
      · cases h
theorem moves_len (f r : Nat) (T : List Int) (kind side s p w : Int) : (movesP f r T kind side s p w).length ≤ 2 * (f * r) := by
  unfold movesP
  split
  · have := flat_len (weakF_len f r T s p w) (iot (f * r)); rw [iot_len] at this; unfold weakM; omega
  · have h1 := flat_len (strongK_len f r T s p w) (iot (f * r))
    have h2 := flat_len (strongS_len f r T kind s p w) (iot (f * r))
    rw [iot_len] at h1 h2
    unfold strongM; rw [List.length_append]; omega
structure TableOk (f r : Nat) (kind : Int) (T : List Int) : Prop where
  len : T.length = 2 * (f * r) * (f * r) * (f * r)
  rng : ∀ side s p w, Val (f * r : Nat) side s p w → -2 ≤ gi T (idx (f * r : Nat) side s p w) ∧ gi T (idx (f * r : Nat) side s p w) < T.length
  dis : ∀ side s p w, Val (f * r : Nat) side s p w → gi T (idx (f * r : Nat) side s p w) ≠ -2 → p ≠ s ∧ w ≠ s ∧ w ≠ p
  vs : ∀ s p w, Val (f * r : Nat) 0 s p w → 0 < gi T (idx (f * r : Nat) 0 s p w) →
    (∃ m ∈ movesP f r T kind 0 s p w, m.2.2 ≠ -1 ∧ gi T m.2.2 = gi T (idx (f * r : Nat) 0 s p w) - 1) ∧ ∀ m ∈ movesP f r T kind 0 s p w, m.2.2 ≠ -1 → gi T m.2.2 = -1 ∨ gi T (idx (f * r : Nat) 0 s p w) - 1 ≤ gi T m.2.2
  vw : ∀ s p w, Val (f * r : Nat) 1 s p w → 0 < gi T (idx (f * r : Nat) 1 s p w) →
    (∃ m ∈ movesP f r T kind 1 s p w, m.2.2 ≠ -1 ∧ gi T m.2.2 = gi T (idx (f * r : Nat) 1 s p w) - 1) ∧ ∀ m ∈ movesP f r T kind 1 s p w, m.2.2 ≠ -1 ∧ 0 ≤ gi T m.2.2 ∧ gi T m.2.2 ≤ gi T (idx (f * r : Nat) 1 s p w) - 1
noncomputable def rowOf (f r : Nat) (kind : Int) (T P : List Int) (pl : Int) : List Int :=
  (movesP f r T kind (partsP (f * r : Nat) pl).1 (partsP (f * r : Nat) pl).2.1 (partsP (f * r : Nat) pl).2.2.1 (partsP (f * r : Nat) pl).2.2.2).map fun m => Wh P m.2.2
theorem table_ok {f r : Nat} {kind zone : Int} {T0 T vals : List Int} (hT0 : T0 = List.replicate (2 * (f * r) * (f * r) * (f * r)) (-2)) (hT : T.length = 2 * (f * r) * (f * r) * (f * r))
    (hdis : ∀ s ∈ iot (f * r), ∀ p ∈ iot (f * r), ∀ w ∈ iot (f * r), tb (freeP f r s p) w = true → w ≠ s ∧ w ≠ p)
    (S : Solved (placesM f r kind zone).length (fun k => bg ((placesM f r kind zone).map (rowOf f r kind (marked T0 (placesM f r kind zone)) (placesM f r kind zone))) k) ((placesM f r kind zone).map fun pl => (partsP (f * r : Nat) pl).1) vals)
    (hv : ∀ x : Int, 0 ≤ x → x < T.length → gi T x = if x ∈ placesM f r kind zone then gi vals (Wh (placesM f r kind zone) x) else gi (marked T0 (placesM f r kind zone)) x) : TableOk f r kind T := by
  have hPr : ∀ m ∈ placesM f r kind zone, 0 ≤ m ∧ m < 2 * (f * r : Nat) * (f * r : Nat) * (f * r : Nat) := fun m hm => placesM_range hm
  have hPl := placesM_len f r kind zone
  have hP2 : ∀ {m}, m ∈ placesM f r kind zone → _ := fun {m} hm => placesM_mem hm
  have hTl : (T.length : Int) = 2 * (f * r : Nat) * (f * r : Nat) * (f * r : Nat) := by rw [hT]; simp
  have hT0l : (T0.length : Int) = 2 * (f * r : Nat) * (f * r : Nat) * (f * r : Nat) := by rw [hT0]; simp
  generalize hP : placesM f r kind zone = P at *
  have hT0g : ∀ x : Int, 0 ≤ x → x < T.length → gi T0 x = -2 := fun x x0 x1 => by
    rw [hT0]; unfold gi; rw [List.getD_eq_getElem?_getD, List.getElem?_replicate, if_pos (by omega)]; rfl
  have hm : ∀ x : Int, 0 ≤ x → x < T.length → gi (marked T0 P) x = if x ∈ P then -1 else -2 := fun x x0 x1 => by
    rw [gi_marked (fun m hm => by have := hPr m hm; omega) x0, hT0g x x0 x1]
  have hin : ∀ x : Int, x ∈ P → 0 ≤ Wh P x ∧ Wh P x < P.length ∧ gi P (Wh P x) = x := fun x hx => Wh_mem hx (hPr x hx).1
  have hval : ∀ x : Int, 0 ≤ x → x < T.length → (x ∈ P → -1 ≤ gi T x ∧ gi T x < P.length) ∧ (x ∉ P → gi T x = -2) := fun x x0 x1 => by
    constructor
    · intro h
      rw [hv x x0 x1, if_pos h]
      exact S.rng _ (hin x h).1 (hin x h).2.1
    · intro h
      rw [hv x x0 x1, if_neg h, hm x x0 x1, if_neg h]
  have hne : ∀ x : Int, 0 ≤ x → x < T.length → (gi T x ≠ -2 ↔ x ∈ P) := fun x x0 x1 => by
    constructor
    · intro h
      by_cases c : x ∈ P
      · exact c
      · exact absurd ((hval x x0 x1).2 c) h
    · intro h q
      have := (hval x x0 x1).1 h
      omega
  have hsame : Same f r (marked T0 P) T := fun x x0 x1 => by
    rw [hm x x0 (by omega)]
    have := hne x x0 (by omega)
    by_cases c : x ∈ P
    · rw [if_pos c]
      exact ⟨fun q => absurd q (by decide), fun q => absurd q (this.mpr c)⟩
    · rw [if_neg c]
      exact ⟨fun _ => (hval x x0 (by omega)).2 c, fun _ => rfl⟩
  have hrow : ∀ side s p w, Val (f * r : Nat) side s p w → idx (f * r : Nat) side s p w ∈ P →
      bg (P.map (rowOf f r kind (marked T0 P) P)) (Wh P (idx (f * r : Nat) side s p w)) = (movesP f r T kind side s p w).map (fun m => Wh P m.2.2) ∧ gi (P.map fun pl => (partsP (f * r : Nat) pl).1) (Wh P (idx (f * r : Nat) side s p w)) = side := by
    intro side s p w V hx
    obtain ⟨h1, h2, h3⟩ := hin _ hx
    have h4 : P[(Wh P (idx (f * r : Nat) side s p w)).toNat]? = some (idx (f * r : Nat) side s p w) := by
      have h5 : (Wh P (idx (f * r : Nat) side s p w)).toNat < P.length := by omega
      unfold gi at h3
      rw [List.getD_eq_getElem?_getD, List.getElem?_eq_getElem h5] at h3
      rw [List.getElem?_eq_getElem h5]; exact congrArg some h3
    constructor
    · unfold bg
      rw [List.getD_eq_getElem?_getD, List.getElem?_map, h4]
      show rowOf f r kind (marked T0 P) P (idx (f * r : Nat) side s p w) = _
      unfold rowOf
      rw [V.parts, moves_same hsame V]
    · unfold gi
      rw [List.getD_eq_getElem?_getD, List.getElem?_map, h4]
      show (partsP (f * r : Nat) (idx (f * r : Nat) side s p w)).1 = _
      rw [V.parts]
  have hmv : ∀ side s p w, Val (f * r : Nat) side s p w → ∀ m ∈ movesP f r T kind side s p w, m.2.2 = -1 ∨ (m.2.2 ∈ P ∧ gi T m.2.2 = gi vals (Wh P m.2.2)) := by
    intro side s p w V m hm
    rcases (moves_to V hm).2 with h | ⟨h1, h2, h3⟩
    · exact .inl h
    · have h4 := (hne _ h1 (by omega)).mp h3
      exact .inr ⟨h4, by rw [hv _ h1 (by omega), if_pos h4]⟩
  have hW1 : ∀ x, Wh P x < 0 → x ∉ P := fun x h hx => by have := (hin x hx).1; omega
  refine ⟨hT, fun side s p w V => ?_, fun side s p w V h => ?_, fun s p w V h => ?_, fun s p w V h => ?_⟩; walk_at "zz"
  · have hx := V.lt
    by_cases c : idx (f * r : Nat) side s p w ∈ P
    · have := (hval _ hx.1 (by omega)).1 c; omega
    · have := (hval _ hx.1 (by omega)).2 c; omega
  · have hx := V.lt
    have hx' := (hne _ hx.1 (by omega)).mp h
    obtain ⟨side', s', p', w', e, h1, h2, h3, h4, h5, h6⟩ := hP2 hx'
    have V' := mkVal h1 h2 h3 h4
    have := idx_inj V V' e
    simp only [Prod.mk.injEq] at this
    obtain ⟨rfl, rfl, rfl, rfl⟩ := this
    exact ⟨h5, hdis _ h2 _ h3 _ h4 h6⟩
  · have hx := V.lt
    have hx' := (hne _ hx.1 (by omega)).mp (by omega)
    obtain ⟨r1, r2⟩ := hrow 0 s p w V hx'
    obtain ⟨w0, w1, _⟩ := hin _ hx'
    have e := hv _ hx.1 (by omega)
    rw [if_pos hx'] at e
    rw [e] at h ⊢
    obtain ⟨⟨k, k1, k2, k3, k4⟩, k5⟩ := S.vs _ w0 w1 h r2
    rw [r1] at k1 k5
    constructor
    · obtain ⟨m, hm, rfl⟩ := List.mem_map.mp k1
      refine ⟨m, hm, ?_⟩; walk_at "zz"
      rcases hmv 0 s p w V m hm with q | ⟨q1, q2⟩
      · rw [q] at k2; unfold Wh at k2; simp at k2
      · have := hPr _ q1
        exact ⟨by omega, by rw [q2]; exact k4⟩
    · intro m hm hm1
      rcases hmv 0 s p w V m hm with q | ⟨q1, q2⟩
      · exact absurd q hm1
      · rw [q2]
        exact k5 _ (List.mem_map.mpr ⟨m, hm, rfl⟩) (hin _ q1).1 (hin _ q1).2.1
  · have hx := V.lt
    have hx' := (hne _ hx.1 (by omega)).mp (by omega)
    obtain ⟨r1, r2⟩ := hrow 1 s p w V hx'
    obtain ⟨w0, w1, _⟩ := hin _ hx'
    have e := hv _ hx.1 (by omega)
    rw [if_pos hx'] at e
    rw [e] at h ⊢
    obtain ⟨⟨k, k1, k2, k3, k4⟩, k5⟩ := S.vw _ w0 w1 h (by rw [r2]; decide)
    rw [r1] at k1 k5
    constructor
    · obtain ⟨m, hm, rfl⟩ := List.mem_map.mp k1
      refine ⟨m, hm, ?_⟩; walk_at "zz"
      rcases hmv 1 s p w V m hm with q | ⟨q1, q2⟩
      · rw [q] at k2; unfold Wh at k2; simp at k2
      · have := hPr _ q1
        exact ⟨by omega, by rw [q2]; exact k4⟩
    · intro m hm
      obtain ⟨z1, z2, z3, z4⟩ := k5 _ (List.mem_map.mpr ⟨m, hm, rfl⟩)
      rcases hmv 1 s p w V m hm with q | ⟨q1, q2⟩
      · rw [q] at z1; unfold Wh at z1; simp at z1
      · have := hPr _ q1
        rw [q2]
        exact ⟨by omega, z3, z4⟩
open PySem PySem.W PyProof.Rows PySem.Calls

theorem tInvM {α : Type} {src : V} {xs : List α} {turn : V → Loc → HH → (Fl → Loc → HH → Prop) → Prop} {Q : Fl → Loc → HH → Prop} {l : Loc} {h : HH} (g : α → V) (Rep : Nat → Loc → HH → Prop)
    (hs : ∀ i l h, Rep i l h → items h src = some (xs.map g)) (h0 : Rep 0 l h)
    (step : ∀ i x l h (k : Fl → Loc → HH → Prop), xs[i]? = some x → Rep i l h → (∀ l h, Rep (i + 1) l h → k .next l h) → (∀ l h, Rep (i + 1) l h → k .cont l h) → turn (g x) l h k)
    (fin : ∀ l h, Rep xs.length l h → Q .next l h) : ∃ all, items h src = some all ∧ fLoop src all turn Q all l h := by
  refine tFold (vs := xs.map g) (fun _ _ => ()) () (fun i _ l h => Rep i l h) (fun i _ l h r => hs i l h r) h0 (fun i s x l h k hv r k1 k2 => ?_) (fun l h r => ?_); walk_at "zz"
  · rw [List.getElem?_map] at hv
    obtain ⟨y, hy, rfl⟩ := Option.map_eq_some_iff.mp hv
    exact step i y l h k hy r k1 k2
  · rw [List.length_map] at r
    exact fin l h r
structure Shp (f r : Nat) : Prop where
  ok : ShapeOk f r
  f1 : 1 < f
  r2 : 2 < r
  f9 : f < 9
  r5 : r < 5
  sz : f * r < 10
  dis : ∀ s ∈ iot (f * r), ∀ p ∈ iot (f * r), ∀ w ∈ iot (f * r), tb (freeP f r s p) w = true → w ≠ s ∧ w ≠ p
theorem pd1_ints {H : HH} {a : Nat} {l : List Int} (h : H a = some (.list (l.map V.int))) : pd1 H (.ref a) = some (.list (l.map PyData.int)) := by
  unfold pd1; simp only [h, pds0_ints]; rfl
theorem eRef {a b : Nat} {H : HH} {P : Bool → Prop} : eqV (.ref a) (.ref b) H P = ∃ da db, pd1 H (.ref a) = some da ∧ pd1 H (.ref b) = some db ∧ da.depth ≤ 8 ∧ db.depth ≤ 8 ∧ P (PyData.eqv da db) := rfl
theorem depth_ints (l : List Int) : (PyData.list (l.map PyData.int)).depth ≤ 8 := by
  have h : ∀ l : List Int, PyData.depthAll (l.map PyData.int) ≤ 1 := by
    intro l
    induction l with
    | nil => decide
    | cons x l ih => rw [List.map_cons, PyData.depthAll]; simp [PyData.depth]; exact ih
  rw [PyData.depth]; have := h l; omega
theorem idx_half (n s p w : Int) : idx n 1 s p w - n * n * n = idx n 0 s p w := by
  unfold idx; simp only [Int.add_mul, Int.mul_assoc, Int.add_assoc, Int.one_mul, Int.zero_mul]; omega
theorem tApp {Φ : Calls} {loc : Loc} {H : HH} {K : Fl → Loc → HH → Prop} {i l : Nat} {us : List V} {e : CE} {p1 p2 p3 p4 : Pos} (h1 : loc[i]? = some (some (.ref l))) (h2 : H l = some (.list us)) (q : wpE Φ e false loc H fun v H2 => apL H2 l v fun H3 => K .next loc H3) :
    wpS Φ (.app (.var i p1) e p2 p3 p4) loc H K := vget_mk h1 (⟨⟨us, h2⟩, q⟩ : (∃ us, H l = some (.list us)) ∧ _)
theorem lost_expr {Φ : Calls} {loc : Loc} {B H : HH} {L : List (Nat × CO)} {Q : V → HH → Prop} {side m hf : Int} {row tab iT : Nat} {rl : List Int} {T : List Int} {p1 p2 p3 p4 p5 p6 p7 p8 p9 p10 p11 p12 p13 p14 : Pos}
    (O : Own' B H ((row, .list (rl.map V.int)) :: L)) (hT : L[iT]? = some (tab, .list (T.map V.int))) (l12 : loc[12]? = some (some (.int side))) (l16 : loc[16]? = some (some (.ref row))) (l4 : loc[4]? = some (some (.ref tab))) (l11 : loc[11]? = some (some (.int m))) (l3 : loc[3]? = some (some (.int hf)))
    (hi : side = 1 → 0 ≤ m - hf ∧ small (m - hf) ∧ m - hf < T.length) (q : ∀ b H', Own' B H' ((row, .list (rl.map V.int)) :: L) → Q (.bool b) H') :
    wpE Φ (.bop .And (.cons (.cmp .Eq (.var 12 p1) (.gint 11 p2) p3) (.cons (.cmp .Eq (.var 16 p4) (.lst .nil p5) p6) (.cons (.cmp .Eq (.sub (.var 4 p7) (.bin .Sub (.var 11 p8) (.var 3 p9) p10) p11) (.gint 7 p12) p13) .nil))) p14) false loc H Q := by
  walk_at "zz"
  cases c1 : decide (side = 1) <;> walk_at "zz"
  · exact q _ _ O
  · intro e h_e; replace O := O.alloc (o := .list []) h_e; revert O; generalize HH.set _ e _ = H; intro O; walk_at "zz"
    simp only [eRef]
    refine ⟨_, _, pd1_ints (O.get 1 rfl), pd1_ints (l := []) (O.get 0 rfl), depth_ints _, depth_ints _, ?_⟩; walk_at "zz"
    have O' := O.sub (List.sublist_cons_self _ _)
    generalize PyData.eqv _ _ = b
    cases b <;> walk_at "zz"
    · exact q _ _ O'
    · have h := hi (of_decide_eq_true c1)
      refine sList (O'.get (iT + 1) hT) h.1 h.2.1 (gi_get (by omega)) ?_; walk_at "zz"
      walk_at "zz"
      exact q _ _ O'
theorem c_zone {n : Nat} {B : HH} {x f r : Nat} {kind zone : Int} {Q : V → HH → Prop} (Z : Shp f r) (G : GeoAt B x f r) (k0 : 2 ≤ kind) (k5 : kind ≤ 5)
    (q : ∀ H' tab T, Ext B H' → TableOk f r kind T → H' tab = some (.list (T.map V.int)) → Q (.ref tab) H') : wc (n + 9) 21 [.ref x, .int kind, .int zone] B Q := by
  refine ⟨D_build_zone, rfl, rfl, ?_⟩; walk_at "zz"
  change wpSs _ B_build_zone [some (.ref x), some (.int kind), some (.int zone), none, none, none, none, none, none, none, none, none, none, none, none, none, none, none, none, none, none] B _
  unfold B_build_zone
  have e0 : (f : Int) * r = ((f * r : Nat) : Int) := (Int.natCast_mul _ _).symm
  have sz := Z.sz
  have G0 := G
  obtain ⟨a, c, ra, rfl, hx, hdx, hki, _, _, _⟩ := G
  have szl' : (2000 : Nat) ≤ szl := by decide
  have n3 : 2 * (f * r) * (f * r) * (f * r) ≤ 2 * 9 * 9 * 9 := Nat.mul_le_mul (Nat.mul_le_mul (Nat.mul_le_mul (Nat.le_refl _) (by omega)) (by omega)) (by omega)
  have e3 : (2 * (((f * r : Nat) : Int) * (f * r : Nat) * (f * r : Nat)) : Int) = ((2 * (f * r) * (f * r) * (f * r) : Nat) : Int) := by simp [Int.mul_assoc]
  have O := Own'.nil B
  have t1 : decide (kind < 2) = false := decide_eq_false (by omega)
  have t2 : decide (5 < kind) = false := decide_eq_false (by omega)
  walk_at "zg"; (try simp only [t1, t2]); walk_at "zz"
  walk_at "zz"
  walk_at "zg"; (try simp only [e0]); walk_at "zz"
  refine ⟨.inr (by unfold small; omega), ?_⟩; walk_at "zz"
  rw [e0]
  refine ⟨.inr (by unfold small; omega), ?_⟩; walk_at "zz"
  walk_at "zg"
  intro z h_z; replace O := O.alloc (o := .list [.int (-2)]) h_z; revert O; generalize HH.set _ z _ = H; intro O; walk_at "zz"
  have hz := O.get 0 rfl
  walk_at "zz"; (try simp only [hz, e3]); walk_at "zz"
  refine ⟨.inl (by unfold small; omega), ?_⟩; walk_at "zz"
  refine ⟨by omega, Int.ofNat_le.mpr (Nat.le_trans n3 (by decide)), ?_⟩; walk_at "zz"
  intro tab h_tab; replace O := O.alloc (o := .list (List.replicate ((2 * (f * r) * (f * r) * (f * r) : Nat) : Int).toNat (.int (-2)))) h_tab; revert O; generalize HH.set _ tab _ = H; intro O; walk_at "zz"
  replace O := O.pick [0] (by decide)
  obtain ⟨T0, hT0⟩ : ∃ T0, T0 = List.replicate (2 * (f * r) * (f * r) * (f * r)) (-2 : Int) := ⟨_, rfl⟩
  replace O : Own' B H [(tab, .list (T0.map V.int))] := by rw [hT0, List.map_replicate]; exact O
  have hT0l : T0.length = 2 * (f * r) * (f * r) * (f * r) := by rw [hT0]; simp
  walk_at "zg"
  refine c_mark Z.ok G0 O hT0l sz k0 k5 fun H pl O => ?_; walk_at "zz"
  walk_at "zz"
  have hPr : ∀ m ∈ placesM f r kind zone, 0 ≤ m ∧ m < 2 * (f * r : Nat) * (f * r : Nat) * (f * r : Nat) := fun m hm => placesM_range hm
  have hPl := placesM_len f r kind zone
  have hP2 : ∀ {m}, m ∈ placesM f r kind zone → _ := fun {m} hm => placesM_mem hm
  have hPn := placesM_nodup f r kind zone
  have tk := fun T vals => @table_ok f r kind zone T0 T vals hT0
  have hT1l := marked_len (placesM f r kind zone) T0
  generalize hP : placesM f r kind zone = P at *
  obtain ⟨T1, hT1⟩ : ∃ T1, T1 = marked T0 P := ⟨_, rfl⟩
  rw [← hT1] at O hT1l tk
  walk_at "zg"
  refine ⟨rfl, _, rfl, ?_⟩; walk_at "zz"
  intro wh h_wh; replace O := O.alloc (o := .idict 1 fun j => if j = -1 then some (.int (-1)) else none) h_wh; revert O; generalize HH.set _ wh _ = H; intro O; walk_at "zz"
  have hp := O.get 1 rfl
  walk_at "zg"; (try simp only [hp]); walk_at "zz"
  have hnn : (f * r) * (f * r) * (f * r) ≤ 9 * 9 * 9 := Nat.mul_le_mul (Nat.mul_le_mul (by omega) (by omega)) (by omega)
  rw [List.length_map]
  refine ⟨by omega, (by unfold small; omega), tInv (xs := iot P.length) (fun i l h => (∃ o1, l = [some (.ref a.x), some (.int kind), some (.int zone), some (.int (((f * r : Nat) : Int) * (f * r : Nat) * (f * r : Nat))), some (.ref tab), some (.ref pl), some (.ref wh), o1, none, none, none, none, none, none, none, none, none, none, none, none, none]) ∧
      ∃ g : Int → Option V, g (-1) = some (.int (-1)) ∧ (∀ j : Nat, j < i → ∀ y, P[j]? = some y → g y = some (.int j)) ∧ Own' B h [(wh, .idict (1 + i) g), (pl, .list (P.map V.int)), (tab, .list (T1.map V.int))])
    (fun _ _ _ _ => congrArg some (rng_up _)) ⟨⟨_, rfl⟩, _, rfl, fun j hj => absurd hj (by omega), O⟩ (fun i x l H k hv hq1 k1 _ => ?_) (fun l H hq2 => ?_)⟩
  · obtain ⟨⟨o1, hl⟩, g, hg1, hg2, O⟩ := hq1
    obtain ⟨rfl, hi⟩ := iot_get hv
    subst hl
    walk_at "zz"
    have hPi := getD_get (d := 0) hi
    generalize P.getD i 0 = m at hPi
    have hmr := hPr m (List.mem_of_getElem? hPi)
    walk_at "zg"
    refine sList (O.get 1 rfl) (by omega) (by unfold small; omega) (show _ = some (.int m) by rw [List.getElem?_map, show (i : Int).toNat = i from rfl, hPi]; rfl) ?_; walk_at "zz"
    walk_at "zz"
    refine tWD (O.get 0 rfl) ?_; walk_at "zz"
    refine ⟨by omega, ?_⟩; walk_at "zz"
    (try refine Bx.mk ?_); (first | refine tPut1 O 0 rfl fun H O => ?_ | refine tPutK O 0 rfl fun H O => ?_); walk_at "zz"
    refine k1 _ _ ⟨⟨_, rfl⟩, _, ?_, ?_, O⟩
    · show (if (-1 : Int) = m then _ else _) = _
      rw [if_neg (by omega)]; exact hg1
    · intro j hj y hy
      show (if y = m then _ else _) = _
      by_cases e : y = m
      · subst e
        have : j = i := (List.getElem?_inj (List.getElem?_eq_some_iff.mp hy).1 hPn).mp (hy.trans hPi.symm)
        rw [if_pos rfl, this]
      · rw [if_neg e]
        refine hg2 j ?_ y hy
        rcases Nat.lt_or_ge j i with z | z
        · exact z
        · have : j = i := by omega
          subst this
          rw [hPi] at hy; cases hy; exact absurd rfl e
  obtain ⟨⟨o1, hl⟩, g, hg1, hg2, O⟩ := hq2
  subst hl
  walk_at "zz"
  rw [iot_len] at hg2
  have hgP : ∀ y ∈ P, g y = some (.int (Wh P y)) := fun y hy => by
    obtain ⟨j, hj⟩ := List.mem_iff_getElem?.mp hy
    rw [hg2 j (List.getElem?_eq_some_iff.mp hj).1 y hj, Wh_get hPn hj (hPr y hy).1]
  walk_at "zz"
  walk_at "zg"
  intro si h_si; replace O := O.alloc (o := .list []) h_si; revert O; generalize HH.set _ si _ = H; intro O; walk_at "zz"
  walk_at "zg"
  intro af h_af; replace O := O.alloc (o := .list []) h_af; revert O; generalize HH.set _ af _ = H; intro O; walk_at "zz"
  walk_at "zg"
  intro lo h_lo; replace O := O.alloc (o := .list []) h_lo; revert O; generalize HH.set _ lo _ = H; intro O; walk_at "zz"
  walk_at "zg"
  replace O : Own' B H [(lo, .list []), (af, .list []), (si, .list []), (wh, .idict (1 + P.length) g), (pl, .list (P.map V.int)), (tab, .list (T1.map V.int))] := by
    rw [iot_len] at O; exact O
  refine tInvM (xs := P) V.int (fun i l h => (∃ o7 o11 o12 o13 o14 o15 o16 o17 o18 o19, l = [some (.ref a.x), some (.int kind), some (.int zone), some (.int (((f * r : Nat) : Int) * (f * r : Nat) * (f * r : Nat))), some (.ref tab), some (.ref pl), some (.ref wh), o7, some (.ref si), some (.ref af), some (.ref lo), o11, o12, o13, o14, o15, o16, o17, o18, o19, none]) ∧
      ∃ (B' : HH) (ra : List Nat) (lst : List Bool), Ext B B' ∧ RaysAt B' ra ((P.take i).map (rowOf f r kind T1 P)) ∧ lst.length = i ∧
        Own' B' h [(lo, .list (lst.map V.bool)), (af, .list (ra.map V.ref)), (si, .list (((P.take i).map fun pl => (partsP (f * r : Nat) pl).1).map V.int)), (wh, .idict (1 + P.length) g), (pl, .list (P.map V.int)), (tab, .list (T1.map V.int))])
    (fun i l h ⟨_, _, _, _, _, _, _, O⟩ => items_list (O.get 4 rfl)) ⟨⟨_, _, _, _, _, _, _, _, _, _, rfl⟩, B, [], [], Ext.refl _, ⟨rfl, fun j ρ l e => by simp at e⟩, rfl, O⟩
    (fun i m l H k hv hq3 k1 _ => ?_) (fun l H hq4 => ?_)
  · obtain ⟨⟨o7, o11, o12, o13, o14, o15, o16, o17, o18, o19, hl⟩, B', ra, lst, E, RA, hlst, O⟩ := hq3
    subst hl
    walk_at "zz"
    have hi := (List.getElem?_eq_some_iff.mp hv).1
    have hmP := List.mem_of_getElem? hv
    obtain ⟨side, s, p, w, hm, h1, h2, h3, h4, h5, h6⟩ := hP2 hmP
    have VV := mkVal h1 h2 h3 h4
    have hpt := VV.parts
    rw [← hm] at hpt
    have hp2 := hpt
    unfold partsP at hp2
    simp only [Prod.mk.injEq] at hp2
    have hx' := O.ext _ _ (E _ _ hx)
    have hdx' := O.ext _ _ (E _ _ hdx)
    walk_at "zg"; (try simp only [e0]); walk_at "zz"
    refine c_parts (size := (f * r : Nat)) (by have := VV.s0; have := VV.s1; omega) (by omega) ?_; walk_at "zz"
    rw [hp2.1, hp2.2.1, hp2.2.2.1, hp2.2.2.2]
    walk_at "zz"
    walk_at "zg"
    intro row h_row; replace O := O.alloc (o := .list []) h_row; revert O; generalize HH.set _ row _ = H; intro O; walk_at "zz"
    walk_at "zg"
    refine c_moves Z.ok ((G0.ext E).ext O.ext) (O.get 6 rfl) (hT1l.trans hT0l) sz k0 k5 VV.s0 VV.s1 VV.p0 VV.p1 VV.w0 VV.w1 fun H' c N => ?_; walk_at "zz"
    replace O := O.comp N
    clear N
    have hmt := fun mv h => @moves_to f r T1 kind side s p w VV mv h
    have hml := moves_len f r T1 kind side s p w
    have hro : rowOf f r kind T1 P m = (movesP f r T1 kind side s p w).map fun m => Wh P m.2.2 := by unfold rowOf; rw [hpt]
    generalize movesP f r T1 kind side s p w = M at O hmt hml hro
    walk_at "zz"
    refine tInvM (xs := M) mvV (fun j l h => (∃ o17 o18 o19, l = [some (.ref a.x), some (.int kind), some (.int zone), some (.int (((f * r : Nat) : Int) * (f * r : Nat) * (f * r : Nat))), some (.ref tab), some (.ref pl), some (.ref wh), o7, some (.ref si), some (.ref af), some (.ref lo), some (.int m), some (.int side), some (.int s), some (.int p), some (.int w), some (.ref row), o17, o18, o19, none]) ∧
        Own' B' h [(c, .list (M.map mvV)), (row, .list (((M.take j).map fun m => Wh P m.2.2).map V.int)), (lo, .list (lst.map V.bool)), (af, .list (ra.map V.ref)), (si, .list (((P.take i).map fun pl => (partsP (f * r : Nat) pl).1).map V.int)), (wh, .idict (1 + P.length) g), (pl, .list (P.map V.int)), (tab, .list (T1.map V.int))])
      (fun _ _ _ ⟨_, O⟩ => items_list (O.get 0 rfl)) ⟨⟨_, _, _, rfl⟩, O⟩ (fun j mv l H k hvj hq5 k1 _ => ?_) (fun l H hq6 => ?_)
    · obtain ⟨⟨o17, o18, o19, hl⟩, O⟩ := hq5
      subst hl
      walk_at "zz"
      have hj := (List.getElem?_eq_some_iff.mp hvj).1
      have hg : g mv.2.2 = some (.int (Wh P mv.2.2)) := by
        rcases (hmt mv (List.mem_of_getElem? hvj)).2 with z | ⟨z1, z2, z3⟩
        · rw [z]; exact hg1
        · refine hgP _ ?_; walk_at "zz"
          by_cases c : mv.2.2 ∈ P
          · exact c
          · have hT0l' : (T0.length : Int) = 2 * (f * r : Nat) * (f * r : Nat) * (f * r : Nat) := by rw [hT0l]; simp
            rw [hT1, gi_marked (fun m hm => by have := hPr m hm; omega) z1, if_neg c, hT0] at z3
            unfold gi at z3
            rw [List.getD_eq_getElem?_getD, List.getElem?_replicate, if_pos (by omega)] at z3
            exact absurd rfl z3
      have ho := O.get 1 rfl
      unfold mvV
      walk_at "zz"
      walk_at "zg"
      refine sDict (O.get 5 rfl) hg ?_; walk_at "zz"
      walk_at "zz"
      refine ⟨by simp only [List.length_map, List.length_take]; omega, ?_⟩; walk_at "zz"
      (try refine Bx.mk ?_); (first | refine tPut1 O 1 rfl fun H O => ?_ | refine tPutK O 1 rfl fun H O => ?_); walk_at "zz"
      refine k1 _ _ ⟨⟨_, _, _, rfl⟩, ?_⟩; walk_at "zz"
      rw [List.take_add_one, hvj, List.map_append, List.map_append]
      exact O
    obtain ⟨⟨o17, o18, o19, hl⟩, O⟩ := hq6
    subst hl
    walk_at "zz"
    rw [List.take_length] at O
    rw [← hro] at O
    walk_at "zz"
    have ho := O.get 4 rfl
    walk_at "zg"
    refine ⟨by simp only [List.length_map, List.length_take]; omega, ?_⟩; walk_at "zz"
    (try refine Bx.mk ?_); (first | refine tPut1 O 4 rfl fun H O => ?_ | refine tPutK O 4 rfl fun H O => ?_); walk_at "zz"
    have ho := O.get 3 rfl
    have lra : ra.length = i := by rw [RA.1, List.length_map, List.length_take]; omega
    walk_at "zg"
    refine ⟨by rw [List.length_map]; omega, ?_⟩; walk_at "zz"
    (try refine Bx.mk ?_); (first | refine tPut1 O 3 rfl fun H O => ?_ | refine tPutK O 3 rfl fun H O => ?_); walk_at "zz"
    refine tK (tApp rfl (O.get 2 rfl) ?_ )
    refine lost_expr (iT := 6) (O.pick [1, 0, 2, 3, 4, 5, 6, 7] (by decide)) rfl rfl rfl rfl rfl rfl ?_ fun b H O => ?_; walk_at "zz"
    · intro hs
      rw [hm, hs, idx_half]
      obtain ⟨i0, i1, i2⟩ := idx_small (side := 0) sz (hT1l.trans hT0l) (by decide) (by decide) VV.s0 VV.s1 VV.p0 VV.p1 VV.w0 VV.w1
      refine ⟨i0, i1, ?_⟩; walk_at "zz"
      have h := (List.getElem?_eq_some_iff.mp i2).1
      rw [List.length_map] at h
      omega
    · refine ⟨_, O.get 2 rfl, by rw [List.length_map]; omega, ?_⟩; walk_at "zz"
      walk_at "zz"
      (try refine Bx.mk ?_); (first | refine tPut1 O 2 rfl fun H O => ?_ | refine tPutK O 2 rfl fun H O => ?_); walk_at "zz"
      replace O := O.pick [0, 2, 3, 4, 5, 6, 7] (by decide)
      have hn := O.isnew
      replace O := O.freeze
      refine k1 _ _ ⟨⟨_, _, _, _, _, _, _, _, _, _, rfl⟩, _, ra ++ [row], lst ++ [b], E.trans (Ext.ofnew (o := .list ((rowOf f r kind T1 P m).map V.int)) hn), ?_, by simp [hlst], ?_⟩; walk_at "zz"
      · rw [List.take_add_one, hv, List.map_append]
        exact RA.snoc (Ext.ofnew hn) (set_same _ _ _)
      · rw [List.take_add_one, hv, List.map_append, List.map_append, List.map_append, List.map_append]
        show Own' _ _ [(lo, _), (af, _), (si, .list (_ ++ [V.int (partsP (f * r : Nat) m).1])), _, _, _]
        rw [hpt]
        exact O
  · obtain ⟨⟨o7, o11, o12, o13, o14, o15, o16, o17, o18, o19, hl⟩, B', ra, lst, E, RA, hlst, O⟩ := hq4
    subst hl
    walk_at "zz"
    rw [List.take_length] at RA O
    walk_at "zz"
    walk_at "zg"
    have lra : ra.length = P.length := by rw [RA.1, List.length_map]
    have hT0l' : (T0.length : Int) = 2 * (f * r : Nat) * (f * r : Nat) * (f * r : Nat) := by rw [hT0l]; simp
    have hR : ∀ k : Int, 0 ≤ k → k < P.length → ∀ e ∈ bg (P.map (rowOf f r kind T1 P)) k, e = -1 ∨ (0 ≤ e ∧ e < P.length) := by
      intro k k0 k1 e he
      have hk : k.toNat < P.length := by omega
      unfold bg at he
      rw [List.getD_eq_getElem?_getD, List.getElem?_map, List.getElem?_eq_getElem hk] at he
      replace he : e ∈ rowOf f r kind T1 P P[k.toNat] := he
      obtain ⟨side, s, p, w, hm, h1, h2, h3, h4, h5, h6⟩ := hP2 (List.getElem_mem hk)
      have VV := mkVal h1 h2 h3 h4
      have hpt := VV.parts
      rw [← hm] at hpt
      unfold rowOf at he
      rw [hpt] at he
      obtain ⟨mv, hmv, rfl⟩ := List.mem_map.mp he
      rcases (moves_to VV hmv).2 with z | ⟨z1, z2, z3⟩
      · left; rw [z]; rfl
      · right
        have hin : mv.2.2 ∈ P := by
          by_cases c : mv.2.2 ∈ P
          · exact c
          · rw [hT1, gi_marked (fun m hm => by have := hPr m hm; omega) z1, if_neg c, hT0] at z3
            unfold gi at z3
            rw [List.getD_eq_getElem?_getD, List.getElem?_replicate, if_pos (by omega)] at z3
            exact absurd rfl z3
        have := Wh_mem hin z1
        exact ⟨this.1, this.2.1⟩
    have hL : ∀ k : Int, (bg (P.map (rowOf f r kind T1 P)) k).length ≤ 100 := by
      intro k
      unfold bg
      rw [List.getD_eq_getElem?_getD, List.getElem?_map]
      cases hk : P[k.toNat]? with
      | none => simp
      | some pl =>
        show (rowOf f r kind T1 P pl).length ≤ 100
        unfold rowOf
        rw [List.length_map]
        have := moves_len f r T1 kind (partsP (f * r : Nat) pl).1 (partsP (f * r : Nat) pl).2.1 (partsP (f * r : Nat) pl).2.2.1 (partsP (f * r : Nat) pl).2.2.2
        omega
    have SI : SolveIn H si af lo P.length (P.map fun pl => (partsP (f * r : Nat) pl).1) ra (P.map (rowOf f r kind T1 P)) lst :=
      ⟨O.get 2 rfl, O.get 1 rfl, O.get 0 rfl, RA.ext O.ext, by simp, by simp, hlst, hR, hL, by omega⟩
    refine c_solve SI fun H' va vals S N => ?_; walk_at "zz"
    replace O := O.comp N
    clear N
    walk_at "zz"
    have hp := O.get 5 rfl
    walk_at "zg"; (try simp only [hp]); walk_at "zz"
    rw [List.length_map]
    refine ⟨by omega, (by unfold small; omega), tInv (xs := iot P.length) (fun i l h => (∃ o7, l = [some (.ref a.x), some (.int kind), some (.int zone), some (.int (((f * r : Nat) : Int) * (f * r : Nat) * (f * r : Nat))), some (.ref tab), some (.ref pl), some (.ref wh), o7, some (.ref si), some (.ref af), some (.ref lo), o11, o12, o13, o14, o15, o16, o17, o18, o19, some (.ref va)]) ∧
        ∃ T : List Int, T.length = T1.length ∧ (∀ x : Int, 0 ≤ x → x < T.length → gi T x = if x ∈ P.take i then gi vals (Wh P x) else gi T1 x) ∧
          Own' B' h [(va, .list (vals.map V.int)), (lo, .list (lst.map V.bool)), (af, .list (ra.map V.ref)), (si, .list ((P.map fun pl => (partsP (f * r : Nat) pl).1).map V.int)), (wh, .idict (1 + P.length) g), (pl, .list (P.map V.int)), (tab, .list (T.map V.int))])
      (fun _ _ _ _ => congrArg some (rng_up _)) ⟨⟨_, rfl⟩, T1, rfl, fun x _ _ => by simp, O⟩ (fun i y l H k hv hq7 k1 _ => ?_) (fun l H hq8 => ?_)⟩
    · obtain ⟨⟨o7, hl⟩, T, hTl, hTv, O⟩ := hq7
      obtain ⟨rfl, hi⟩ := iot_get hv
      subst hl
      walk_at "zz"
      have hPi := getD_get (d := 0) hi
      generalize P.getD i 0 = m at hPi
      have hmP := List.mem_of_getElem? hPi
      have hmr := hPr m hmP
      walk_at "zg"
      refine sList (O.get 0 rfl) (by omega) (by unfold small; omega) (gi_get (by rw [S.len]; exact hi)) ?_; walk_at "zz"
      walk_at "zz"
      refine sList (O.get 5 rfl) (by omega) (by unfold small; omega) (show _ = some (.int m) by rw [List.getElem?_map, show (i : Int).toNat = i from rfl, hPi]; rfl) ?_; walk_at "zz"
      walk_at "zz"
      refine tWI (O.get 6 rfl) ?_; walk_at "zz"
      refine ⟨by omega, by rw [List.length_map]; omega, (by unfold small; omega), ?_⟩; walk_at "zz"
      (try refine Bx.mk ?_); (first | refine tPut1 O 6 rfl fun H O => ?_ | refine tPutK O 6 rfl fun H O => ?_); walk_at "zz"
      rw [← List.map_set] at O
      refine k1 _ _ ⟨⟨_, rfl⟩, _, by rw [List.length_set]; exact hTl, fun x x0 x1 => ?_, O⟩
      rw [List.length_set] at x1
      rw [gi_set hmr.1 (by omega) x0, List.take_add_one, hPi]
      have hmem : x ∈ P.take i ++ (some m).toList ↔ x ∈ P.take i ∨ x = m := by simp
      by_cases e : x = m
      · rw [if_pos e, if_pos (hmem.mpr (.inr e)), e, Wh_get hPn hPi hmr.1]
      · rw [if_neg e, hTv x x0 x1]
        by_cases c : x ∈ P.take i
        · rw [if_pos c, if_pos (hmem.mpr (.inl c))]
        · rw [if_neg c, if_neg fun h => (hmem.mp h).elim c e]
    · obtain ⟨⟨o7, hl⟩, T, hTl, hTv, O⟩ := hq8
      subst hl
      walk_at "zz"
      rw [iot_len, List.take_length] at hTv
      walk_at "zz"
      walk_at "zg"
      exact q _ tab T (E.trans O.ext) (tk T vals (hTl.trans (hT1l.trans hT0l)) Z.dis S hTv) (O.get 6 rfl)
open PySem PySem.W PyProof.Rows PySem.Calls

noncomputable def told (T : List Int) (m : Mv) : Int := if m.2.2 = -1 then -1 else gi T m.2.2
noncomputable def wo (L side t : Int) : Int := if side = 0 then -(if t = -1 then L else t) else if t = -1 then L else t
noncomputable def stepB (L side : Int) (T : List Int) (acc : Option (Mv × Int)) (m : Mv) : Option (Mv × Int) := match acc with
  | none => some (m, wo L side (told T m))
  | some (b, top) => if top < wo L side (told T m) then some (m, wo L side (told T m)) else some (b, top)
noncomputable def bestA (L side : Int) (T : List Int) (M : List Mv) : Option (Mv × Int) := M.foldl (stepB L side T) none
theorem fold_pre {L side : Int} {T : List Int} {W : Int} : ∀ (M : List Mv) (acc : Option (Mv × Int)), (∀ x ∈ M, wo L side (told T x) < W) → (acc = none ∨ ∃ b t, acc = some (b, t) ∧ t < W) → (M.foldl (stepB L side T) acc = none ∨ ∃ b t, M.foldl (stepB L side T) acc = some (b, t) ∧ t < W)
  | [], acc, _, h => h
  | m :: M, acc, h, ha => by
    refine fold_pre M _ (fun x hx => h x (List.mem_cons_of_mem _ hx)) (.inr ?_); walk_at "zz"
    have hm := h m List.mem_cons_self
    rcases ha with rfl | ⟨b, t, rfl, ht⟩
    · exact ⟨m, _, rfl, hm⟩
    · unfold stepB
      dsimp only
      split
      · exact ⟨m, _, rfl, hm⟩
      · exact ⟨b, t, rfl, ht⟩
theorem fold_post {L side : Int} {T : List Int} {m : Mv} {W : Int} : ∀ (M : List Mv), (∀ x ∈ M, wo L side (told T x) ≤ W) → M.foldl (stepB L side T) (some (m, W)) = some (m, W)
  | [], _ => rfl
  | x :: M, h => by
    rw [List.foldl_cons]
    have hx := h x List.mem_cons_self
    have : stepB L side T (some (m, W)) x = some (m, W) := by unfold stepB; dsimp only; rw [if_neg (by omega)]
    rw [this]
    exact fold_post M fun y hy => h y (List.mem_cons_of_mem _ hy)
theorem bestA_first {L side : Int} {T : List Int} {pre post : List Mv} {m : Mv} (h1 : ∀ x ∈ pre, wo L side (told T x) < wo L side (told T m)) (h2 : ∀ x ∈ post, wo L side (told T x) ≤ wo L side (told T m)) :
    bestA L side T (pre ++ m :: post) = some (m, wo L side (told T m)) := by
  unfold bestA
  rw [List.foldl_append, List.foldl_cons]
  have : stepB L side T (pre.foldl (stepB L side T) none) m = some (m, wo L side (told T m)) := by
    rcases fold_pre pre none h1 (.inl rfl) with h | ⟨b, t, h, ht⟩
    · rw [h]; rfl
    · rw [h]; unfold stepB; dsimp only; rw [if_pos ht]
  rw [this]
  exact fold_post post h2
theorem idxOf_before {b : Int} : ∀ (l : List Int) (j : Nat), j < l.idxOf b → l[j]? ≠ some b
  | [], j, _ => by simp
  | x :: l, 0, h => by
    intro e
    cases e
    rw [List.idxOf_cons_self] at h; omega
  | x :: l, j + 1, h => by
    rw [List.idxOf_cons] at h
    rw [List.getElem?_cons_succ]
    cases e : (x == b) with
    | true => rw [e] at h; simp at h
    | false => rw [e] at h; exact idxOf_before l j (by simpa using h)
/-- the choice that the law makes: the told number of the best row -/
noncomputable def PickB (side : Int) (l : List Int) (b : Int) : Prop := b ∈ l ∧ if side = 0 then ((∃ x ∈ l, 0 ≤ x) → 0 ≤ b ∧ ∀ x ∈ l, 0 ≤ x → b ≤ x) else ((-1 ∈ l → b = -1) ∧ (-1 ∉ l → ∀ x ∈ l, x ≤ b))
theorem pick_best {L side b : Int} {T : List Int} {M : List Mv} {m : Mv} (hL : ∀ x ∈ M, -1 ≤ told T x ∧ told T x < L) (h : PickB side (M.map (told T)) b) (hm : M[(M.map (told T)).idxOf b]? = some m) :
    bestA L side T M = some (m, wo L side (told T m)) ∧ told T m = b := by
  obtain ⟨hb, hB⟩ := h
  have hi := List.idxOf_lt_length_iff.mpr hb
  have ht : told T m = b := by
    have h1 : (M.map (told T))[(M.map (told T)).idxOf b]? = some (told T m) := by rw [List.getElem?_map, hm]; rfl
    rw [List.getElem?_eq_getElem hi, List.getElem_idxOf] at h1
    cases h1; rfl
  refine ⟨?_, ht⟩
  have hmM := List.mem_of_getElem? hm
  have hbL := hL m hmM
  rw [ht] at hbL
  have hle : ∀ x ∈ M, told T x ≠ b → wo L side (told T x) < wo L side b := by
    intro x hx ne
    have hxl : told T x ∈ M.map (told T) := List.mem_map.mpr ⟨x, hx, rfl⟩
    have hxL := hL x hx
    unfold wo
    by_cases s : side = 0
    · rw [if_pos s] at hB ⊢
      rw [if_pos s]
      by_cases e1 : told T x = -1
      · rw [if_pos e1, if_neg (by omega)]; omega
      · rw [if_neg e1]
        have h1 := hB ⟨_, hxl, by omega⟩
        rw [if_neg (by omega)]
        have := h1.2 _ hxl (by omega)
        omega
    · rw [if_neg s] at hB ⊢
      rw [if_neg s]
      by_cases e1 : told T x = -1
      · rw [e1] at hxl; exact absurd (e1.trans (hB.1 hxl).symm) ne
      · rw [if_neg e1]
        by_cases e2 : b = -1
        · rw [if_pos e2]; omega
        · rw [if_neg e2]
          have : -1 ∉ M.map (told T) := fun q => e2 (hB.1 q)
          have := hB.2 this _ hxl
          omega
  have hsplit : M = M.take ((M.map (told T)).idxOf b) ++ m :: M.drop ((M.map (told T)).idxOf b + 1) := by
    rw [List.length_map] at hi
    have : M[(M.map (told T)).idxOf b] = m := by rw [List.getElem?_eq_getElem hi] at hm; cases hm; rfl
    rw [← this, List.getElem_cons_drop, List.take_append_drop]
  have key := @bestA_first L side T (M.take ((M.map (told T)).idxOf b)) (M.drop ((M.map (told T)).idxOf b + 1)) m (fun x hx => ?_) (fun x hx => ?_)
  · rw [← hsplit] at key; exact key
  · obtain ⟨j, hj⟩ := List.mem_iff_getElem?.mp hx
    rw [List.getElem?_take] at hj
    split at hj
    · rename_i q
      rw [ht]
      refine hle x (List.mem_of_getElem? hj) fun e => idxOf_before _ j q ?_; walk_at "zz"
      rw [List.getElem?_map, hj]; exact congrArg some e
    · cases hj
  · have hxM := List.mem_of_mem_drop hx
    rw [ht]
    by_cases e : told T x = b
    · rw [e]; omega
    · exact Int.le_of_lt (hle x hxM e)
theorem pick_ex {side : Int} {l : List Int} (h : l ≠ []) : ∃ b, PickB side l b := by
  have hmax : ∀ l : List Int, l ≠ [] → ∃ b ∈ l, ∀ x ∈ l, x ≤ b := by
    intro l h
    induction l with
    | nil => exact absurd rfl h
    | cons x l ih =>
      by_cases e : l = []
      · subst e; exact ⟨x, by simp, by simp⟩
      · obtain ⟨b, hb, hb2⟩ := ih e
        by_cases c : x ≤ b
        · exact ⟨b, by simp [hb], fun y hy => (List.mem_cons.mp hy).elim (fun e => e ▸ c) (hb2 y)⟩
        · exact ⟨x, by simp, fun y hy => by
            rcases List.mem_cons.mp hy with rfl | hy
            · exact Int.le_refl _
            · have := hb2 y hy; omega⟩
  have hmin : ∀ l : List Int, l ≠ [] → ∃ b ∈ l, ∀ x ∈ l, b ≤ x := by
    intro l h
    obtain ⟨b, hb, hb2⟩ := hmax (l.map fun x => -x) (by simpa using h)
    obtain ⟨y, hy, rfl⟩ := List.mem_map.mp hb
    exact ⟨y, hy, fun x hx => by have := hb2 (-x) (List.mem_map.mpr ⟨x, hx, rfl⟩); omega⟩
  by_cases s : side = 0
  · by_cases e : l.filter (fun x => decide (0 ≤ x)) = []
    · obtain ⟨b, hb⟩ := List.exists_mem_of_ne_nil l h
      refine ⟨b, hb, ?_⟩; walk_at "zz"
      rw [if_pos s]
      rintro ⟨x, hx, hx0⟩
      have : x ∈ l.filter (fun x => decide (0 ≤ x)) := List.mem_filter.mpr ⟨hx, decide_eq_true hx0⟩
      rw [e] at this; cases this
    · obtain ⟨b, hb, hb2⟩ := hmin _ e
      have h1 := List.mem_filter.mp hb
      refine ⟨b, h1.1, ?_⟩; walk_at "zz"
      rw [if_pos s]
      exact fun _ => ⟨of_decide_eq_true h1.2, fun x hx hx0 => hb2 x (List.mem_filter.mpr ⟨hx, decide_eq_true hx0⟩)⟩
  · by_cases e : -1 ∈ l
    · exact ⟨-1, e, by rw [if_neg s]; exact ⟨fun _ => rfl, fun h => absurd e h⟩⟩
    · obtain ⟨b, hb, hb2⟩ := hmax l h
      exact ⟨b, hb, by rw [if_neg s]; exact ⟨fun h => absurd h e, fun _ => hb2⟩⟩
noncomputable abbrev Pl := Int × Int × Int × Int
noncomputable def nextP (q : Pl) (m : Mv) : Pl := if m.1 = q.2.1 then (1 - q.1, m.2.1, q.2.2.1, q.2.2.2) else if m.1 = q.2.2.1 then (1 - q.1, q.2.1, m.2.1, q.2.2.2) else (1 - q.1, q.2.1, q.2.2.1, m.2.1)
noncomputable def VPl (n : Int) (q : Pl) : Prop := Val n q.1 q.2.1 q.2.2.1 q.2.2.2
noncomputable def ix (n : Int) (q : Pl) : Int := idx n q.1 q.2.1 q.2.2.1 q.2.2.2
noncomputable def mvs (f r : Nat) (T : List Int) (kind : Int) (q : Pl) : List Mv := movesP f r T kind q.1 q.2.1 q.2.2.1 q.2.2.2
theorem moves_next {f r : Nat} {T : List Int} {kind : Int} {q : Pl} (V : VPl (f * r : Nat) q) (hd : q.2.2.1 ≠ q.2.1 ∧ q.2.2.2 ≠ q.2.1 ∧ q.2.2.2 ≠ q.2.2.1) {m : Mv} (h : m ∈ mvs f r T kind q) (h1 : m.2.2 ≠ -1) :
    VPl (f * r : Nat) (nextP q m) ∧ m.2.2 = ix (f * r : Nat) (nextP q m) := by
  obtain ⟨side, s, p, w⟩ := q
  unfold mvs movesP at h
  unfold VPl at V
  dsimp only at V h hd ⊢
  unfold VPl ix nextP
  dsimp only
  split at h
  · rename_i hs
    subst hs
    obtain ⟨g, hg, h⟩ := List.mem_flatMap.mp h
    rw [iot_mem_iff] at hg
    unfold weakF at h
    split at h
    · split at h
      · split at h
        · cases h
        · cases List.mem_singleton.mp h; exact absurd rfl h1
      · split at h
        · cases h
        · cases List.mem_singleton.mp h
          rw [if_neg hd.2.1, if_neg hd.2.2]
          exact ⟨⟨by dsimp only; omega, by dsimp only; omega, V.s0, V.s1, V.p0, V.p1, hg.1, hg.2⟩, rfl⟩
    · cases h
  · rename_i hs
    have hs0 : side = 0 := by have := V.a0; have := V.a1; omega
    subst hs0
    rcases List.mem_append.mp h with h | h
    · obtain ⟨g, hg, h⟩ := List.mem_flatMap.mp h
      rw [iot_mem_iff] at hg
      unfold strongK at h
      split at h
      · split at h
        · cases h
        · cases List.mem_singleton.mp h
          rw [if_pos rfl]
          exact ⟨⟨by dsimp only; omega, by dsimp only; omega, hg.1, hg.2, V.p0, V.p1, V.w0, V.w1⟩, rfl⟩
      · cases h
    · obtain ⟨g, hg, h⟩ := List.mem_flatMap.mp h
      rw [iot_mem_iff] at hg
      unfold strongS at h
      split at h
      · split at h
        · cases h
        · cases List.mem_singleton.mp h
          rw [if_neg hd.1, if_pos rfl]
          exact ⟨⟨by dsimp only; omega, by dsimp only; omega, V.s0, V.s1, hg.1, hg.2, V.w0, V.w1⟩, rfl⟩
      · cases h
/-- the play: i moves of the best, and where they lead -/
noncomputable def play (f r : Nat) (T : List Int) (kind : Int) : Nat → Pl → Pl × List (Int × Int)
  | 0, q => (q, [])
  | i + 1, q => match bestA T.length (play f r T kind i q).1.1 T (mvs f r T kind (play f r T kind i q).1) with
    | some (m, _) => (nextP (play f r T kind i q).1 m, (play f r T kind i q).2 ++ [(m.1, m.2.1)])
    | none => play f r T kind i q
theorem told_rng {f r : Nat} {T : List Int} {kind : Int} (K : TableOk f r kind T) {q : Pl} (V : VPl (f * r : Nat) q) (hd : q.2.2.1 ≠ q.2.1 ∧ q.2.2.2 ≠ q.2.1 ∧ q.2.2.2 ≠ q.2.2.1) : ∀ x ∈ mvs f r T kind q, -1 ≤ told T x ∧ told T x < T.length := by
  intro x hx
  have hTl : (T.length : Int) = 2 * (f * r : Nat) * (f * r : Nat) * (f * r : Nat) := by rw [K.len]; simp
  unfold told
  by_cases c : x.2.2 = -1
  · rw [if_pos c]
    have := V.lt
    unfold VPl at V
    omega
  · rw [if_neg c]
    obtain ⟨V', e⟩ := moves_next V hd hx c
    rcases (moves_to V hx).2 with z | ⟨z1, z2, z3⟩
    · exact absurd z c
    · have := K.rng _ _ _ _ V'
      rw [e] at z3 ⊢
      unfold ix at z3 ⊢
      omega
/-- in a won place the best move is a step nearer -/
theorem best_won {f r : Nat} {T : List Int} {kind : Int} (K : TableOk f r kind T) {q : Pl} (V : VPl (f * r : Nat) q) (h : 0 < gi T (ix (f * r : Nat) q)) :
    ∃ m W, bestA T.length q.1 T (mvs f r T kind q) = some (m, W) ∧ m ∈ mvs f r T kind q ∧ m.2.2 ≠ -1 ∧ VPl (f * r : Nat) (nextP q m) ∧ m.2.2 = ix (f * r : Nat) (nextP q m) ∧ gi T (ix (f * r : Nat) (nextP q m)) = gi T (ix (f * r : Nat) q) - 1 := by
  have hd := K.dis _ _ _ _ V (by unfold ix at h; omega)
  have hr := told_rng K V hd
  have side : q.1 = 0 ∨ q.1 = 1 := by have := V.a0; have := V.a1; omega
  have hex : ∃ x ∈ mvs f r T kind q, x.2.2 ≠ -1 ∧ gi T x.2.2 = gi T (ix (f * r : Nat) q) - 1 := by
    obtain ⟨side', s, p, w⟩ := q
    rcases side with z | z <;> dsimp only at z <;> subst z
    · exact (K.vs s p w V h).1
    · exact (K.vw s p w V h).1
  obtain ⟨x, hx, hx1, hx2⟩ := hex
  have hne : (mvs f r T kind q).map (told T) ≠ [] := by
    intro e
    rw [List.map_eq_nil_iff.mp e] at hx; cases hx
  obtain ⟨b, hb⟩ := pick_ex (side := q.1) hne
  have hi := List.idxOf_lt_length_iff.mpr hb.1
  rw [List.length_map] at hi
  obtain ⟨m, hm⟩ : ∃ m, (mvs f r T kind q)[((mvs f r T kind q).map (told T)).idxOf b]? = some m := ⟨_, List.getElem?_eq_getElem hi⟩
  obtain ⟨h1, h2⟩ := pick_best hr hb hm
  have hmM := List.mem_of_getElem? hm
  have htx : told T x = gi T (ix (f * r : Nat) q) - 1 := by unfold told; rw [if_neg hx1, hx2]
  have hxl : told T x ∈ (mvs f r T kind q).map (told T) := List.mem_map.mpr ⟨x, hx, rfl⟩
  have hbv : b = gi T (ix (f * r : Nat) q) - 1 := by
    obtain ⟨hb1, hb2⟩ := hb
    obtain ⟨y, hy, hyb⟩ := List.mem_map.mp hb1
    obtain ⟨side', s, p, w⟩ := q
    rcases side with z | z <;> dsimp only at z <;> subst z
    · rw [if_pos rfl] at hb2
      obtain ⟨c1, c2⟩ := hb2 ⟨_, hxl, by omega⟩
      have c3 := c2 _ hxl (by omega)
      have c4 := (K.vs s p w V h).2 y hy
      unfold told at hyb
      split at hyb
      · omega
      · rename_i hy1
        have c5 := c4 hy1
        unfold ix at *
        dsimp only at *
        omega
    · rw [if_neg (by dsimp only; decide)] at hb2
      have c4 := (K.vw s p w V h).2
      have c5 : -1 ∉ (mvs f r T kind (1, s, p, w)).map (told T) := by
        intro e
        obtain ⟨z, hz, hze⟩ := List.mem_map.mp e
        have := c4 z hz
        unfold told at hze
        rw [if_neg this.1] at hze
        omega
      have c6 := hb2.2 c5 _ hxl
      have c7 := c4 y hy
      unfold told at hyb
      rw [if_neg c7.1] at hyb
      unfold ix at *
      dsimp only at *
      omega
  have hm1 : m.2.2 ≠ -1 := by
    intro e
    unfold told at h2
    rw [if_pos e] at h2
    omega
  obtain ⟨n1, n2⟩ := moves_next V hd hmM hm1
  refine ⟨m, _, h1, hmM, hm1, n1, n2, ?_⟩; walk_at "zz"
  rw [← n2, ← hbv, ← h2]
  unfold told
  rw [if_neg hm1]
theorem play_won {f r : Nat} {T : List Int} {kind : Int} (K : TableOk f r kind T) {q : Pl} (V : VPl (f * r : Nat) q) : ∀ i : Nat, (i : Int) ≤ gi T (ix (f * r : Nat) q) →
    VPl (f * r : Nat) (play f r T kind i q).1 ∧ gi T (ix (f * r : Nat) (play f r T kind i q).1) = gi T (ix (f * r : Nat) q) - i ∧ (play f r T kind i q).2.length = i
  | 0, _ => ⟨V, by show gi T (ix _ q) = _; omega, rfl⟩
  | i + 1, h => by
    obtain ⟨h1, h2, h3⟩ := play_won K V i (by omega)
    obtain ⟨m, W, k1, k2, k3, k4, k5, k6⟩ := best_won K h1 (by omega)
    unfold play
    rw [k1]
    dsimp only
    refine ⟨k4, by rw [k6]; omega, by simp [h3]⟩
open PySem PySem.W PyProof.Rows PySem.Calls

structure Wd (H : HH) (x tab f r : Nat) (kind : Int) (T : List Int) : Prop where
  Z : Shp f r
  G : GeoAt H x f r
  ht : H tab = some (.list (T.map V.int))
  K : TableOk f r kind T
  k0 : 2 ≤ kind
  k5 : kind ≤ 5
theorem Wd.mono {H H' : HH} {x tab f r : Nat} {kind : Int} {T : List Int} (W : Wd H x tab f r kind T) (E : Ext H H') : Wd H' x tab f r kind T := ⟨W.Z, W.G.ext E, E _ _ W.ht, W.K, W.k0, W.k5⟩
theorem c_probe {n : Nat} {H : HH} {x tab f r : Nat} {kind : Int} {T : List Int} {q : Pl} {Q : V → HH → Prop} (W : Wd H x tab f r kind T) (VV : VPl (f * r : Nat) q)
    (k : Q (.int (gi T (ix (f * r : Nat) q))) H) : wc (n + 2) 22 [.ref x, .ref tab, .int kind, .int q.1, .int q.2.1, .int q.2.2.1, .int q.2.2.2] H Q := by
  obtain ⟨side, s, p, w⟩ := q
  refine ⟨D_probe, rfl, rfl, ?_⟩; walk_at "zz"
  change wpSs _ B_probe [some (.ref x), some (.ref tab), some (.int kind), some (.int side), some (.int s), some (.int p), some (.int w), none, none] H _
  unfold B_probe
  have e0 : (f : Int) * r = ((f * r : Nat) : Int) := (Int.natCast_mul _ _).symm
  have k0 := W.k0
  have k5 := W.k5
  have sz := W.Z.sz
  have ht := W.ht
  have hT := W.K.len
  have hTl : (T.length : Int) = 2 * (f * r : Nat) * (f * r : Nat) * (f * r : Nat) := by rw [hT]; simp
  have n3 : 2 * (f * r) * (f * r) * (f * r) ≤ 2 * 9 * 9 * 9 := Nat.mul_le_mul (Nat.mul_le_mul (Nat.mul_le_mul (Nat.le_refl _) (by omega)) (by omega)) (by omega)
  obtain ⟨a, c, ra, rfl, hx, hdx, hki, _, _, _⟩ := W.G
  unfold VPl at VV
  dsimp only at VV
  have a0 := VV.a0
  have a1 := VV.a1
  walk_at "zg"; (try simp only [e0]); walk_at "zz"
  have t1 : decide (kind < 2) = false := decide_eq_false (by omega)
  have t2 : decide (5 < kind) = false := decide_eq_false (by omega)
  walk_at "zg"; (try simp only [t1, t2]); walk_at "zz"
  walk_at "zz"
  walk_at "zg"; (try simp only [ht]); walk_at "zz"
  refine ⟨by rw [List.length_map]; omega, ?_⟩; walk_at "zz"
  refine ⟨.inl (by unfold small; omega), .inr (by unfold small; omega), .inr (by unfold small; omega), ?_⟩; walk_at "zz"
  have t3 : decide (((T.map V.int).length : Int) = 2 * (f * r : Nat) * (f * r : Nat) * (f * r : Nat)) = true := decide_eq_true (by rw [List.length_map]; exact hTl)
  rw [t3]
  walk_at "zz"
  walk_at "zz"
  (try walk_at "zd"); (try with_reducible refine Bx.mk ?_); refine tK ?_; generalize hK : cF _ _ _ = K1; walk_at "zz"
  have J : K1 .next [some (.ref a.x), some (.ref tab), some (.int kind), some (.int side), some (.int s), some (.int p), some (.int w), some (.int (f * r : Nat)), none] H := by
    subst hK
    refine Bx.mk ?_; walk_at "zz"
    walk_at "zg"
    refine tInv (xs := [s, p, w]) (fun i l h => h = H ∧ ∃ o, l = [some (.ref a.x), some (.ref tab), some (.int kind), some (.int side), some (.int s), some (.int p), some (.int w), some (.int (f * r : Nat)), o])
      (fun _ _ _ _ => rfl) ⟨rfl, _, rfl⟩ (fun i y l h k hv hq1 k1 _ => ?_) (fun l h hq2 => ?_)
    · obtain ⟨e, o, hl⟩ := hq1
      subst e hl
      have hy : 0 ≤ y ∧ y < (f * r : Nat) := by
        have := List.mem_of_getElem? hv
        simp only [List.mem_cons, List.not_mem_nil, or_false] at this
        rcases this with rfl | rfl | rfl
        · exact ⟨VV.s0, VV.s1⟩
        · exact ⟨VV.p0, VV.p1⟩
        · exact ⟨VV.w0, VV.w1⟩
      have t4 : decide (y < 0) = false := decide_eq_false (by omega)
      have t5 : decide (((f * r : Nat) : Int) ≤ y) = false := decide_eq_false (by omega)
      walk_at "zg"; (try simp only [t4, t5]); walk_at "zz"
      exact k1 _ _ ⟨rfl, _, rfl⟩
    · obtain ⟨e, o, hl⟩ := hq2
      subst e hl
      walk_at "zz"
      walk_at "zg"
      refine c_idx (by unfold small; omega) ?_; walk_at "zz"
      obtain ⟨i0, i1, i2⟩ := idx_small sz hT a0 a1 VV.s0 VV.s1 VV.p0 VV.p1 VV.w0 VV.w1
      walk_at "zz"
      refine sList ht i0 i1 i2 ?_; walk_at "zz"
      exact k
  have : side = 0 ∨ side = 1 := by omega
  rcases this with rfl | rfl <;> walk_at "zz" <;> exact J
theorem eqv2 {a b c d : Int} : PyData.eqv (.tuple [.int a, .int b]) (.tuple [.int c, .int d]) = (decide (a = c) && decide (b = d)) := by
  simp [PyData.eqv, PyData.eqvAll]
  cases h1 : decide (a = c) <;> cases h2 : decide (b = d) <;> simp_all
theorem eTup2 {a b c d : Int} {H : HH} {P : Bool → Prop} (h : P (decide (a = c) && decide (b = d))) : eqV (.tup [.int a, .int b]) (.tup [.int c, .int d]) H P :=
  ⟨.tuple [.int a, .int b], .tuple [.int c, .int d], rfl, rfl, Nat.le_of_ble_eq_true rfl, Nat.le_of_ble_eq_true rfl, by rw [eqv2]; exact h⟩
noncomputable def accB : Option (Mv × Int) → Int × Int × Int
  | none => (-1, -1, 0)
  | some (m, t) => (m.1, m.2.1, t)
theorem acc_pos {L side : Int} {T : List Int} : ∀ (M : List Mv) (acc : Option (Mv × Int)), (∀ x ∈ M, 0 ≤ x.1) → (acc = none ∨ ∃ b t, acc = some (b, t) ∧ 0 ≤ b.1) → (M.foldl (stepB L side T) acc = none ∨ ∃ b t, M.foldl (stepB L side T) acc = some (b, t) ∧ 0 ≤ b.1)
  | [], acc, _, h => h
  | m :: M, acc, h, ha => by
    refine acc_pos M _ (fun x hx => h x (List.mem_cons_of_mem _ hx)) (.inr ?_); walk_at "zz"
    have hm := h m List.mem_cons_self
    rcases ha with rfl | ⟨b, t, rfl, ht⟩
    · exact ⟨m, _, rfl, hm⟩
    · unfold stepB
      dsimp only
      split
      · exact ⟨m, _, rfl, hm⟩
      · exact ⟨b, t, rfl, ht⟩
theorem acc_step {L side : Int} {T : List Int} {M : List Mv} {m : Mv} (h : ∀ x ∈ M, 0 ≤ x.1) :
    ((accB (bestA L side T M)).1 = -1 ∧ (accB (bestA L side T M)).2.1 = -1 ∧ accB (stepB L side T (bestA L side T M) m) = (m.1, m.2.1, wo L side (told T m))) ∨
    (0 ≤ (accB (bestA L side T M)).1 ∧ accB (stepB L side T (bestA L side T M) m) = if (accB (bestA L side T M)).2.2 < wo L side (told T m) then (m.1, m.2.1, wo L side (told T m)) else accB (bestA L side T M)) := by
  rcases acc_pos (L := L) (side := side) (T := T) M none h (.inl rfl) with ha | ⟨b, t, ha, hb⟩
  · left
    change bestA L side T M = none at ha
    rw [ha]
    exact ⟨rfl, rfl, rfl⟩
  · right
    change bestA L side T M = some (b, t) at ha
    rw [ha]
    refine ⟨hb, ?_⟩; walk_at "zz"
    unfold stepB
    dsimp only
    show _ = if t < _ then _ else _
    split <;> rfl
theorem c_best {n : Nat} {B : HH} {x tab f r : Nat} {kind : Int} {T : List Int} {q : Pl} {Q : V → HH → Prop} (W : Wd B x tab f r kind T) (VV : VPl (f * r : Nat) q)
    (k : ∀ H', Ext B H' → Q (if gi T (ix (f * r : Nat) q) = -2 then .tup [.int (-1), .int (-1)] else .tup [.int (accB (bestA T.length q.1 T (mvs f r T kind q))).1, .int (accB (bestA T.length q.1 T (mvs f r T kind q))).2.1]) H') :
    wc (n + 9) 23 [.ref x, .ref tab, .int kind, .int q.1, .int q.2.1, .int q.2.2.1, .int q.2.2.2] B Q := by
  have hpr := fun {Q} => @c_probe (n + 6) B x tab f r kind T q Q W VV
  obtain ⟨side, s, p, w⟩ := q
  refine ⟨D_best_move, rfl, rfl, ?_⟩; walk_at "zz"
  change wpSs _ B_best_move [some (.ref x), some (.ref tab), some (.int kind), some (.int side), some (.int s), some (.int p), some (.int w), none, none, none, none, none, none] B _
  unfold B_best_move
  have sz := W.Z.sz
  have ht := W.ht
  have hT := W.K.len
  have hTl : (T.length : Int) = 2 * (f * r : Nat) * (f * r : Nat) * (f * r : Nat) := by rw [hT]; simp
  have n3 : 2 * (f * r) * (f * r) * (f * r) ≤ 2 * 9 * 9 * 9 := Nat.mul_le_mul (Nat.mul_le_mul (Nat.mul_le_mul (Nat.le_refl _) (by omega)) (by omega)) (by omega)
  unfold VPl at VV
  dsimp only at VV hpr k
  have VV' : VPl (f * r : Nat) (side, s, p, w) := VV
  walk_at "zg"
  walk_at "zg"
  refine hpr ?_; walk_at "zz"
  walk_at "zz"
  cases c0 : decide (gi T (ix (f * r : Nat) (side, s, p, w)) = -2) <;> walk_at "zz"
  · rw [if_neg (of_decide_eq_false c0)] at k
    walk_at "zz"
    walk_at "zg"
    walk_at "zg"
    refine c_moves W.Z.ok W.G ht hT sz W.k0 W.k5 VV.s0 VV.s1 VV.p0 VV.p1 VV.w0 VV.w1 fun H c O => ?_; walk_at "zz"
    have hmt := fun mv h => @moves_to f r T kind side s p w VV mv h
    change (∀ mv, mv ∈ mvs f r T kind (side, s, p, w) → _) at hmt
    replace O : Own' B H [(c, .list ((mvs f r T kind (side, s, p, w)).map mvV))] := O
    generalize mvs f r T kind (side, s, p, w) = M at *
    walk_at "zz"
    have ht' := O.ext _ _ ht
    refine tInvM (xs := M) mvV (fun j l h => h = H ∧ ∃ o9 o10 o11 o12, l = [some (.ref x), some (.ref tab), some (.int kind), some (.int side), some (.int s), some (.int p), some (.int w), some (.tup [.int (accB (bestA T.length side T (M.take j))).1, .int (accB (bestA T.length side T (M.take j))).2.1]), some (.int (accB (bestA T.length side T (M.take j))).2.2), o9, o10, o11, o12])
      (fun _ _ _ ⟨e, _⟩ => e ▸ items_list (O.get 0 rfl)) ⟨rfl, _, _, _, _, rfl⟩ (fun j mv l h K hvj hq3 k1 _ => ?_) (fun l h hq4 => ?_)
    · obtain ⟨e, o9, o10, o11, o12, hl⟩ := hq3
      subst e hl
      have hst : bestA T.length side T (M.take (j + 1)) = stepB T.length side T (bestA T.length side T (M.take j)) mv := by
        unfold bestA
        rw [List.take_add_one, hvj, List.foldl_append]; rfl
      have hac := acc_step (L := T.length) (side := side) (T := T) (M := M.take j) (m := mv) (fun x hx => (hmt x (List.mem_of_mem_take hx)).1.1)
      rw [hst] at k1
      change (_ ∧ _ ∧ _) ∨ (_ ∧ _) at hac
      generalize accB (stepB T.length side T (bestA T.length side T (M.take j)) mv) = A' at k1 hac
      generalize accB (bestA T.length side T (M.take j)) = A at k1 hac ⊢
      obtain ⟨A1, A2, A3⟩ := A
      dsimp only at k1 hac ⊢
      clear hst
      have hmv := hmt mv (List.mem_of_getElem? hvj)
      unfold mvV
      walk_at "zz"
      walk_at "zg"; (try simp only [ht']); walk_at "zz"
      refine ⟨by rw [List.length_map]; omega, ?_⟩; walk_at "zz"
      rw [List.length_map]
      (try walk_at "zd"); (try with_reducible refine Bx.mk ?_); refine tK ?_; generalize hK : cF _ _ _ = K1; walk_at "zz"
      have J : K1 .next [some (.ref x), some (.ref tab), some (.int kind), some (.int side), some (.int s), some (.int p), some (.int w), some (.tup [.int A1, .int A2]), some (.int A3), some (.int mv.1), some (.int mv.2.1), some (.int mv.2.2), some (.int (if told T mv = -1 then T.length else told T mv))] h := by
        subst hK
        refine Bx.mk ?_; walk_at "zz"
        (try walk_at "zd"); (try with_reducible refine Bx.mk ?_); refine tK ?_; generalize hK : cF _ _ _ = K2; walk_at "zz"
        have J : K2 .next [some (.ref x), some (.ref tab), some (.int kind), some (.int side), some (.int s), some (.int p), some (.int w), some (.tup [.int A1, .int A2]), some (.int A3), some (.int mv.1), some (.int mv.2.1), some (.int mv.2.2), some (.int (wo T.length side (told T mv)))] h := by
          subst hK
          refine Bx.mk ?_; walk_at "zz"
          walk_at "zg"
          refine eTup2 ?_; walk_at "zz"
          walk_at "zz"
          rcases hac with ⟨rfl, rfl, rfl⟩ | ⟨h1, rfl⟩
          · walk_at "zz"; (try simp only [Bool.and_true]); walk_at "zz"
            walk_at "zg"
            walk_at "zg"
            exact k1 _ _ ⟨rfl, _, _, _, _, rfl⟩
          · have hb1 : decide (A1 = -1) = false := decide_eq_false (by omega)
            walk_at "zz"; (try simp only [hb1, Bool.false_and]); walk_at "zz"
            cases c1 : decide (A3 < wo T.length side (told T mv)) <;> walk_at "zz"
            · rw [if_neg (of_decide_eq_false c1)] at k1
              exact k1 _ _ ⟨rfl, _, _, _, _, rfl⟩
            · rw [if_pos (of_decide_eq_true c1)] at k1
              walk_at "zg"
              walk_at "zg"
              exact k1 _ _ ⟨rfl, _, _, _, _, rfl⟩
        unfold wo at J
        cases c1 : decide (side = 0) <;> walk_at "zz"
        · rw [if_neg (of_decide_eq_false c1)] at J
          exact J
        · rw [if_pos (of_decide_eq_true c1)] at J
          walk_at "zg"
          exact J
      unfold told at J
      cases c1 : decide (mv.2.2 = -1) <;> walk_at "zz"
      · rw [if_neg (of_decide_eq_false c1)] at J
        rcases hmv.2 with z | ⟨z1, z2, z3⟩
        · exact absurd z (of_decide_eq_false c1)
        refine sList ht' z1 (by unfold small; omega) (gi_get (by omega)) ?_; walk_at "zz"
        walk_at "zz"
        cases c2 : decide (gi T mv.2.2 = -1) <;> walk_at "zz"
        · rw [if_neg (of_decide_eq_false c2)] at J
          walk_at "zg"
          refine sList ht' z1 (by unfold small; omega) (gi_get (by omega)) ?_; walk_at "zz"
          exact J
        · rw [if_pos (of_decide_eq_true c2)] at J
          exact J
      · rw [if_pos (of_decide_eq_true c1), if_pos rfl] at J
        exact J
    · obtain ⟨e, o9, o10, o11, o12, hl⟩ := hq4
      subst e hl
      rw [List.take_length]
      walk_at "zz"
      walk_at "zg"
      exact k _ O.ext
  · rw [if_pos (of_decide_eq_true c0)] at k
    walk_at "zg"
    exact k _ (Ext.refl _)
open PySem PySem.W PyProof.Rows PySem.Calls

theorem Own'.grow {B H H' : HH} {L : List (Nat × CO)} (O : Own' B H L) (E : Ext H H') : Own' B H' L := ⟨O.nod, fun p hp => E _ _ (O.at_ p hp), O.new, O.ext.trans E⟩
noncomputable def tup2 (m : Int × Int) : V := .tup [.int m.1, .int m.2]
theorem c_line {n : Nat} {B : HH} {x tab f r : Nat} {kind : Int} {T : List Int} {q : Pl} {Q : V → HH → Prop} (W : Wd B x tab f r kind T) (VV : VPl (f * r : Nat) q)
    (k : ∀ H' c, Own' B H' [(c, .list ((play f r T kind (gi T (ix (f * r : Nat) q)).toNat q).2.map tup2))] → Q (.ref c) H') :
    wc (n + 10) 24 [.ref x, .ref tab, .int kind, .int q.1, .int q.2.1, .int q.2.2.1, .int q.2.2.2] B Q := by
  refine ⟨D_mate_line, rfl, rfl, ?_⟩; walk_at "zz"
  change wpSs _ B_mate_line [some (.ref x), some (.ref tab), some (.int kind), some (.int q.1), some (.int q.2.1), some (.int q.2.2.1), some (.int q.2.2.2), none, none, none, none] B _
  unfold B_mate_line
  have hT := W.K.len
  have sz := W.Z.sz
  have n3 : 2 * (f * r) * (f * r) * (f * r) ≤ 2 * 9 * 9 * 9 := Nat.mul_le_mul (Nat.mul_le_mul (Nat.mul_le_mul (Nat.le_refl _) (by omega)) (by omega)) (by omega)
  have szl' : (2000 : Nat) ≤ szl := by decide
  have hr := W.K.rng _ _ _ _ VV
  change -2 ≤ gi T (ix (f * r : Nat) q) ∧ gi T (ix (f * r : Nat) q) < T.length at hr
  obtain ⟨t, ht⟩ : ∃ t, t = gi T (ix (f * r : Nat) q) := ⟨_, rfl⟩
  have O := Own'.nil B
  walk_at "zg"
  intro out h_out; replace O := O.alloc (o := .list []) h_out; revert O; generalize HH.set _ out _ = H; intro O; walk_at "zz"
  walk_at "zg"
  refine c_probe (W.mono O.ext) VV ?_; walk_at "zz"
  rw [← ht] at k hr ⊢
  walk_at "zz"
  walk_at "zg"
  refine ⟨fun k l h => ∃ i : Nat, k = t.toNat - i ∧ i ≤ t.toNat ∧ (∃ o9 o10, l = [some (.ref x), some (.ref tab), some (.int kind), some (.int (play f r T kind i q).1.1), some (.int (play f r T kind i q).1.2.1), some (.int (play f r T kind i q).1.2.2.1), some (.int (play f r T kind i q).1.2.2.2), some (.ref out), some (.int (t - i)), o9, o10]) ∧
    Own' B h [(out, .list ((play f r T kind i q).2.map tup2))], t.toNat, ⟨0, rfl, Nat.zero_le _, ⟨_, _, by rw [show t - ((0 : Nat) : Int) = t by omega]; rfl⟩, O⟩, ?_⟩
  rintro _ l H ⟨i, rfl, hi, ⟨o9, o10, rfl⟩, O⟩
  walk_at "zz"
  cases c1 : decide (0 < t - i) <;> walk_at "zz"
  · have c1' := of_decide_eq_false c1
    have : i = t.toNat := by omega
    subst this
    walk_at "zg"
    exact k _ _ O
  · have c1' := of_decide_eq_true c1
    obtain ⟨V1, h1, h2⟩ := play_won W.K VV i (by omega)
    obtain ⟨m, w, k1, k2, k3, k4, k5, k6⟩ := best_won W.K V1 (by omega)
    have hpl : play f r T kind (i + 1) q = (nextP (play f r T kind i q).1 m, (play f r T kind i q).2 ++ [(m.1, m.2.1)]) := by
      conv => lhs; unfold play
      rw [k1]
    generalize play f r T kind i q = pq at *
    obtain ⟨qq, ol⟩ := pq
    dsimp only at *
    walk_at "zg"
    refine c_best (W.mono O.ext) V1 fun H' E => ?_; walk_at "zz"
    rw [if_neg (by omega), k1]
    replace O := O.grow E
    walk_at "zz"; (try simp only [accB]); walk_at "zz"
    have ho := O.get 0 rfl
    walk_at "zg"
    refine ⟨by rw [List.length_map]; omega, ?_⟩; walk_at "zz"
    (try refine Bx.mk ?_); (first | refine tPut1 O 0 rfl fun H O => ?_ | refine tPutK O 0 rfl fun H O => ?_); walk_at "zz"
    (try walk_at "zd"); (try with_reducible refine Bx.mk ?_); refine tK ?_; generalize hK : cF _ _ _ = K1; walk_at "zz"
    have J : K1 .next [some (.ref x), some (.ref tab), some (.int kind), some (.int qq.1), some (.int (nextP qq m).2.1), some (.int (nextP qq m).2.2.1), some (.int (nextP qq m).2.2.2), some (.ref out), some (.int (t - i)), some (.int m.1), some (.int m.2.1)] H := by
      subst hK
      refine Bx.mk ?_; walk_at "zz"
      walk_at "zg"
      walk_at "zg"
      refine ⟨t.toNat - (i + 1), by omega, i + 1, rfl, by omega, ⟨some (.int m.1), some (.int m.2.1), ?_⟩, ?_⟩; walk_at "zz"
      rotate_left
      · rw [hpl]
        dsimp only
        rw [List.map_append]
        exact O
      · rw [hpl]
        dsimp only
        have e1 : (nextP qq m).1 = 1 - qq.1 := by
          unfold nextP
          split
          · rfl
          · split <;> rfl
        rw [e1, show t - ((i + 1 : Nat) : Int) = t - i - 1 by omega]
    unfold nextP at J
    cases c2 : decide (m.1 = qq.2.1) <;> walk_at "zz"
    · rw [if_neg (of_decide_eq_false c2)] at J
      walk_at "zg"
      cases c3 : decide (m.1 = qq.2.2.1) <;> walk_at "zz"
      · rw [if_neg (of_decide_eq_false c3)] at J
        walk_at "zg"
        exact J
      · rw [if_pos (of_decide_eq_true c3)] at J
        walk_at "zg"
        exact J
    · rw [if_pos (of_decide_eq_true c2)] at J
      walk_at "zg"
      exact J
open PySem PySem.W PyProof.Rows PySem.Calls

noncomputable def aboutP (x y : Int) : List (Int × Int) := [(-1 : Int), 0, 1].flatMap fun up => [(-1 : Int), 0, 1].flatMap fun right => if !(decide (right = 0) && decide (up = 0)) then [(x + right, y + up)] else []
noncomputable def inB (f r : Nat) (s : Int × Int) : Bool := (decide (0 ≤ s.1) && decide (s.1 < (f : Int))) && (decide (0 ≤ s.2) && decide (s.2 < (r : Int)))
noncomputable def roundP (f r : Nat) (sq : Int) : List Int := (aboutP (sq.fmod f) (sq.fdiv f)).flatMap fun s => if inB f r s then [s.2 * f + s.1] else []
noncomputable def farP (f r : Nat) (kind right up : Int) : Option Int :=
  if decide (kind = 2) && ((decide ((right.natAbs : Int) = 1) && decide ((up.natAbs : Int) = 2)) || (decide ((right.natAbs : Int) = 2) && decide ((up.natAbs : Int) = 1))) then some 1
  else if ((decide (kind = 3) || decide (kind = 5)) && (decide ((right.natAbs : Int) = 1) && decide ((up.natAbs : Int) = 1))) || ((decide (kind = 4) || decide (kind = 5)) && ((decide ((right.natAbs : Int) = 0) && decide ((up.natAbs : Int) = 1)) || (decide ((right.natAbs : Int) = 1) && decide ((up.natAbs : Int) = 0)))) then some (max f r)
  else none
noncomputable def walkP (f r : Nat) (x y right up : Int) (walls : List Int) : List Int → List Int
  | [] => []
  | l :: ls => if inB f r (x + right * l, y + up * l) then
      if decide ((y + up * l) * f + (x + right * l) ∈ walls) then [(y + up * l) * f + (x + right * l)] else ((y + up * l) * f + (x + right * l)) :: walkP f r x y right up walls ls
    else []
noncomputable def lensP (far : Int) : List Int := (iot far.toNat).map fun i => 1 + i
noncomputable def wayP (f r : Nat) (kind sq : Int) (walls : List Int) (right up : Int) : List Int := match farP f r kind right up with
  | none => []
  | some far => walkP f r (sq.fmod f) (sq.fdiv f) right up walls (lensP far)
noncomputable def reachedP (f r : Nat) (kind sq : Int) (walls : List Int) : List Int := [(-2 : Int), -1, 0, 1, 2].flatMap fun right => [(-2 : Int), -1, 0, 1, 2].flatMap fun up => wayP f r kind sq walls right up
noncomputable def occP (a b : Int) : Int := Builtin.bitOr (1 * 2 ^ a.toNat) (1 * 2 ^ b.toNat)
noncomputable def reachOk (f r : Nat) (kind sq : Int) : Bool := (iot (f * r)).all fun a => (iot (f * r)).all fun b => (reachedP f r kind sq [a, b]).isPerm ((iot (f * r)).filter (tb (attP f r kind sq (occP a b))))
open PySem PySem.W PyProof.Rows PySem.Calls

theorem rnd23 : ∀ sq ∈ iot (2 * 3), roundP 2 3 sq = (iot (2 * 3)).filter (tb (gi (kingP 2 3) sq)) := by decide +kernel
theorem dis23 : ∀ s ∈ iot (2 * 3), ∀ p ∈ iot (2 * 3), ∀ w ∈ iot (2 * 3), tb (freeP 2 3 s p) w = true → w ≠ s ∧ w ≠ p := by decide +kernel
theorem rch23x2x0 : reachOk 2 3 2 0 = true := by kernel_rfl
theorem rch23x2x1 : reachOk 2 3 2 1 = true := by kernel_rfl
theorem rch23x2x2 : reachOk 2 3 2 2 = true := by kernel_rfl
theorem rch23x2x3 : reachOk 2 3 2 3 = true := by kernel_rfl
theorem rch23x2x4 : reachOk 2 3 2 4 = true := by kernel_rfl
theorem rch23x2x5 : reachOk 2 3 2 5 = true := by kernel_rfl
theorem rch23x3x0 : reachOk 2 3 3 0 = true := by kernel_rfl
theorem rch23x3x1 : reachOk 2 3 3 1 = true := by kernel_rfl
theorem rch23x3x2 : reachOk 2 3 3 2 = true := by kernel_rfl
theorem rch23x3x3 : reachOk 2 3 3 3 = true := by kernel_rfl
theorem rch23x3x4 : reachOk 2 3 3 4 = true := by kernel_rfl
theorem rch23x3x5 : reachOk 2 3 3 5 = true := by kernel_rfl
theorem rch23x4x0 : reachOk 2 3 4 0 = true := by kernel_rfl
theorem rch23x4x1 : reachOk 2 3 4 1 = true := by kernel_rfl
theorem rch23x4x2 : reachOk 2 3 4 2 = true := by kernel_rfl
theorem rch23x4x3 : reachOk 2 3 4 3 = true := by kernel_rfl
theorem rch23x4x4 : reachOk 2 3 4 4 = true := by kernel_rfl
theorem rch23x4x5 : reachOk 2 3 4 5 = true := by kernel_rfl
theorem rch23x5x0 : reachOk 2 3 5 0 = true := by kernel_rfl
theorem rch23x5x1 : reachOk 2 3 5 1 = true := by kernel_rfl
theorem rch23x5x2 : reachOk 2 3 5 2 = true := by kernel_rfl
theorem rch23x5x3 : reachOk 2 3 5 3 = true := by kernel_rfl
theorem rch23x5x4 : reachOk 2 3 5 4 = true := by kernel_rfl
theorem rch23x5x5 : reachOk 2 3 5 5 = true := by kernel_rfl
theorem rnd33 : ∀ sq ∈ iot (3 * 3), roundP 3 3 sq = (iot (3 * 3)).filter (tb (gi (kingP 3 3) sq)) := by decide +kernel
theorem dis33 : ∀ s ∈ iot (3 * 3), ∀ p ∈ iot (3 * 3), ∀ w ∈ iot (3 * 3), tb (freeP 3 3 s p) w = true → w ≠ s ∧ w ≠ p := by decide +kernel
theorem rch33x2x0 : reachOk 3 3 2 0 = true := by kernel_rfl
theorem rch33x2x1 : reachOk 3 3 2 1 = true := by kernel_rfl
theorem rch33x2x2 : reachOk 3 3 2 2 = true := by kernel_rfl
theorem rch33x2x3 : reachOk 3 3 2 3 = true := by kernel_rfl
theorem rch33x2x4 : reachOk 3 3 2 4 = true := by kernel_rfl
theorem rch33x2x5 : reachOk 3 3 2 5 = true := by kernel_rfl
theorem rch33x2x6 : reachOk 3 3 2 6 = true := by kernel_rfl
theorem rch33x2x7 : reachOk 3 3 2 7 = true := by kernel_rfl
theorem rch33x2x8 : reachOk 3 3 2 8 = true := by kernel_rfl
theorem rch33x3x0 : reachOk 3 3 3 0 = true := by kernel_rfl
theorem rch33x3x1 : reachOk 3 3 3 1 = true := by kernel_rfl
theorem rch33x3x2 : reachOk 3 3 3 2 = true := by kernel_rfl
theorem rch33x3x3 : reachOk 3 3 3 3 = true := by kernel_rfl
theorem rch33x3x4 : reachOk 3 3 3 4 = true := by kernel_rfl
theorem rch33x3x5 : reachOk 3 3 3 5 = true := by kernel_rfl
theorem rch33x3x6 : reachOk 3 3 3 6 = true := by kernel_rfl
theorem rch33x3x7 : reachOk 3 3 3 7 = true := by kernel_rfl
theorem rch33x3x8 : reachOk 3 3 3 8 = true := by kernel_rfl
theorem rch33x4x0 : reachOk 3 3 4 0 = true := by kernel_rfl
theorem rch33x4x1 : reachOk 3 3 4 1 = true := by kernel_rfl
theorem rch33x4x2 : reachOk 3 3 4 2 = true := by kernel_rfl
theorem rch33x4x3 : reachOk 3 3 4 3 = true := by kernel_rfl
theorem rch33x4x4 : reachOk 3 3 4 4 = true := by kernel_rfl
theorem rch33x4x5 : reachOk 3 3 4 5 = true := by kernel_rfl
theorem rch33x4x6 : reachOk 3 3 4 6 = true := by kernel_rfl
theorem rch33x4x7 : reachOk 3 3 4 7 = true := by kernel_rfl
theorem rch33x4x8 : reachOk 3 3 4 8 = true := by kernel_rfl
theorem rch33x5x0 : reachOk 3 3 5 0 = true := by kernel_rfl
theorem rch33x5x1 : reachOk 3 3 5 1 = true := by kernel_rfl
theorem rch33x5x2 : reachOk 3 3 5 2 = true := by kernel_rfl
theorem rch33x5x3 : reachOk 3 3 5 3 = true := by kernel_rfl
theorem rch33x5x4 : reachOk 3 3 5 4 = true := by kernel_rfl
theorem rch33x5x5 : reachOk 3 3 5 5 = true := by kernel_rfl
theorem rch33x5x6 : reachOk 3 3 5 6 = true := by kernel_rfl
theorem rch33x5x7 : reachOk 3 3 5 7 = true := by kernel_rfl
theorem rch33x5x8 : reachOk 3 3 5 8 = true := by kernel_rfl
theorem rnd24 : ∀ sq ∈ iot (2 * 4), roundP 2 4 sq = (iot (2 * 4)).filter (tb (gi (kingP 2 4) sq)) := by decide +kernel
theorem dis24 : ∀ s ∈ iot (2 * 4), ∀ p ∈ iot (2 * 4), ∀ w ∈ iot (2 * 4), tb (freeP 2 4 s p) w = true → w ≠ s ∧ w ≠ p := by decide +kernel
theorem rch24x2x0 : reachOk 2 4 2 0 = true := by kernel_rfl
theorem rch24x2x1 : reachOk 2 4 2 1 = true := by kernel_rfl
theorem rch24x2x2 : reachOk 2 4 2 2 = true := by kernel_rfl
theorem rch24x2x3 : reachOk 2 4 2 3 = true := by kernel_rfl
theorem rch24x2x4 : reachOk 2 4 2 4 = true := by kernel_rfl
theorem rch24x2x5 : reachOk 2 4 2 5 = true := by kernel_rfl
theorem rch24x2x6 : reachOk 2 4 2 6 = true := by kernel_rfl
theorem rch24x2x7 : reachOk 2 4 2 7 = true := by kernel_rfl
theorem rch24x3x0 : reachOk 2 4 3 0 = true := by kernel_rfl
theorem rch24x3x1 : reachOk 2 4 3 1 = true := by kernel_rfl
theorem rch24x3x2 : reachOk 2 4 3 2 = true := by kernel_rfl
theorem rch24x3x3 : reachOk 2 4 3 3 = true := by kernel_rfl
theorem rch24x3x4 : reachOk 2 4 3 4 = true := by kernel_rfl
theorem rch24x3x5 : reachOk 2 4 3 5 = true := by kernel_rfl
theorem rch24x3x6 : reachOk 2 4 3 6 = true := by kernel_rfl
theorem rch24x3x7 : reachOk 2 4 3 7 = true := by kernel_rfl
theorem rch24x4x0 : reachOk 2 4 4 0 = true := by kernel_rfl
theorem rch24x4x1 : reachOk 2 4 4 1 = true := by kernel_rfl
theorem rch24x4x2 : reachOk 2 4 4 2 = true := by kernel_rfl
theorem rch24x4x3 : reachOk 2 4 4 3 = true := by kernel_rfl
theorem rch24x4x4 : reachOk 2 4 4 4 = true := by kernel_rfl
theorem rch24x4x5 : reachOk 2 4 4 5 = true := by kernel_rfl
theorem rch24x4x6 : reachOk 2 4 4 6 = true := by kernel_rfl
theorem rch24x4x7 : reachOk 2 4 4 7 = true := by kernel_rfl
theorem rch24x5x0 : reachOk 2 4 5 0 = true := by kernel_rfl
theorem rch24x5x1 : reachOk 2 4 5 1 = true := by kernel_rfl
theorem rch24x5x2 : reachOk 2 4 5 2 = true := by kernel_rfl
theorem rch24x5x3 : reachOk 2 4 5 3 = true := by kernel_rfl
theorem rch24x5x4 : reachOk 2 4 5 4 = true := by kernel_rfl
theorem rch24x5x5 : reachOk 2 4 5 5 = true := by kernel_rfl
theorem rch24x5x6 : reachOk 2 4 5 6 = true := by kernel_rfl
theorem rch24x5x7 : reachOk 2 4 5 7 = true := by kernel_rfl
theorem iot_cases {n : Nat} {P : Int → Prop} (h : ∀ i : Nat, i < n → P i) : ∀ sq ∈ iot n, P sq := fun sq hs => by
  rw [iot_mem_iff] at hs
  have := h sq.toNat (by omega)
  rwa [Int.toNat_of_nonneg hs.1] at this
theorem rch23 : ∀ kind : Int, 2 ≤ kind → kind ≤ 5 → ∀ sq ∈ iot (2 * 3), reachOk 2 3 kind sq = true := fun kind k0 k5 => iot_cases fun i hi => by
  have hk : kind = 2 ∨ kind = 3 ∨ kind = 4 ∨ kind = 5 := by omega
  rcases hk with rfl | rfl | rfl | rfl
  · match i, hi with
    | 0, _ => exact rch23x2x0
    | 1, _ => exact rch23x2x1
    | 2, _ => exact rch23x2x2
    | 3, _ => exact rch23x2x3
    | 4, _ => exact rch23x2x4
    | 5, _ => exact rch23x2x5
    | i + 6, h => omega
  · match i, hi with
    | 0, _ => exact rch23x3x0
    | 1, _ => exact rch23x3x1
    | 2, _ => exact rch23x3x2
    | 3, _ => exact rch23x3x3
    | 4, _ => exact rch23x3x4
    | 5, _ => exact rch23x3x5
    | i + 6, h => omega
  · match i, hi with
    | 0, _ => exact rch23x4x0
    | 1, _ => exact rch23x4x1
    | 2, _ => exact rch23x4x2
    | 3, _ => exact rch23x4x3
    | 4, _ => exact rch23x4x4
    | 5, _ => exact rch23x4x5
    | i + 6, h => omega
  · match i, hi with
    | 0, _ => exact rch23x5x0
    | 1, _ => exact rch23x5x1
    | 2, _ => exact rch23x5x2
    | 3, _ => exact rch23x5x3
    | 4, _ => exact rch23x5x4
    | 5, _ => exact rch23x5x5
    | i + 6, h => omega
theorem rch33 : ∀ kind : Int, 2 ≤ kind → kind ≤ 5 → ∀ sq ∈ iot (3 * 3), reachOk 3 3 kind sq = true := fun kind k0 k5 => iot_cases fun i hi => by
  have hk : kind = 2 ∨ kind = 3 ∨ kind = 4 ∨ kind = 5 := by omega
  rcases hk with rfl | rfl | rfl | rfl
  · match i, hi with
    | 0, _ => exact rch33x2x0
    | 1, _ => exact rch33x2x1
    | 2, _ => exact rch33x2x2
    | 3, _ => exact rch33x2x3
    | 4, _ => exact rch33x2x4
    | 5, _ => exact rch33x2x5
    | 6, _ => exact rch33x2x6
    | 7, _ => exact rch33x2x7
    | 8, _ => exact rch33x2x8
    | i + 9, h => omega
  · match i, hi with
    | 0, _ => exact rch33x3x0
    | 1, _ => exact rch33x3x1
    | 2, _ => exact rch33x3x2
    | 3, _ => exact rch33x3x3
    | 4, _ => exact rch33x3x4
    | 5, _ => exact rch33x3x5
    | 6, _ => exact rch33x3x6
    | 7, _ => exact rch33x3x7
    | 8, _ => exact rch33x3x8
    | i + 9, h => omega
  · match i, hi with
    | 0, _ => exact rch33x4x0
    | 1, _ => exact rch33x4x1
    | 2, _ => exact rch33x4x2
    | 3, _ => exact rch33x4x3
    | 4, _ => exact rch33x4x4
    | 5, _ => exact rch33x4x5
    | 6, _ => exact rch33x4x6
    | 7, _ => exact rch33x4x7
    | 8, _ => exact rch33x4x8
    | i + 9, h => omega
  · match i, hi with
    | 0, _ => exact rch33x5x0
    | 1, _ => exact rch33x5x1
    | 2, _ => exact rch33x5x2
    | 3, _ => exact rch33x5x3
    | 4, _ => exact rch33x5x4
    | 5, _ => exact rch33x5x5
    | 6, _ => exact rch33x5x6
    | 7, _ => exact rch33x5x7
    | 8, _ => exact rch33x5x8
    | i + 9, h => omega
theorem rch24 : ∀ kind : Int, 2 ≤ kind → kind ≤ 5 → ∀ sq ∈ iot (2 * 4), reachOk 2 4 kind sq = true := fun kind k0 k5 => iot_cases fun i hi => by
  have hk : kind = 2 ∨ kind = 3 ∨ kind = 4 ∨ kind = 5 := by omega
  rcases hk with rfl | rfl | rfl | rfl
  · match i, hi with
    | 0, _ => exact rch24x2x0
    | 1, _ => exact rch24x2x1
    | 2, _ => exact rch24x2x2
    | 3, _ => exact rch24x2x3
    | 4, _ => exact rch24x2x4
    | 5, _ => exact rch24x2x5
    | 6, _ => exact rch24x2x6
    | 7, _ => exact rch24x2x7
    | i + 8, h => omega
  · match i, hi with
    | 0, _ => exact rch24x3x0
    | 1, _ => exact rch24x3x1
    | 2, _ => exact rch24x3x2
    | 3, _ => exact rch24x3x3
    | 4, _ => exact rch24x3x4
    | 5, _ => exact rch24x3x5
    | 6, _ => exact rch24x3x6
    | 7, _ => exact rch24x3x7
    | i + 8, h => omega
  · match i, hi with
    | 0, _ => exact rch24x4x0
    | 1, _ => exact rch24x4x1
    | 2, _ => exact rch24x4x2
    | 3, _ => exact rch24x4x3
    | 4, _ => exact rch24x4x4
    | 5, _ => exact rch24x4x5
    | 6, _ => exact rch24x4x6
    | 7, _ => exact rch24x4x7
    | i + 8, h => omega
  · match i, hi with
    | 0, _ => exact rch24x5x0
    | 1, _ => exact rch24x5x1
    | 2, _ => exact rch24x5x2
    | 3, _ => exact rch24x5x3
    | 4, _ => exact rch24x5x4
    | 5, _ => exact rch24x5x5
    | 6, _ => exact rch24x5x6
    | 7, _ => exact rch24x5x7
    | i + 8, h => omega
structure Law (f r : Nat) : Prop where
  Z : Shp f r
  rnd : ∀ sq ∈ iot (f * r), roundP f r sq = (iot (f * r)).filter (tb (gi (kingP f r) sq))
  rch : ∀ kind : Int, 2 ≤ kind → kind ≤ 5 → ∀ sq ∈ iot (f * r), reachOk f r kind sq = true
theorem law23 : Law 2 3 := ⟨⟨ok23, by decide, by decide, by decide, by decide, by decide, dis23⟩, rnd23, rch23⟩
theorem law33 : Law 3 3 := ⟨⟨ok33, by decide, by decide, by decide, by decide, by decide, dis33⟩, rnd33, rch33⟩
theorem law24 : Law 2 4 := ⟨⟨ok24, by decide, by decide, by decide, by decide, by decide, dis24⟩, rnd24, rch24⟩
open PySem PySem.W PyProof.Rows PySem.Calls

theorem r_capn {l : Loc} : capL l [] = [] := rfl
theorem r_capc {l : Loc} {i : Nat} {r : List Nat} : capL l (i :: r) = l.getD i none :: capL l r := rfl
theorem r_gd0 {o d : Option V} {l : Loc} : List.getD (o :: l) 0 d = o := rfl
theorem r_gds {o d : Option V} {l : Loc} {i : Nat} : List.getD (o :: l) (i + 1) d = List.getD l i d := rfl
theorem cFlatM {α β : Type} {src : V} {xs : List β} {turn : V → HH → (HH → Prop) → Prop} {Q : HH → Prop} {h : HH} (g : β → V) (F : β → List α) (Rep : List α → HH → Prop)
    (hs : ∀ s h, Rep s h → items h src = some (xs.map g)) (h0 : Rep [] h)
    (step : ∀ s x h (k : HH → Prop), x ∈ xs → s.length ≤ ((xs.flatMap F).length) → Rep s h → (∀ h, Rep (s ++ F x) h → k h) → turn (g x) h k)
    (fin : ∀ h, Rep (xs.flatMap F) h → Q h) : cLoop src (xs.map g) turn Q (xs.map g) h := by
  refine cLoop_inv (fun i h => Rep ((xs.take i).flatMap F) h) (fun i v h k hv r k1 => ⟨hs _ _ r, ?_⟩) (fun h r => ⟨hs _ _ r, ?_⟩) h0
  · rw [List.getElem?_map] at hv
    obtain ⟨y, hy, rfl⟩ := Option.map_eq_some_iff.mp hv
    refine step _ y h k (List.mem_of_getElem? hy) ?_ r fun h r => k1 h ?_; walk_at "zz"
    · conv => rhs; rw [← List.take_append_drop i xs, List.flatMap_append, List.length_append]
      exact Nat.le_add_right _ _
    · rw [List.take_add_one, hy, List.flatMap_append]; simpa using r
  · rw [List.length_map, List.take_length] at r
    exact fin h r
theorem flat_lenM {α β : Type} {F : β → List α} (h : ∀ x, (F x).length ≤ 1) (l : List β) : (l.flatMap F).length ≤ l.length := by
  induction l with
  | nil => simp
  | cons x l ih => rw [List.flatMap_cons, List.length_append, List.length_cons]; have := h x; omega
theorem about_len (x y : Int) : (aboutP x y).length = 8 := rfl
theorem c_round {n : Nat} {B : HH} {f r : Nat} {sq : Int} {Q : V → HH → Prop} (hf0 : 0 < f) (hf : f < 10)
    (q : ∀ H' c, Own' B H' [(c, .list ((roundP f r sq).map V.int))] → Q (.ref c) H') : wc (n + 2) 28 [.int f, .int r, .int sq] B Q := by
  refine ⟨D_law_round, rfl, rfl, ?_⟩; walk_at "zz"
  change wpSs _ B_law_round [some (.int f), some (.int r), some (.int sq), none, none, none] B _
  unfold B_law_round
  have O := Own'.nil B
  have szl' : (2000 : Nat) ≤ szl := by decide
  walk_at "zg"
  refine c_corner (by omega) (by unfold small; omega) ?_; walk_at "zz"
  walk_at "zz"
  generalize hx : sq.fmod f = x
  generalize hy : sq.fdiv f = y
  walk_at "zg"
  refine ⟨[.int (-1), .int 0, .int 1], rfl, by decide, ?_⟩; walk_at "zz"
  intro ab h_ab; replace O := O.alloc (o := .list []) h_ab; revert O; generalize HH.set _ ab _ = H; intro O; walk_at "zz"
  refine cFlatM (xs := [(-1 : Int), 0, 1]) V.int (fun up => [(-1 : Int), 0, 1].flatMap fun right => if !(decide (right = 0) && decide (up = 0)) then [(x + right, y + up)] else []) (fun s h => Own' B h [(ab, .list (s.map tup2))])
    (fun _ _ _ => rfl) O (fun s up H k _ hsl O k1 => ?_) (fun H O => ?_)
  · walk_at "zz"
    refine ⟨[.int (-1), .int 0, .int 1], rfl, by decide, ?_⟩; walk_at "zz"
    refine cFlatM (xs := [(-1 : Int), 0, 1]) V.int (fun right => if !(decide (right = 0) && decide (up = 0)) then [(x + right, y + up)] else []) (fun s2 h => Own' B h [(ab, .list ((s ++ s2).map tup2))])
      (fun _ _ _ => rfl) (by rw [List.append_nil]; exact O) (fun s2 right H k _ hs2 O k1 => ?_) (fun H O => k1 H O)
    walk_at "zz"; (try dsimp only [r_capc, r_capn, r_gd0, r_gds]); walk_at "zz"
    have h8 : s.length ≤ 8 := hsl
    have h3 := Nat.le_trans hs2 (flat_len (fun right => by split <;> simp) _)
    refine eTup2 ?_; walk_at "zz"
    cases hb : (decide (right = 0) && decide (up = 0)) <;> rw [hb] at k1 <;> walk_at "zz"
    · rw [Bool.not_false, if_pos rfl] at k1
      refine ⟨_, O.get 0 rfl, ?_, ?_⟩; walk_at "zz"
      · simp only [List.length_map, List.length_append]
        simp only [List.length_cons, List.length_nil] at h3
        omega
      · refine k1 _ ?_; walk_at "zz"
        rw [← List.append_assoc, show (s ++ s2 ++ [(x + right, y + up)]).map tup2 = (s ++ s2).map tup2 ++ [tup2 (x + right, y + up)] from List.map_append]
        exact O.upd 0 (o' := .list ((s ++ s2).map tup2 ++ [tup2 (x + right, y + up)])) rfl
    · exact k1 _ (by simpa using O)
  · walk_at "zg"
    refine ⟨_, items_list (O.get 0 rfl), ?_, ?_⟩; walk_at "zz"
    · rw [List.length_map]; exact Nat.le_trans (Nat.le_of_eq (about_len x y)) (by omega)
    intro c h_c; replace O := O.alloc (o := .list []) h_c; revert O; generalize HH.set _ c _ = H; intro O; walk_at "zz"
    refine cFlatM (xs := aboutP x y) tup2 (fun s => if inB f r s then [s.2 * (f : Int) + s.1] else []) (fun s h => Own' B h [(c, .list (s.map V.int)), (ab, .list ((aboutP x y).map tup2))])
      (fun _ _ O => items_list (O.get 1 rfl)) O (fun s m H k _ hsl O k1 => ?_) (fun H O => q _ _ ?_)
    · have h8 := Nat.le_trans hsl (flat_lenM (fun m => by split <;> simp) (aboutP x y))
      rw [about_len] at h8
      unfold tup2
      walk_at "zz"; (try dsimp only [r_capc, r_capn, r_gd0, r_gds]); walk_at "zz"
      have e1 : ([V.int m.1, V.int m.2] : List V)[Int.toNat 0]? = some (.int m.1) := rfl
      have e2 : ([V.int m.1, V.int m.2] : List V)[Int.toNat 1]? = some (.int m.2) := rfl
      have skip : inB f r m = false → k H := fun hb => k1 _ (by rw [hb]; simpa using O)
      cases a1 : decide (0 ≤ m.1) <;> walk_at "zz"
      · exact skip (by unfold inB; rw [a1]; rfl)
      cases a2 : decide (m.1 < (f : Int)) <;> walk_at "zz"
      · exact skip (by unfold inB; rw [a2, Bool.and_false]; rfl)
      cases a3 : decide (0 ≤ m.2) <;> walk_at "zz"
      · exact skip (by unfold inB; rw [a3, Bool.false_and, Bool.and_false])
      cases a4 : decide (m.2 < (r : Int)) <;> walk_at "zz"
      · exact skip (by unfold inB; rw [a4, Bool.and_false, Bool.and_false])
      have hb : inB f r m = true := by unfold inB; rw [a1, a2, a3, a4]; rfl
      rw [hb, if_pos rfl] at k1
      refine ⟨.inr (by unfold small; omega), ?_⟩; walk_at "zz"
      refine ⟨_, O.get 0 rfl, by rw [List.length_map]; omega, ?_⟩; walk_at "zz"
      refine k1 _ ?_; walk_at "zz"
      rw [List.map_append]
      exact O.upd 0 (o' := .list (s.map V.int ++ [V.int (m.2 * f + m.1)])) rfl
    · replace O := O.pick [0] (by decide)
      unfold roundP
      rw [hx, hy]
      exact O
open PySem PySem.W PyProof.Rows PySem.Calls

theorem eqvI {a b : Int} : PyData.eqv (.int a) (.int b) = decide (a = b) := by
  simp [PyData.eqv]
  cases h1 : decide (a = b) <;> simp_all
theorem deq {a b : Int} : decide (a = b) = decide (b = a) := by
  by_cases h : a = b
  · rw [decide_eq_true h, decide_eq_true h.symm]
  · rw [decide_eq_false h, decide_eq_false fun e => h e.symm]
theorem inTup2 {a b c d e g : Int} {H : HH} {P : Bool → Prop} (h : P ((decide (a = c) && decide (b = d)) || (decide (a = e) && decide (b = g)))) :
    inV (.tup [.int a, .int b]) (.tup [.tup [.int c, .int d], .tup [.int e, .int g]]) H P :=
  ⟨[.tuple [.int c, .int d], .tuple [.int e, .int g]], .tuple [.int a, .int b], rfl, rfl, Nat.le_of_ble_eq_true rfl, by
    simp only [List.any_cons, List.any_nil, eqv2, Bool.or_false]
    rw [deq (a := c), deq (a := d), deq (a := e), deq (a := g)]; exact h⟩
theorem inInt2 {k a b : Int} {H : HH} {P : Bool → Prop} (h : P (decide (k = a) || decide (k = b))) : inV (.int k) (.tup [.int a, .int b]) H P :=
  ⟨[.int a, .int b], .int k, rfl, rfl, Nat.le_of_ble_eq_true rfl, by
    simp only [List.any_cons, List.any_nil, eqvI, Bool.or_false]
    rw [deq (a := a), deq (a := b)]; exact h⟩
theorem inList {l : Nat} {is : List Int} {i : Int} {H : HH} {P : Bool → Prop} (hl : H l = some (.list (is.map V.int))) (h : P (decide (i ∈ is))) : inV (.int i) (.ref l) H P := ⟨_, is, i, hl, rfl, rfl, h⟩
theorem walk_cons {f r : Nat} {x y right up : Int} {walls : List Int} {l : Int} {ls : List Int} : walkP f r x y right up walls (l :: ls) = if inB f r (x + right * l, y + up * l) then
      if decide ((y + up * l) * f + (x + right * l) ∈ walls) then [(y + up * l) * f + (x + right * l)] else ((y + up * l) * f + (x + right * l)) :: walkP f r x y right up walls ls
    else [] := rfl
theorem far_test1 {Φ : Calls} {loc : Loc} {H : HH} {Q : V → HH → Prop} {kind ra ua : Int} {p1 p2 p3 p4 p5 p6 p7 p8 p9 p10 p11 p12 p13 : Pos} (l2 : loc[2]? = some (some (.int kind))) (l10 : loc[10]? = some (some (.tup [.int ra, .int ua])))
    (q : Q (.bool (decide (kind = 2) && ((decide (ra = 1) && decide (ua = 2)) || (decide (ra = 2) && decide (ua = 1))))) H) :
    wpE Φ (.bop .And (.cons (.cmp .Eq (.var 2 p1) (.int 2 p2) p3) (.cons (.cmp .In (.var 10 p4) (.tup (.cons (.tup (.cons (.int 1 p5) (.cons (.int 2 p6) .nil)) 0 p7) (.cons (.tup (.cons (.int 2 p8) (.cons (.int 1 p9) .nil)) 0 p10) .nil)) 0 p11) p12) .nil)) p13) true loc H Q := by
  walk_at "zz"
  cases a : decide (kind = 2) <;> rw [a] at q <;> walk_at "zz"
  · exact q
  · refine inTup2 ?_; walk_at "zz"
    rw [Bool.true_and] at q
    cases b : ((decide (ra = 1) && decide (ua = 2)) || (decide (ra = 2) && decide (ua = 1))) <;> rw [b] at q <;> walk_at "zz" <;> exact q
theorem far_test2 {Φ : Calls} {loc : Loc} {H : HH} {Q : V → HH → Prop} {kind ra ua : Int} {p1 p2 p3 p4 p5 p6 p7 p8 p9 p10 p11 p12 p13 p14 p15 p16 p17 p18 p19 p20 p21 p22 p23 p24 p25 p26 : Pos} (l2 : loc[2]? = some (some (.int kind))) (l10 : loc[10]? = some (some (.tup [.int ra, .int ua])))
    (q : Q (.bool (((decide (kind = 3) || decide (kind = 5)) && (decide (ra = 1) && decide (ua = 1))) || ((decide (kind = 4) || decide (kind = 5)) && ((decide (ra = 0) && decide (ua = 1)) || (decide (ra = 1) && decide (ua = 0)))))) H) :
    wpE Φ (.bop .Or (.cons (.bop .And (.cons (.cmp .In (.var 2 p1) (.tup (.cons (.int 3 p2) (.cons (.int 5 p3) .nil)) 0 p4) p5) (.cons (.cmp .Eq (.var 10 p6) (.tup (.cons (.int 1 p7) (.cons (.int 1 p8) .nil)) 0 p9) p10) .nil)) p11)
      (.cons (.bop .And (.cons (.cmp .In (.var 2 p12) (.tup (.cons (.int 4 p13) (.cons (.int 5 p14) .nil)) 0 p15) p16) (.cons (.cmp .In (.var 10 p17) (.tup (.cons (.tup (.cons (.int 0 p18) (.cons (.int 1 p19) .nil)) 0 p20) (.cons (.tup (.cons (.int 1 p21) (.cons (.int 0 p22) .nil)) 0 p23) .nil)) 0 p24) p25) .nil)) p26) .nil)) p9) true loc H Q := by
  walk_at "zz"
  cases hC : (decide (kind = 3) || decide (kind = 5)) <;> cases hD : (decide (ra = 1) && decide (ua = 1)) <;> cases hE : (decide (kind = 4) || decide (kind = 5)) <;> cases hF : ((decide (ra = 0) && decide (ua = 1)) || (decide (ra = 1) && decide (ua = 0))) <;> rw [hC, hD, hE, hF] at q
  all_goals (refine inInt2 ?_; rw [hC]; walk_at "zz")
  all_goals (try (refine eTup2 ?_; rw [hD]; walk_at "zz"))
  all_goals (try (refine inInt2 ?_; rw [hE]; walk_at "zz"))
  all_goals (try (refine inTup2 ?_; rw [hF]; walk_at "zz"))
  all_goals exact q
theorem walk_len (f r : Nat) (x y right up : Int) (walls : List Int) : ∀ ls, (walkP f r x y right up walls ls).length ≤ ls.length
  | [] => Nat.le_refl _
  | l :: ls => by
    unfold walkP
    split
    · split
      · simp
      · have := walk_len f r x y right up walls ls; simp; exact this
    · simp
theorem far_le {f r : Nat} {kind right up far : Int} (hf : f < 10) (hr : r < 10) (h0 : 0 < f) (h : farP f r kind right up = some far) : 1 ≤ far ∧ far ≤ 9 := by
  unfold farP at h
  split at h
  · cases h; omega
  · split at h
    · cases h; omega
    · cases h
theorem way_len {f r : Nat} {kind sq right up : Int} {walls : List Int} (hf : f < 10) (hr : r < 10) (h0 : 0 < f) : (wayP f r kind sq walls right up).length ≤ 9 := by
  unfold wayP
  split
  · simp
  · rename_i far h
    have := walk_len f r (sq.fmod f) (sq.fdiv f) right up walls (lensP far)
    have h2 := far_le hf hr h0 h
    unfold lensP at this ⊢
    rw [List.length_map, iot_len] at this
    omega
theorem flat_lenF {α : Type} {F : Int → List α} {k : Nat} (l : List Int) (h : ∀ x, (F x).length ≤ k) : (l.flatMap F).length ≤ k * l.length := flat_lenN h l
theorem c_reached {n : Nat} {B : HH} {f r wl : Nat} {kind sq : Int} {walls : List Int} {Q : V → HH → Prop} (hf0 : 0 < f) (hf : f < 10) (hr : r < 10) (hwl : B wl = some (.list (walls.map V.int))) (h64 : (reachedP f r kind sq walls).length < 64)
    (q : ∀ (H' : HH) (c : Nat) (js : List Int), js.Perm (reachedP f r kind sq walls) → js.Pairwise (· ≤ ·) → Own' B H' [(c, .list (js.map V.int))] → Q (.ref c) H') : wc (n + 2) 27 [.int f, .int r, .int kind, .int sq, .ref wl] B Q := by
  refine ⟨D_law_reached, rfl, rfl, ?_⟩; walk_at "zz"
  change wpSs _ B_law_reached [some (.int f), some (.int r), some (.int kind), some (.int sq), some (.ref wl), none, none, none, none, none, none, none, none, none] B _
  unfold B_law_reached
  have O := Own'.nil B
  have szl' : (2000 : Nat) ≤ szl := by decide
  walk_at "zg"
  refine c_corner (by omega) (by unfold small; omega) ?_; walk_at "zz"
  walk_at "zz"
  generalize hx : sq.fmod f = x
  generalize hy : sq.fdiv f = y
  walk_at "zg"
  intro fo h_fo; replace O := O.alloc (o := .list []) h_fo; revert O; generalize HH.set _ fo _ = H; intro O; walk_at "zz"
  walk_at "zg"
  refine tFlatI (xs := [(-2 : Int), -1, 0, 1, 2]) (fun right => [(-2 : Int), -1, 0, 1, 2].flatMap fun up => wayP f r kind sq walls right up)
    (fun i s l h => (∃ o8 o9 o10 o11 o12 o13, l = [some (.int f), some (.int r), some (.int kind), some (.int sq), some (.ref wl), some (.int x), some (.int y), some (.ref fo), o8, o9, o10, o11, o12, o13]) ∧ s.length ≤ 45 * i ∧ Own' B h [(fo, .list (s.map V.int))])
    (fun _ _ _ _ _ => rfl) ⟨⟨_, _, _, _, _, _, rfl⟩, Nat.le_refl _, O⟩ (fun i s right l H k hv hq1 k1 _ => ?_) (fun l H hq2 => ?_)
  · obtain ⟨⟨o8, o9, o10, o11, o12, o13, hl⟩, hs, O⟩ := hq1
    subst hl
    walk_at "zz"
    have hi := (List.getElem?_eq_some_iff.mp hv).1
    simp only [List.length_cons, List.length_nil] at hi
    walk_at "zg"
    refine tFlatI (xs := [(-2 : Int), -1, 0, 1, 2]) (fun up => wayP f r kind sq walls right up)
      (fun j s2 l h => (∃ o9 o10 o11 o12 o13, l = [some (.int f), some (.int r), some (.int kind), some (.int sq), some (.ref wl), some (.int x), some (.int y), some (.ref fo), some (.int right), o9, o10, o11, o12, o13]) ∧ s2.length ≤ 9 * j ∧ Own' B h [(fo, .list ((s ++ s2).map V.int))])
      (fun _ _ _ _ _ => rfl) ⟨⟨_, _, _, _, _, rfl⟩, Nat.le_refl _, by rw [List.append_nil]; exact O⟩ (fun j s2 up l H k hv hq3 k1 k2 => ?_) (fun l H hq4 => ?_)
    · obtain ⟨⟨o9, o10, o11, o12, o13, hl⟩, hs2, O⟩ := hq3
      subst hl
      walk_at "zz"
      have hj := (List.getElem?_eq_some_iff.mp hv).1
      simp only [List.length_cons, List.length_nil] at hj
      have hwy := way_len (f := f) (r := r) (kind := kind) (sq := sq) (right := right) (up := up) (walls := walls) hf hr hf0
      walk_at "zg"
      (try with_reducible refine Bx.mk ?_)
      refine tK ?_ -- here
      generalize hK : cF _ _ _ = K1
      have J0 : farP f r kind right up = none → k .cont [some (.int f), some (.int r), some (.int kind), some (.int sq), some (.ref wl), some (.int x), some (.int y), some (.ref fo), some (.int right), some (.int up), some (.tup [.int right.natAbs, .int up.natAbs]), o11, o12, o13] H := fun e => by
        have hw : wayP f r kind sq walls right up = [] := by unfold wayP; rw [e]
        exact k2 _ _ ⟨⟨_, _, _, _, _, rfl⟩, by rw [hw, List.append_nil]; omega, by rw [hw, List.append_nil]; exact O⟩
      have J1 : ∀ far, farP f r kind right up = some far → K1 .next [some (.int f), some (.int r), some (.int kind), some (.int sq), some (.ref wl), some (.int x), some (.int y), some (.ref fo), some (.int right), some (.int up), some (.tup [.int right.natAbs, .int up.natAbs]), some (.int far), o12, o13] H := by
        intro far e
        have hfar := far_le hf hr hf0 e
        have hw : wayP f r kind sq walls right up = walkP f r x y right up walls (lensP far) := by unfold wayP; rw [e, hx, hy]
        rw [hw] at k1 hwy
        subst hK
        refine Bx.mk ?_; walk_at "zz"
        have hit : items H (.rng 1 (far + 1) 1) = some ((lensP far).map V.int) := by
          have := rng_from 1 (far.toNat + 1) (by omega)
          rw [show ((far.toNat + 1 : Nat) : Int) = far + 1 by omega] at this
          unfold items lensP
          rw [List.map_map]
          exact congrArg some this
        walk_at "zg"
        have hfin : ∀ o12 o13 H, Own' B H [(fo, .list ((s ++ s2 ++ walkP f r x y right up walls (lensP far)).map V.int))] → k .next [some (.int f), some (.int r), some (.int kind), some (.int sq), some (.ref wl), some (.int x), some (.int y), some (.ref fo), some (.int right), some (.int up), some (.tup [.int right.natAbs, .int up.natAbs]), some (.int far), o12, o13] H := by
          intro o12 o13 H O
          exact k1 _ _ ⟨⟨_, _, _, _, _, rfl⟩, by rw [List.length_append]; omega, by rw [← List.append_assoc]; exact O⟩
        refine ⟨(by unfold small; omega), (by unfold small; omega), _, hit, fLoop_inv (fun i l h => (∃ o12 o13, l = [some (.int f), some (.int r), some (.int kind), some (.int sq), some (.ref wl), some (.int x), some (.int y), some (.ref fo), some (.int right), some (.int up), some (.tup [.int right.natAbs, .int up.natAbs]), some (.int far), o12, o13]) ∧
          ∃ pre, walkP f r x y right up walls (lensP far) = pre ++ walkP f r x y right up walls ((lensP far).drop i) ∧ Own' B h [(fo, .list ((s ++ s2 ++ pre).map V.int))]) ?_ ?_ ?_⟩
        rotate_left
        · rintro l H ⟨⟨o12, o13, rfl⟩, pre, h1, O⟩
          rw [List.length_map, List.drop_length, show walkP f r x y right up walls [] = [] from rfl, List.append_nil] at h1
          rw [← h1] at O
          refine ⟨hit, ?_⟩; walk_at "zz"
          walk_at "zz"
          exact hfin _ _ _ O
        · exact ⟨⟨_, _, rfl⟩, [], rfl, by rw [List.append_nil]; exact O⟩
        · rintro i v l H K hv ⟨⟨o12, o13, rfl⟩, pre, h1, O⟩ kn _ kb _
          refine ⟨hit, ?_⟩; walk_at "zz"
          rw [List.getElem?_map] at hv
          obtain ⟨len, hlen, rfl⟩ := Option.map_eq_some_iff.mp hv
          have hdrop : (lensP far).drop i = len :: (lensP far).drop (i + 1) := by
            have h := List.getElem?_eq_some_iff.mp hlen
            rw [← h.2, List.getElem_cons_drop]
          rw [hdrop] at h1
          have hpl : pre.length ≤ 9 := by rw [h1, List.length_append] at hwy; omega
          rw [walk_cons] at h1
          walk_at "zg"
          have hlen9 : 1 ≤ len ∧ len ≤ 9 := by
            have := List.mem_of_getElem? hlen
            unfold lensP at this
            obtain ⟨z, hz, rfl⟩ := List.mem_map.mp this
            rw [iot_mem_iff] at hz
            omega
          refine ⟨.inr (by unfold small; omega), .inr (by unfold small; omega), ?_⟩; walk_at "zz"
          have brk : inB f r (x + right * len, y + up * len) = false → K .brk [some (.int f), some (.int r), some (.int kind), some (.int sq), some (.ref wl), some (.int x), some (.int y), some (.ref fo), some (.int right), some (.int up), some (.tup [.int right.natAbs, .int up.natAbs]), some (.int far), some (.int len), some (.tup [.int (x + right * len), .int (y + up * len)])] H := by
            intro hb
            rw [if_neg (by rw [hb]; decide), List.append_nil] at h1
            rw [← h1] at O
            refine kb _ _ ?_; walk_at "zz"
            walk_at "zz"
            exact hfin _ _ _ O
          walk_at "zg"
          cases a1 : decide (0 ≤ x + right * len) <;> walk_at "zz"
          · walk_at "zg"
            exact brk (by unfold inB; rw [a1]; rfl)
          cases a2 : decide (x + right * len < (f : Int)) <;> walk_at "zz"
          · walk_at "zg"
            exact brk (by unfold inB; rw [a2, Bool.and_false]; rfl)
          cases a3 : decide (0 ≤ y + up * len) <;> walk_at "zz"
          · walk_at "zg"
            exact brk (by unfold inB; rw [a3, Bool.false_and, Bool.and_false])
          cases a4 : decide (y + up * len < (r : Int)) <;> walk_at "zz"
          · walk_at "zg"
            exact brk (by unfold inB; rw [a4, Bool.and_false, Bool.and_false])
          have hb : inB f r (x + right * len, y + up * len) = true := by unfold inB; rw [a1, a2, a3, a4]; rfl
          rw [if_pos hb] at h1
          walk_at "zz"
          have ho := O.get 0 rfl
          walk_at "zg"
          refine ⟨.inr (by unfold small; omega), ?_⟩; walk_at "zz"
          refine ⟨by simp only [List.length_map, List.length_append]; omega, ?_⟩; walk_at "zz"
          (try refine Bx.mk ?_); (first | refine tPut1 O 0 rfl fun H O => ?_ | refine tPutK O 0 rfl fun H O => ?_); walk_at "zz"
          walk_at "zg"
          refine sLast (O.get 0 rfl) ?_; walk_at "zz"
          refine inList (O.ext _ _ hwl) ?_; walk_at "zz"
          rw [← mapInt_snoc] at O
          cases a5 : decide ((y + up * len) * (f : Int) + (x + right * len) ∈ walls) <;> walk_at "zz"
          · rw [if_neg (by rw [a5]; decide)] at h1
            refine kn _ _ ⟨⟨_, _, rfl⟩, pre ++ [(y + up * len) * (f : Int) + (x + right * len)], by rw [h1]; simp, by rw [← List.append_assoc]; exact O⟩
          · rw [if_pos a5] at h1
            walk_at "zg"
            refine kb _ _ ?_; walk_at "zz"
            walk_at "zz"
            refine hfin _ _ _ ?_; walk_at "zz"
            rw [h1, ← List.append_assoc]
            exact O
      clear k1 k2
      have fA : farP f r kind right up = if (decide (kind = 2) && ((decide ((right.natAbs : Int) = 1) && decide ((up.natAbs : Int) = 2)) || (decide ((right.natAbs : Int) = 2) && decide ((up.natAbs : Int) = 1)))) = true then some 1
        else if (((decide (kind = 3) || decide (kind = 5)) && (decide ((right.natAbs : Int) = 1) && decide ((up.natAbs : Int) = 1))) || ((decide (kind = 4) || decide (kind = 5)) && ((decide ((right.natAbs : Int) = 0) && decide ((up.natAbs : Int) = 1)) || (decide ((right.natAbs : Int) = 1) && decide ((up.natAbs : Int) = 0))))) = true then some (max (f : Int) (r : Int)) else none := rfl
      change wpE (wpCall fns (n + 1)) _ true _ _ _
      refine far_test1 rfl rfl ?_; walk_at "zz"
      cases b1 : (decide (kind = 2) && ((decide ((right.natAbs : Int) = 1) && decide ((up.natAbs : Int) = 2)) || (decide ((right.natAbs : Int) = 2) && decide ((up.natAbs : Int) = 1)))) <;> rw [b1] at fA <;> walk_at "zz"
      · rw [if_neg (by decide)] at fA
        refine tK ?_ -- here
        change wpE (wpCall fns (n + 1)) _ true _ _ _
        refine far_test2 rfl rfl ?_; walk_at "zz"
        cases b2 : (((decide (kind = 3) || decide (kind = 5)) && (decide ((right.natAbs : Int) = 1) && decide ((up.natAbs : Int) = 1))) || ((decide (kind = 4) || decide (kind = 5)) && ((decide ((right.natAbs : Int) = 0) && decide ((up.natAbs : Int) = 1)) || (decide ((right.natAbs : Int) = 1) && decide ((up.natAbs : Int) = 0))))) <;> rw [b2] at fA <;> walk_at "zz"
        · rw [if_neg (by decide)] at fA
          walk_at "zg"
          subst hK
          walk_at "zz"
          exact J0 fA
        · rw [if_pos rfl] at fA
          walk_at "zg"
          exact J1 _ fA
      · rw [if_pos rfl] at fA
        walk_at "zg"
        exact J1 _ fA
    · obtain ⟨⟨o9, o10, o11, o12, o13, hl⟩, hs2, O⟩ := hq4
      subst hl
      walk_at "zz"
      refine k1 _ _ ⟨⟨_, _, _, _, _, _, rfl⟩, ?_, O⟩
      have := flat_lenF (F := fun up => wayP f r kind sq walls right up) (k := 9) [(-2 : Int), -1, 0, 1, 2] (fun up => way_len hf hr hf0)
      rw [List.length_append]
      simp only [List.length_cons, List.length_nil] at this
      omega
  · obtain ⟨⟨o8, o9, o10, o11, o12, o13, hl⟩, hs, O⟩ := hq2
    subst hl
    walk_at "zz"
    walk_at "zz"
    walk_at "zg"
    refine ⟨reachedP f r kind sq walls, O.get 0 rfl, h64, fun c js h1 h2 hc => ?_⟩; walk_at "zz"
    replace O := O.alloc (o := .list (js.map V.int)) hc
    exact q _ _ js h1 h2 (O.pick [0] (by decide))
open PySem PySem.W PyProof.Rows PySem.Calls

structure Game (H : HH) (gm x tab f r : Nat) (kind : Int) (T : List Int) : Prop where
  W : Wd H x tab f r kind T
  hg : H gm = some (.sdict [.ref x, .int f, .int r, .int kind, .ref tab])
  rnd : ∀ sq ∈ iot (f * r), roundP f r sq = (iot (f * r)).filter (tb (gi (kingP f r) sq))
  rch : ∀ kind : Int, 2 ≤ kind → kind ≤ 5 → ∀ sq ∈ iot (f * r), reachOk f r kind sq = true
theorem Game.mono {H H' : HH} {gm x tab f r : Nat} {kind : Int} {T : List Int} (g : Game H gm x tab f r kind T) (E : Ext H H') : Game H' gm x tab f r kind T := ⟨g.W.mono E, E _ _ g.hg, g.rnd, g.rch⟩
noncomputable def placeV (q : Pl) : V := .tup [.int q.1, .int q.2.1, .int q.2.2.1, .int q.2.2.2]
noncomputable def rowV (T : List Int) (q : Pl) (m : Mv) : V := .tup [.int m.1, .int m.2.1, .int (told T m), if m.2.2 = -1 then .none else placeV (nextP q m)]
theorem c_told {n : Nat} {H : HH} {gm x tab f r : Nat} {kind : Int} {T : List Int} {q : Pl} {Q : V → HH → Prop} (g : Game H gm x tab f r kind T) (VV : VPl (f * r : Nat) q)
    (k : Q (.int (gi T (ix (f * r : Nat) q))) H) : wc (n + 3) 29 [.ref gm, placeV q] H Q := by
  refine ⟨D_law_told, rfl, rfl, ?_⟩; walk_at "zz"
  change wpSs _ B_law_told [some (.ref gm), some (placeV q)] H _
  unfold B_law_told placeV
  have hg := g.hg
  walk_at "zg"
  exact c_probe g.W VV k
theorem c_told4 {n : Nat} {H : HH} {gm x tab f r : Nat} {kind : Int} {T : List Int} {a s p w : Int} {Q : V → HH → Prop} (g : Game H gm x tab f r kind T) (VV : VPl (f * r : Nat) (a, s, p, w))
    (k : Q (.int (gi T (idx (f * r : Nat) a s p w))) H) : wc (n + 3) 29 [.ref gm, .tup [.int a, .int s, .int p, .int w]] H Q := c_told (q := (a, s, p, w)) g VV k
theorem iot_sorted (n : Nat) : (iot n).Pairwise (· ≤ ·) := by
  unfold iot
  exact List.Pairwise.map _ (fun a b (h : a < b) => by show (a : Int) ≤ b; omega) List.pairwise_lt_range
theorem flatMap_filter {α : Type} (p : Int → Bool) (F : Int → List α) (l : List Int) : (l.filter p).flatMap F = l.flatMap fun x => if p x then F x else [] := by
  induction l with
  | nil => rfl
  | cons x l ih =>
    rw [List.filter_cons, List.flatMap_cons]
    cases h : p x
    · rw [if_neg (by decide), if_neg (by decide), ih]; rfl
    · rw [if_pos rfl, if_pos rfl, List.flatMap_cons, ih]
theorem filt_len (p : Int → Bool) (n : Nat) : ((iot n).filter p).length ≤ n := by
  have := List.length_filter_le p (iot n)
  rw [iot_len] at this; exact this
/-- the choices of the bare king -/
noncomputable def wChoice (f r : Nat) (T : List Int) (s p w g : Int) : List Mv :=
  if g = p then (if tb (gi (kingP f r) s) p then [] else [(w, g, -1)])
  else if gi T (idx (f * r : Nat) 0 s p g) = -2 then [] else [(w, g, idx (f * r : Nat) 0 s p g)]
theorem c_wchoices {n : Nat} {B : HH} {gm x tab f r : Nat} {kind : Int} {T : List Int} {s p w : Int} {Q : V → HH → Prop} (g : Game B gm x tab f r kind T) (VV : VPl (f * r : Nat) (1, s, p, w)) (hd : p ≠ s ∧ w ≠ s ∧ w ≠ p)
    (k : ∀ H' c, Own' B H' [(c, .list ((mvs f r T kind (1, s, p, w)).map (rowV T (1, s, p, w))))] → Q (.ref c) H') : wc (n + 4) 30 [.ref gm, placeV (1, s, p, w)] B Q := by
  refine ⟨D_law_choices, rfl, rfl, ?_⟩; walk_at "zz"
  change wpSs _ B_law_choices [some (.ref gm), some (.tup [.int 1, .int s, .int p, .int w]), none, none, none, none, none, none] B _
  unfold B_law_choices
  unfold VPl at VV
  dsimp only at VV
  have O := Own'.nil B
  have szl' : (2000 : Nat) ≤ szl := by decide
  have sz := g.W.Z.sz
  have f1 := g.W.Z.f1
  have f9 := g.W.Z.f9
  have hg0 := g.hg
  walk_at "zg"
  walk_at "zg"
  intro out h_out; replace O := O.alloc (o := .list []) h_out; revert O; generalize HH.set _ out _ = H; intro O; walk_at "zz"
  walk_at "zg"
  have hg := O.ext _ _ hg0
  walk_at "zg"
  refine c_round (by omega) (by omega) fun H' ro N => ?_; walk_at "zz"
  replace O := O.comp N
  clear N
  rw [g.rnd w (iot_mem_iff.mpr ⟨VV.w0, VV.w1⟩)] at O
  have hmem : ∀ y ∈ (iot (f * r)).filter (tb (gi (kingP f r) w)), 0 ≤ y ∧ y < (f * r : Nat) := fun y hy => iot_mem_iff.mp (List.mem_filter.mp hy).1
  have hM : ((iot (f * r)).filter (tb (gi (kingP f r) w))).flatMap (wChoice f r T s p w) = mvs f r T kind (1, s, p, w) := by
    rw [flatMap_filter]; rfl
  have hlen := filt_len (tb (gi (kingP f r) w)) (f * r)
  generalize (iot (f * r)).filter (tb (gi (kingP f r) w)) = xs at O hmem hM hlen
  walk_at "zz"
  refine tFlatI (xs := xs) (wChoice f r T s p w) (fun i m l h => (∃ o7, l = [some (.ref gm), some (.tup [.int 1, .int s, .int p, .int w]), some (.int 1), some (.int s), some (.int p), some (.int w), some (.ref out), o7]) ∧ m.length ≤ i ∧
      Own' B h [(ro, .list (xs.map V.int)), (out, .list (m.map (rowV T (1, s, p, w))))])
    (fun _ _ _ _ ⟨_, _, O⟩ => items_list (O.get 0 rfl)) ⟨⟨_, rfl⟩, Nat.le_refl _, O⟩ (fun i m y l H k hv hq1 k1 _ => ?_) (fun l H hq2 => ?_)
  · obtain ⟨⟨o7, hl⟩, hm, O⟩ := hq1
    subst hl
    walk_at "zz"
    have hi := (List.getElem?_eq_some_iff.mp hv).1
    have hy := hmem y (List.mem_of_getElem? hv)
    have V' : VPl (f * r : Nat) (0, s, p, y) := ⟨by dsimp only; omega, by dsimp only; omega, VV.s0, VV.s1, VV.p0, VV.p1, hy.1, hy.2⟩
    have hg := O.ext _ _ hg0
    unfold wChoice at k1
    walk_at "zg"
    cases c1 : decide (y = p) <;> walk_at "zz"
    · rw [if_neg (of_decide_eq_false c1)] at k1
      walk_at "zg"
      (try rw [c1])
      walk_at "zz"
      refine c_told4 (g.mono O.ext) V' ?_; walk_at "zz"
      walk_at "zz"
      cases c2 : decide (gi T (idx (f * r : Nat) 0 s p y) = -2) <;> walk_at "zz"
      · rw [if_neg (of_decide_eq_false c2)] at k1
        have ho := O.get 1 rfl
        walk_at "zg"
        refine c_told4 (g.mono O.ext) V' ?_; walk_at "zz"
        walk_at "zz"
        refine ⟨by rw [List.length_map]; omega, ?_⟩; walk_at "zz"
        (try refine Bx.mk ?_); (first | refine tPut1 O 1 rfl fun H O => ?_ | refine tPutK O 1 rfl fun H O => ?_); walk_at "zz"
        refine k1 _ _ ⟨⟨_, rfl⟩, by simp; omega, ?_⟩; walk_at "zz"
        have e : rowV T (1, s, p, w) (w, y, idx (f * r : Nat) 0 s p y) = .tup [.int w, .int y, .int (gi T (idx (f * r : Nat) 0 s p y)), .tup [.int 0, .int s, .int p, .int y]] := by
          have h0 : idx (f * r : Nat) 0 s p y ≠ -1 := by have := Val.lt (show Val (f * r : Nat) 0 s p y from V'); omega
          unfold rowV told nextP
          dsimp only
          rw [if_neg h0, if_neg h0, if_neg hd.2.1, if_neg hd.2.2]; rfl
        rw [List.map_append, List.map_singleton, e]
        exact O
      · rw [if_pos (of_decide_eq_true c2)] at k1
        exact k1 _ _ ⟨⟨_, rfl⟩, by simp; omega, by simpa using O⟩
    · rw [if_pos (of_decide_eq_true c1)] at k1
      refine c_round (by omega) (by omega) fun H' ro2 N => ?_; walk_at "zz"
      replace O := O.comp N
      clear N
      rw [g.rnd s (iot_mem_iff.mpr ⟨VV.s0, VV.s1⟩)] at O
      refine inList (O.get 0 rfl) ?_; walk_at "zz"
      have em : decide (p ∈ (iot (f * r)).filter (tb (gi (kingP f r) s))) = tb (gi (kingP f r) s) p := by
        cases h : tb (gi (kingP f r) s) p
        · exact decide_eq_false fun q => by rw [(List.mem_filter.mp q).2] at h; cases h
        · exact decide_eq_true (List.mem_filter.mpr ⟨iot_mem_iff.mpr ⟨VV.p0, VV.p1⟩, h⟩)
      rw [em]
      replace O := O.pick [1, 2] (by decide)
      cases c2 : tb (gi (kingP f r) s) p <;> walk_at "zz"
      · rw [c2, if_neg (by decide)] at k1
        have ho := O.get 1 rfl
        walk_at "zg"
        refine ⟨by rw [List.length_map]; omega, ?_⟩; walk_at "zz"
        (try refine Bx.mk ?_); (first | refine tPut1 O 1 rfl fun H O => ?_ | refine tPutK O 1 rfl fun H O => ?_); walk_at "zz"
        refine k1 _ _ ⟨⟨_, rfl⟩, by simp; omega, ?_⟩; walk_at "zz"
        rw [List.map_append]
        exact O
      · rw [c2, if_pos rfl] at k1
        walk_at "zg"
        (try rw [c1])
        walk_at "zz"
        exact k1 _ _ ⟨⟨_, rfl⟩, by simp; omega, by simpa using O⟩
  · obtain ⟨⟨o7, hl⟩, hm, O⟩ := hq2
    subst hl
    walk_at "zz"
    rw [hM] at O
    walk_at "zz"
    walk_at "zg"
    exact k _ _ (O.pick [1] (by decide))
open PySem PySem.W PyProof.Rows PySem.Calls

noncomputable def kChoice (f r : Nat) (T : List Int) (s p w g : Int) : List Mv := if gi T (idx (f * r : Nat) 1 g p w) = -2 then [] else [(s, g, idx (f * r : Nat) 1 g p w)]
noncomputable def mChoice (f r : Nat) (T : List Int) (s p w g : Int) : List Mv := if gi T (idx (f * r : Nat) 1 s g w) = -2 then [] else [(p, g, idx (f * r : Nat) 1 s g w)]
theorem c_schoices {n : Nat} {B : HH} {gm x tab f r : Nat} {kind : Int} {T : List Int} {s p w : Int} {Q : V → HH → Prop} (g : Game B gm x tab f r kind T) (VV : VPl (f * r : Nat) (0, s, p, w)) (hd : p ≠ s ∧ w ≠ s ∧ w ≠ p)
    (k : ∀ H' c, Own' B H' [(c, .list ((mvs f r T kind (0, s, p, w)).map (rowV T (0, s, p, w))))] → Q (.ref c) H') : wc (n + 4) 30 [.ref gm, placeV (0, s, p, w)] B Q := by
  refine ⟨D_law_choices, rfl, rfl, ?_⟩; walk_at "zz"
  change wpSs _ B_law_choices [some (.ref gm), some (.tup [.int 0, .int s, .int p, .int w]), none, none, none, none, none, none] B _
  unfold B_law_choices
  unfold VPl at VV
  dsimp only at VV
  have O := Own'.nil B
  have szl' : (2000 : Nat) ≤ szl := by decide
  have sz := g.W.Z.sz
  have f1 := g.W.Z.f1
  have f9 := g.W.Z.f9
  have r5 := g.W.Z.r5
  have hg0 := g.hg
  walk_at "zg"
  walk_at "zg"
  intro out h_out; replace O := O.alloc (o := .list []) h_out; revert O; generalize HH.set _ out _ = H; intro O; walk_at "zz"
  walk_at "zg"
  walk_at "zz"
  have hg := O.ext _ _ hg0
  walk_at "zg"
  refine c_round (by omega) (by omega) fun H' ro N => ?_; walk_at "zz"
  replace O := O.comp N
  clear N
  rw [g.rnd s (iot_mem_iff.mpr ⟨VV.s0, VV.s1⟩)] at O
  have hmem : ∀ y ∈ (iot (f * r)).filter (tb (gi (kingP f r) s)), 0 ≤ y ∧ y < (f * r : Nat) := fun y hy => iot_mem_iff.mp (List.mem_filter.mp hy).1
  have hM1 : ((iot (f * r)).filter (tb (gi (kingP f r) s))).flatMap (kChoice f r T s p w) = (iot (f * r)).flatMap (strongK f r T s p w) := by
    rw [flatMap_filter]; rfl
  have hlen := filt_len (tb (gi (kingP f r) s)) (f * r)
  generalize (iot (f * r)).filter (tb (gi (kingP f r) s)) = xs at O hmem hM1 hlen
  walk_at "zz"
  refine tFlatI (xs := xs) (kChoice f r T s p w) (fun i m l h => (∃ o7, l = [some (.ref gm), some (.tup [.int 0, .int s, .int p, .int w]), some (.int 0), some (.int s), some (.int p), some (.int w), some (.ref out), o7]) ∧ m.length ≤ i ∧
      Own' B h [(ro, .list (xs.map V.int)), (out, .list (m.map (rowV T (0, s, p, w))))])
    (fun _ _ _ _ ⟨_, _, O⟩ => items_list (O.get 0 rfl)) ⟨⟨_, rfl⟩, Nat.le_refl _, O⟩ (fun i m y l H k hv hq1 k1 _ => ?_) (fun l H hq2 => ?_)
  · obtain ⟨⟨o7, hl⟩, hm, O⟩ := hq1
    subst hl
    walk_at "zz"
    have hi := (List.getElem?_eq_some_iff.mp hv).1
    have hy := hmem y (List.mem_of_getElem? hv)
    have V' : VPl (f * r : Nat) (1, y, p, w) := ⟨by dsimp only; omega, by dsimp only; omega, hy.1, hy.2, VV.p0, VV.p1, VV.w0, VV.w1⟩
    unfold kChoice at k1
    walk_at "zg"
    refine c_told4 (g.mono O.ext) V' ?_; walk_at "zz"
    walk_at "zz"
    cases c2 : decide (gi T (idx (f * r : Nat) 1 y p w) = -2) <;> walk_at "zz"
    · rw [if_neg (of_decide_eq_false c2)] at k1
      have ho := O.get 1 rfl
      walk_at "zg"
      refine c_told4 (g.mono O.ext) V' ?_; walk_at "zz"
      walk_at "zz"
      refine ⟨by rw [List.length_map]; omega, ?_⟩; walk_at "zz"
      (try refine Bx.mk ?_); (first | refine tPut1 O 1 rfl fun H O => ?_ | refine tPutK O 1 rfl fun H O => ?_); walk_at "zz"
      refine k1 _ _ ⟨⟨_, rfl⟩, by simp; omega, ?_⟩; walk_at "zz"
      have e : rowV T (0, s, p, w) (s, y, idx (f * r : Nat) 1 y p w) = .tup [.int s, .int y, .int (gi T (idx (f * r : Nat) 1 y p w)), .tup [.int 1, .int y, .int p, .int w]] := by
        have h0 : idx (f * r : Nat) 1 y p w ≠ -1 := by have := Val.lt (show Val (f * r : Nat) 1 y p w from V'); omega
        unfold rowV told nextP
        dsimp only
        rw [if_neg h0, if_neg h0, if_pos rfl]; rfl
      rw [List.map_append, List.map_singleton, e]
      exact O
    · rw [if_pos (of_decide_eq_true c2)] at k1
      exact k1 _ _ ⟨⟨_, rfl⟩, by simp; omega, by simpa using O⟩
  · obtain ⟨⟨o7, hl⟩, hm1, O⟩ := hq2
    subst hl
    walk_at "zz"
    rw [hM1] at O
    have hl1 := flat_len (strongK_len f r T s p w) (iot (f * r))
    rw [iot_len] at hl1
    replace O := O.pick [1] (by decide)
    walk_at "zz"
    have hg := O.ext _ _ hg0
    walk_at "zg"
    intro wl h_wl; replace O := O.alloc (o := .list [.int s, .int w]) h_wl; revert O; generalize HH.set _ wl _ = H; intro O; walk_at "zz"
    have hpr : (reachedP f r kind p [s, w]).Perm ((iot (f * r)).filter (tb (attP f r kind p (occP s w)))) := by
      have h := g.rch kind g.W.k0 g.W.k5 p (iot_mem_iff.mpr ⟨VV.p0, VV.p1⟩)
      unfold reachOk at h
      have h2 := List.all_eq_true.mp h s (iot_mem_iff.mpr ⟨VV.s0, VV.s1⟩)
      have h3 := List.all_eq_true.mp h2 w (iot_mem_iff.mpr ⟨VV.w0, VV.w1⟩)
      exact List.isPerm_iff.mp h3
    have hlen2 := filt_len (tb (attP f r kind p (occP s w))) (f * r)
    refine c_reached (walls := [s, w]) (by omega) (by omega) (by omega) (O.get 0 rfl) (by rw [hpr.length_eq]; omega) fun H' re js j1 j2 N => ?_; walk_at "zz"
    have hjs : js = (iot (f * r)).filter (tb (attP f r kind p (occP s w))) :=
      List.Perm.eq_of_pairwise (le := (· ≤ ·)) (fun a b _ _ h1 h2 => Int.le_antisymm h1 h2) j2 ((iot_sorted _).filter _) (j1.trans hpr)
    subst hjs
    replace O := O.comp N
    clear N j1 j2
    have hmem : ∀ y ∈ (iot (f * r)).filter (tb (attP f r kind p (occP s w))), 0 ≤ y ∧ y < (f * r : Nat) := fun y hy => iot_mem_iff.mp (List.mem_filter.mp hy).1
    have hM2 : ((iot (f * r)).filter (tb (attP f r kind p (occP s w)))).flatMap (mChoice f r T s p w) = (iot (f * r)).flatMap (strongS f r T kind s p w) := by
      rw [flatMap_filter]; rfl
    have hMM : mvs f r T kind (0, s, p, w) = (iot (f * r)).flatMap (strongK f r T s p w) ++ (iot (f * r)).flatMap (strongS f r T kind s p w) := rfl
    rw [hMM] at k
    generalize (iot (f * r)).filter (tb (attP f r kind p (occP s w))) = ys at O hmem hM2 hlen2
    generalize (iot (f * r)).flatMap (strongK f r T s p w) = M1 at *
    walk_at "zz"
    refine tFlatI (xs := ys) (mChoice f r T s p w) (fun i m l h => (∃ o7, l = [some (.ref gm), some (.tup [.int 0, .int s, .int p, .int w]), some (.int 0), some (.int s), some (.int p), some (.int w), some (.ref out), o7]) ∧ m.length ≤ i ∧
        Own' B h [(re, .list (ys.map V.int)), (out, .list ((M1 ++ m).map (rowV T (0, s, p, w))))])
      (fun _ _ _ _ ⟨_, _, O⟩ => items_list (O.get 0 rfl)) ⟨⟨_, rfl⟩, Nat.le_refl _, by rw [List.append_nil]; exact O.pick [0, 2] (by decide)⟩ (fun i m y l H k hv hq3 k1 _ => ?_) (fun l H hq4 => ?_)
    · obtain ⟨⟨o7, hl⟩, hm, O⟩ := hq3
      subst hl
      walk_at "zz"
      have hi := (List.getElem?_eq_some_iff.mp hv).1
      have hy := hmem y (List.mem_of_getElem? hv)
      have V' : VPl (f * r : Nat) (1, s, y, w) := ⟨by dsimp only; omega, by dsimp only; omega, VV.s0, VV.s1, hy.1, hy.2, VV.w0, VV.w1⟩
      unfold mChoice at k1
      walk_at "zg"
      refine c_told4 (g.mono O.ext) V' ?_; walk_at "zz"
      walk_at "zz"
      cases c2 : decide (gi T (idx (f * r : Nat) 1 s y w) = -2) <;> walk_at "zz"
      · rw [if_neg (of_decide_eq_false c2)] at k1
        have ho := O.get 1 rfl
        walk_at "zg"
        refine c_told4 (g.mono O.ext) V' ?_; walk_at "zz"
        walk_at "zz"
        refine ⟨by rw [List.length_map, List.length_append]; omega, ?_⟩; walk_at "zz"
        (try refine Bx.mk ?_); (first | refine tPut1 O 1 rfl fun H O => ?_ | refine tPutK O 1 rfl fun H O => ?_); walk_at "zz"
        refine k1 _ _ ⟨⟨_, rfl⟩, by simp; omega, ?_⟩; walk_at "zz"
        have e : rowV T (0, s, p, w) (p, y, idx (f * r : Nat) 1 s y w) = .tup [.int p, .int y, .int (gi T (idx (f * r : Nat) 1 s y w)), .tup [.int 1, .int s, .int y, .int w]] := by
          have h0 : idx (f * r : Nat) 1 s y w ≠ -1 := by have := Val.lt (show Val (f * r : Nat) 1 s y w from V'); omega
          unfold rowV told nextP
          dsimp only
          rw [if_neg h0, if_neg h0, if_neg hd.1, if_pos rfl]; rfl
        rw [← List.append_assoc, List.map_append, List.map_singleton, e]
        exact O
      · rw [if_pos (of_decide_eq_true c2)] at k1
        exact k1 _ _ ⟨⟨_, rfl⟩, by simp; omega, by simpa using O⟩
    · obtain ⟨⟨o7, hl⟩, hm, O⟩ := hq4
      subst hl
      walk_at "zz"
      rw [hM2] at O
      walk_at "zz"
      walk_at "zg"
      exact k _ _ (O.pick [1] (by decide))
theorem c_choices {n : Nat} {B : HH} {gm x tab f r : Nat} {kind : Int} {T : List Int} {q : Pl} {Q : V → HH → Prop} (g : Game B gm x tab f r kind T) (VV : VPl (f * r : Nat) q) (hd : q.2.2.1 ≠ q.2.1 ∧ q.2.2.2 ≠ q.2.1 ∧ q.2.2.2 ≠ q.2.2.1)
    (k : ∀ H' c, Own' B H' [(c, .list ((mvs f r T kind q).map (rowV T q)))] → Q (.ref c) H') : wc (n + 4) 30 [.ref gm, placeV q] B Q := by
  obtain ⟨side, s, p, w⟩ := q
  have hs : side = 0 ∨ side = 1 := by
    have h1 := VV.a0
    have h2 := VV.a1
    dsimp only at h1 h2
    omega
  rcases hs with rfl | rfl
  · exact c_schoices g VV hd k
  · exact c_wchoices g VV hd k
open PySem PySem.W PyProof.Rows PySem.Calls

theorem weight_ints {b : Nat} : ∀ (l : List Int), (∀ x ∈ l, x.natAbs < 2 ^ b) → PyData.weightAll (l.map PyData.int) ≤ (b + 2) * l.length
  | [], _ => by simp [PyData.weightAll]
  | x :: l, h => by
    have ih := weight_ints l fun y hy => h y (List.mem_cons_of_mem _ hy)
    have hx := h x List.mem_cons_self
    rw [List.map_cons, PyData.weightAll, List.length_cons, Nat.mul_add]
    have : PyData.weight (.int x) ≤ b + 1 := by
      rw [PyData.weight]
      split
      · omega
      · rename_i h0
        have h1 : x.natAbs ≠ 0 := by
          intro e
          exact h0 (by simpa using e)
        have := (Nat.log2_lt h1).mpr hx
        omega
    omega
theorem canLay_ints : ∀ l : List Int, PyData.canLayAll0 (l.map PyData.int) = true
  | [] => by simp [PyData.canLayAll0]
  | x :: l => by rw [List.map_cons, PyData.canLayAll0, canLay_ints l]; simp [PyData.canLay0]
theorem lay_ints {l : List Int} (h : ∀ x ∈ l, x.natAbs < 2 ^ 20) (hl : l.length ≤ 1000) : PyData.layable0 (.list (l.map PyData.int)) = true := by
  have h1 := weight_ints l h
  have h2 := depth_ints l
  unfold PyData.layable0
  rw [PyData.canLay0, canLay_ints, PyData.weight, decide_eq_true (by omega), decide_eq_true (by omega)]; rfl
noncomputable def rowD (T : List Int) (q : Pl) (m : Mv) : PyData := .tuple [.int m.1, .int m.2.1, .int (told T m), if m.2.2 = -1 then .none else .tuple [.int (nextP q m).1, .int (nextP q m).2.1, .int (nextP q m).2.2.1, .int (nextP q m).2.2.2]]
theorem pd0_row (T : List Int) (q : Pl) (m : Mv) : pd0 (rowV T q m) = some (rowD T q m) := by
  unfold rowV rowD
  split <;> rfl
theorem pds0_rows (T : List Int) (q : Pl) : ∀ M : List Mv, pds0 (M.map (rowV T q)) = some (M.map (rowD T q))
  | [] => rfl
  | m :: M => by rw [List.map_cons, pds0, pd0_row, pds0_rows T q M]; rfl
theorem depth_row (T : List Int) (q : Pl) (m : Mv) : (rowD T q m).depth ≤ 2 := by
  unfold rowD
  split <;> exact Nat.le_of_ble_eq_true rfl
theorem depth_rows (T : List Int) (q : Pl) (M : List Mv) : (PyData.list (M.map (rowD T q))).depth ≤ 8 := by
  have h : ∀ M : List Mv, PyData.depthAll (M.map (rowD T q)) ≤ 2 := by
    intro M
    induction M with
    | nil => simp [PyData.depthAll]
    | cons x M ih => rw [List.map_cons, PyData.depthAll]; have := depth_row T q x; omega
  rw [PyData.depth]; have := h M; omega
theorem pd1_rows {H : HH} {a : Nat} {T : List Int} {q : Pl} {M : List Mv} (h : H a = some (.list (M.map (rowV T q)))) : pd1 H (.ref a) = some (.list (M.map (rowD T q))) := by
  unfold pd1; simp only [h, pds0_rows]; rfl
theorem flatMap_one {α β : Type} {F : α → β} : ∀ l : List α, (l.flatMap fun x => [F x]) = l.map F
  | [] => rfl
  | x :: l => by rw [List.flatMap_cons, flatMap_one l]; rfl
theorem biMaxL {l : Nat} {H : HH} {Q : V → HH → Prop} : biV .max [.ref l] H Q = ∃ is : List Int, H l = some (.list (is.map V.int)) ∧ is ≠ [] ∧ ∀ m, m ∈ is → (∀ x ∈ is, x ≤ m) → Q (.int m) H := rfl
theorem biMinL {l : Nat} {H : HH} {Q : V → HH → Prop} : biV .min [.ref l] H Q = ∃ is : List Int, H l = some (.list (is.map V.int)) ∧ is ≠ [] ∧ ∀ m, m ∈ is → (∀ x ∈ is, m ≤ x) → Q (.int m) H := rfl
noncomputable def pickV (T : List Int) (q : Pl) : Option (Mv × Int) → V
  | none => .none
  | some (m, _) => rowV T q m
theorem c_pick {n : Nat} {B : HH} {gm x tab f r : Nat} {kind : Int} {T : List Int} {q : Pl} {Q : V → HH → Prop} (g : Game B gm x tab f r kind T) (VV : VPl (f * r : Nat) q) (hd : q.2.2.1 ≠ q.2.1 ∧ q.2.2.2 ≠ q.2.1 ∧ q.2.2.2 ≠ q.2.2.1)
    (k : ∀ H', Ext B H' → Q (pickV T q (bestA T.length q.1 T (mvs f r T kind q))) H') : wc (n + 5) 31 [.ref gm, placeV q] B Q := by
  refine ⟨D_law_pick, rfl, rfl, ?_⟩; walk_at "zz"
  change wpSs _ B_law_pick [some (.ref gm), some (placeV q), none, none, none] B _
  unfold B_law_pick
  have O := Own'.nil B
  have szl' : (2000 : Nat) ≤ szl := by decide
  have sz := g.W.Z.sz
  have hT := g.W.K.len
  have n3 : 2 * (f * r) * (f * r) * (f * r) ≤ 2 * 9 * 9 * 9 := Nat.mul_le_mul (Nat.mul_le_mul (Nat.mul_le_mul (Nat.le_refl _) (by omega)) (by omega)) (by omega)
  have hlen : (mvs f r T kind q).length ≤ 2 * (f * r) := moves_len f r T kind _ _ _ _
  have hrng := told_rng g.W.K VV hd
  have side : q.1 = 0 ∨ q.1 = 1 := by have := VV.a0; have := VV.a1; omega
  walk_at "zg"
  refine c_choices g VV hd fun H ro O => ?_; walk_at "zz"
  have hpb := fun b m => @pick_best T.length q.1 b T (mvs f r T kind q) m hrng
  generalize mvs f r T kind q = M at *
  walk_at "zz"
  walk_at "zg"
  refine ⟨_, items_list (O.get 0 rfl), by rw [List.length_map]; omega, ?_⟩; walk_at "zz"
  intro pl h_pl; replace O := O.alloc (o := .list []) h_pl; revert O; generalize HH.set _ pl _ = H; intro O; walk_at "zz"
  refine cFlatM (xs := M) (rowV T q) (fun m => [told T m]) (fun s h => Own' B h [(pl, .list (s.map V.int)), (ro, .list (M.map (rowV T q)))])
    (fun _ _ O => items_list (O.get 1 rfl)) O (fun s m H k _ hsl O k1 => ?_) (fun H O => ?_)
  · rw [flatMap_one, List.length_map] at hsl
    walk_at "zz"; (try simp only [rowV]); walk_at "zz"
    refine ⟨_, O.get 0 rfl, by rw [List.length_map]; omega, ?_⟩; walk_at "zz"
    refine k1 _ ?_; walk_at "zz"
    rw [List.map_append]
    exact O.upd 0 (o' := .list (s.map V.int ++ [V.int (told T m)])) rfl
  · rw [flatMap_one] at O
    walk_at "zg"
    intro e h_e; replace O := O.alloc (o := .list []) h_e; revert O; generalize HH.set _ e _ = H; intro O; walk_at "zz"
    simp only [eRef]
    refine ⟨_, _, pd1_rows (O.get 2 rfl), pd1_ints (l := []) (O.get 0 rfl), depth_rows _ _ _, depth_ints [], ?_⟩; walk_at "zz"
    replace O := O.pick [1, 2] (by decide)
    by_cases hM : M = []
    · subst hM
      have : PyData.eqv (.list (List.map (rowD T q) [])) (.list (List.map PyData.int [])) = true := rfl
      rw [this]
      walk_at "zz"
      walk_at "zg"
      exact k _ O.ext
    · have he : PyData.eqv (.list (M.map (rowD T q))) (.list (List.map PyData.int [])) = false := by
        cases M with
        | nil => exact absurd rfl hM
        | cons m M => rfl
      rw [he]
      walk_at "zz"
      walk_at "zz"
      have hpl : M.map (told T) ≠ [] := fun z => hM (List.map_eq_nil_iff.mp z)
      have hmr : ∀ y ∈ M.map (told T), -1 ≤ y ∧ y < T.length := fun y hy => by
        obtain ⟨m, hm, rfl⟩ := List.mem_map.mp hy
        exact hrng m hm
      have hlay : PyData.layable0 (.list ((M.map (told T)).map PyData.int)) = true := lay_ints (fun y hy => by have := hmr y hy; omega) (by rw [List.length_map]; omega)
      simp only [placeV]
      (try walk_at "zd"); (try with_reducible refine Bx.mk ?_); refine tK ?_; generalize hK : cF _ _ _ = K1; walk_at "zz"
      have J : ∀ b H, Own' B H [(pl, .list ((M.map (told T)).map V.int)), (ro, .list (M.map (rowV T q)))] → PickB q.1 (M.map (told T)) b → K1 .next [some (.ref gm), some (.tup [.int q.1, .int q.2.1, .int q.2.2.1, .int q.2.2.2]), some (.ref ro), some (.ref pl), some (.int b)] H := by
        intro b H O hb
        subst hK
        refine Bx.mk ?_; walk_at "zz"
        have hi := List.idxOf_lt_length_iff.mpr hb.1
        rw [List.length_map] at hi
        have hm : M[(M.map (told T)).idxOf b]? = some M[(M.map (told T)).idxOf b] := List.getElem?_eq_getElem hi
        generalize M[(M.map (told T)).idxOf b] = m at hm
        obtain ⟨h1, h2⟩ := hpb b m hb hm
        have hp := O.get 0 rfl
        walk_at "zg"; (try simp only [hp]); walk_at "zz"
        refine ⟨pl, _, rfl, hp, M.map (told T), b, rfl, hp, hlay, hb.1, ?_⟩; walk_at "zz"
        refine sList (O.get 1 rfl) (by omega) (by unfold small; omega) (show _ = some (rowV T q m) by rw [List.getElem?_map, show (((M.map (told T)).idxOf b : Nat) : Int).toNat = (M.map (told T)).idxOf b from rfl, hm]; rfl) ?_; walk_at "zz"
        rw [h1] at k
        exact k _ O.ext
      have hp := O.get 0 rfl
      rcases side with h0 | h1
      · rw [show decide (q.1 = 1) = false from decide_eq_false (by omega)]
        walk_at "zz"
        walk_at "zg"
        refine ⟨_, items_list hp, by rw [List.length_map, List.length_map]; omega, ?_⟩; walk_at "zz"
        intro c h_c; replace O := O.alloc (o := .list []) h_c; revert O; generalize HH.set _ c _ = H; intro O; walk_at "zz"
        refine cFlatM (xs := M.map (told T)) V.int (fun y => if decide (0 ≤ y) then [y] else []) (fun s h => Own' B h [(c, .list (s.map V.int)), (pl, .list ((M.map (told T)).map V.int)), (ro, .list (M.map (rowV T q)))])
          (fun _ _ O => items_list (O.get 1 rfl)) O (fun s y H k _ hsl O k1 => ?_) (fun H O => ?_)
        · have h8 := Nat.le_trans hsl (flat_len (fun y => by split <;> simp) _)
          rw [List.length_map] at h8
          walk_at "zz"
          cases c1 : decide (0 ≤ y) <;> rw [c1] at k1 <;> walk_at "zz"
          · exact k1 _ (by simpa using O)
          · refine ⟨_, O.get 0 rfl, by rw [List.length_map]; omega, ?_⟩; walk_at "zz"
            refine k1 _ ?_; walk_at "zz"
            rw [if_pos rfl, List.map_append]
            exact O.upd 0 (o' := .list (s.map V.int ++ [V.int y])) rfl
        · have hlf := flat_len (F := fun y => if decide (0 ≤ y) then [y] else []) (fun y => by split <;> simp) (M.map (told T))
          rw [List.length_map] at hlf
          have hmf : ∀ y, y ∈ (M.map (told T)).flatMap (fun y => if decide (0 ≤ y) then [y] else []) ↔ y ∈ M.map (told T) ∧ 0 ≤ y := by
            intro y
            rw [List.mem_flatMap]
            constructor
            · rintro ⟨z, hz, hy⟩
              split at hy
              · rename_i h
                cases List.mem_singleton.mp hy
                exact ⟨hz, of_decide_eq_true h⟩
              · cases hy
            · rintro ⟨hy, h⟩
              exact ⟨y, hy, by rw [if_pos (decide_eq_true h)]; exact List.mem_singleton.mpr rfl⟩
          generalize (M.map (told T)).flatMap (fun y => if decide (0 ≤ y) then [y] else []) = fs at O hlf hmf
          walk_at "zz"; (try simp only [biMaxL]); walk_at "zz"
          refine ⟨_, O.get 1 rfl, hpl, fun mx hmx hmx2 => ?_⟩; walk_at "zz"
          cases c1 : decide (0 ≤ mx) <;> walk_at "zz"
          · have c1' := of_decide_eq_false c1
            intro d h_d; replace O := O.alloc (o := .list [.int (-1)]) h_d; revert O; generalize HH.set _ d _ = H; intro O; walk_at "zz"
            simp only [bCat]
            refine ⟨_, _, O.get 1 rfl, O.get 0 rfl, by simp only [List.length_map, List.length_cons, List.length_nil]; omega, ?_⟩; walk_at "zz"
            intro u h_u; replace O := O.alloc (o := .list (fs.map V.int ++ [.int (-1)])) h_u; revert O; generalize HH.set _ u _ = H; intro O; walk_at "zz"
            rw [← mapInt_snoc] at O
            walk_at "zz"; (try simp only [biMinL]); walk_at "zz"
            refine ⟨_, O.get 0 rfl, by simp, fun b hb hb2 => ?_⟩; walk_at "zz"
            have hfs : fs = [] := by
              cases fs with
              | nil => rfl
              | cons z fs =>
                have := (hmf z).mp List.mem_cons_self
                have := hmx2 z this.1
                omega
            subst hfs
            cases List.mem_singleton.mp hb
            refine J (-1) _ (O.pick [3, 4] (by decide)) ⟨?_, ?_⟩; walk_at "zz"
            · have := hmr mx hmx
              have : mx = -1 := by omega
              rw [← this]; exact hmx
            · rw [if_pos h0]
              rintro ⟨x, hx, hx0⟩
              have := hmx2 x hx
              omega
          · have c1' := of_decide_eq_true c1
            intro d h_d; replace O := O.alloc (o := .list []) h_d; revert O; generalize HH.set _ d _ = H; intro O; walk_at "zz"
            simp only [bCat]
            refine ⟨_, _, O.get 1 rfl, O.get 0 rfl, by simp only [List.length_map, List.length_nil]; omega, ?_⟩; walk_at "zz"
            intro u h_u; replace O := O.alloc (o := .list (fs.map V.int ++ [])) h_u; revert O; generalize HH.set _ u _ = H; intro O; walk_at "zz"
            rw [List.append_nil] at O
            have hfs : fs ≠ [] := List.ne_nil_of_mem ((hmf mx).mpr ⟨hmx, c1'⟩)
            walk_at "zz"; (try simp only [biMinL]); walk_at "zz"
            refine ⟨_, O.get 0 rfl, hfs, fun b hb hb2 => ?_⟩; walk_at "zz"
            have hb3 := (hmf b).mp hb
            refine J b _ (O.pick [3, 4] (by decide)) ⟨hb3.1, ?_⟩; walk_at "zz"
            rw [if_pos h0]
            exact fun _ => ⟨hb3.2, fun x hx hx0 => hb2 x ((hmf x).mpr ⟨hx, hx0⟩)⟩
      · rw [show decide (q.1 = 1) = true from decide_eq_true h1]
        walk_at "zz"
        walk_at "zg"
        refine inList hp ?_; walk_at "zz"
        cases c1 : decide (-1 ∈ M.map (told T)) <;> walk_at "zz"
        · have c1' := of_decide_eq_false c1
          simp only [biMaxL]
          refine ⟨_, hp, hpl, fun mx hmx hmx2 => ?_⟩; walk_at "zz"
          refine J mx _ O ⟨hmx, ?_⟩; walk_at "zz"
          rw [if_neg (by omega)]
          exact ⟨fun z => absurd z c1', fun _ => hmx2⟩
        · have c1' := of_decide_eq_true c1
          refine J (-1) _ O ⟨c1', ?_⟩; walk_at "zz"
          rw [if_neg (by omega)]
          exact ⟨fun _ => rfl, fun z => absurd c1' z⟩
open PySem PySem.W PyProof.Rows PySem.Calls

noncomputable def d2 (m : Int × Int) : PyData := .tuple [.int m.1, .int m.2]
theorem pds0_tup2 : ∀ L : List (Int × Int), pds0 (L.map tup2) = some (L.map d2)
  | [] => rfl
  | m :: L => by
    rw [List.map_cons, pds0, pds0_tup2 L]; rfl
theorem pd1_tup2 {H : HH} {a : Nat} {L : List (Int × Int)} (h : H a = some (.list (L.map tup2))) : pd1 H (.ref a) = some (.list (L.map d2)) := by
  unfold pd1; simp only [h, pds0_tup2]; rfl
theorem depth_tup2 (L : List (Int × Int)) : (PyData.list (L.map d2)).depth ≤ 8 := by
  have h : ∀ L : List (Int × Int), PyData.depthAll (L.map d2) ≤ 2 := by
    intro L
    induction L with
    | nil => simp [PyData.depthAll]
    | cons x L ih =>
      rw [List.map_cons, PyData.depthAll]
      have : (d2 x).depth ≤ 2 := Nat.le_of_ble_eq_true rfl
      omega
  rw [PyData.depth]; have := h L; omega
theorem eqv_tup2 (L : List (Int × Int)) : PyData.eqv (.list (L.map d2)) (.list (L.map d2)) = true := by
  have h : ∀ L : List (Int × Int), PyData.eqvAll (L.map d2) (L.map d2) = true := by
    intro L
    induction L with
    | nil => simp [PyData.eqvAll]
    | cons x L ih =>
      rw [List.map_cons, PyData.eqvAll, ih]
      unfold d2
      rw [eqv2]; simp
  rw [PyData.eqv]; exact h L
theorem c_right {n : Nat} {B : HH} {gm x tab f r : Nat} {kind : Int} {T : List Int} {q : Pl} {Q : V → HH → Prop} (g : Game B gm x tab f r kind T) (VV : VPl (f * r : Nat) q)
    (k : ∀ H', Ext B H' → Q (.bool true) H') : wc (n + 11) 32 [.ref gm, placeV q] B Q := by
  refine ⟨D_law_right, rfl, rfl, ?_⟩; walk_at "zz"
  change wpSs _ B_law_right [some (.ref gm), some (.tup [.int q.1, .int q.2.1, .int q.2.2.1, .int q.2.2.2]), none, none, none, none, none, none] B _
  unfold B_law_right
  have szl' : (2000 : Nat) ≤ szl := by decide
  have sz := g.W.Z.sz
  have hT := g.W.K.len
  have n3 : 2 * (f * r) * (f * r) * (f * r) ≤ 2 * 9 * 9 * 9 := Nat.mul_le_mul (Nat.mul_le_mul (Nat.mul_le_mul (Nat.le_refl _) (by omega)) (by omega)) (by omega)
  have hr := g.W.K.rng _ _ _ _ VV
  change -2 ≤ gi T (ix (f * r : Nat) q) ∧ gi T (ix (f * r : Nat) q) < T.length at hr
  walk_at "zg"
  refine c_told (q := q) g VV ?_; walk_at "zz"
  walk_at "zz"
  (try with_reducible refine Bx.mk ?_)
  refine tK ?_ -- here
  generalize hK : cF _ _ _ = K1
  have J : ∀ cv H, Ext B H → ((cv = .none ∧ (if gi T (ix (f * r : Nat) q) = -2 then V.tup [.int (-1), .int (-1)] else .tup [.int (accB (bestA T.length q.1 T (mvs f r T kind q))).1, .int (accB (bestA T.length q.1 T (mvs f r T kind q))).2.1]) = .tup [.int (-1), .int (-1)]) ∨
      (∃ m, cv = rowV T q m ∧ (if gi T (ix (f * r : Nat) q) = -2 then V.tup [.int (-1), .int (-1)] else .tup [.int (accB (bestA T.length q.1 T (mvs f r T kind q))).1, .int (accB (bestA T.length q.1 T (mvs f r T kind q))).2.1]) = .tup [.int m.1, .int m.2.1])) →
      K1 .next [some (.ref gm), some (.tup [.int q.1, .int q.2.1, .int q.2.2.1, .int q.2.2.2]), some (.int (gi T (ix (f * r : Nat) q))), some cv, none, none, none, none] H := by
    intro cv H E hcv
    subst hK
    refine Bx.mk ?_; walk_at "zz"
    have g1 := g.mono E
    have hg := g1.hg
    walk_at "zg"
    refine c_best g1.W VV fun H2 E2 => ?_; walk_at "zz"
    have E2' := E.trans E2
    generalize (if gi T (ix (f * r : Nat) q) = -2 then V.tup [.int (-1), .int (-1)] else .tup [.int (accB (bestA T.length q.1 T (mvs f r T kind q))).1, .int (accB (bestA T.length q.1 T (mvs f r T kind q))).2.1]) = hv at hcv
    walk_at "zz"
    (try with_reducible refine Bx.mk ?_)
    refine tK ?_ -- here
    generalize hK : cF _ _ _ = K2
    have J3 : K2 .next [some (.ref gm), some (.tup [.int q.1, .int q.2.1, .int q.2.2.1, .int q.2.2.2]), some (.int (gi T (ix (f * r : Nat) q))), some cv, some hv, none, none, none] H2 := by
      subst hK
      refine Bx.mk ?_; walk_at "zz"
      have O := Own'.nil H2
      clear hcv hg g1
      have g2 := g.mono E2'
      walk_at "zg"
      intro du h_du; replace O := O.alloc (o := .list []) h_du; revert O; generalize HH.set _ du _ = H; intro O; walk_at "zz"
      walk_at "zg"
      walk_at "zg"
      obtain ⟨t, ht⟩ : ∃ t, t = gi T (ix (f * r : Nat) q) := ⟨_, rfl⟩
      rw [← ht] at hr ⊢
      have hmax : max t 0 = (t.toNat : Int) := by omega
      rw [hmax]
      refine ⟨(by unfold small; omega), tInv (xs := iot t.toNat) (fun i l h => (∃ cv o7, l = [some (.ref gm), some (.tup [.int q.1, .int q.2.1, .int q.2.2.1, .int q.2.2.2]), some (.int t), some cv, some hv, some (.ref du), some (placeV (play f r T kind i q).1), o7]) ∧
          Own' H2 h [(du, .list ((play f r T kind i q).2.map tup2))])
        (fun _ _ _ _ => congrArg some (rng_up _)) ⟨⟨_, _, rfl⟩, O⟩ (fun i y l H k hv hq1 k1 _ => ?_) (fun l H hq2 => ?_)⟩
      · obtain ⟨⟨cv, o7, hl⟩, O⟩ := hq1
        obtain ⟨rfl, hi⟩ := iot_get hv
        subst hl
        walk_at "zz"
        obtain ⟨V1, h1, h2⟩ := play_won g.W.K VV i (by omega)
        have hd1 := g.W.K.dis _ _ _ _ V1 (by show gi T (ix (f * r : Nat) (play f r T kind i q).1) ≠ -2; omega)
        obtain ⟨m, w, b1, b2, b3, b4, b5, b6⟩ := best_won g.W.K V1 (by omega)
        have hpl : play f r T kind (i + 1) q = (nextP (play f r T kind i q).1 m, (play f r T kind i q).2 ++ [(m.1, m.2.1)]) := by
          conv => lhs; unfold play
          rw [b1]
        rw [hpl] at k1
        generalize play f r T kind i q = pq at *
        obtain ⟨qq, ol⟩ := pq
        dsimp only at *
        walk_at "zg"
        refine c_pick (g2.mono O.ext) V1 hd1 fun H' E => ?_; walk_at "zz"
        rw [b1]
        replace O := O.grow E
        walk_at "zz"; (try simp only [pickV, rowV, if_neg b3]); walk_at "zz"
        walk_at "zg"
        unfold placeV
        walk_at "zz"
        walk_at "zz"
        have ho := O.get 0 rfl
        walk_at "zg"
        refine ⟨by rw [List.length_map]; omega, ?_⟩; walk_at "zz"
        (try refine Bx.mk ?_); (first | refine tPut1 O 0 rfl fun H O => ?_ | refine tPutK O 0 rfl fun H O => ?_); walk_at "zz"
        walk_at "zg"
        refine k1 _ _ ⟨⟨_, _, rfl⟩, ?_⟩; walk_at "zz"
        rw [List.map_append]
        exact O
      · obtain ⟨⟨cv, o7, hl⟩, O⟩ := hq2
        subst hl
        walk_at "zz"
        rw [iot_len] at O
        walk_at "zz"
        have hg := g2.hg
        have hg' := O.ext _ _ hg
        walk_at "zg"; (try simp only [hg']); walk_at "zz"
        refine c_line (g2.mono O.ext).W VV fun H' c N => ?_; walk_at "zz"
        rw [← ht] at N
        walk_at "zz"
        simp only [eRef]
        refine ⟨_, _, pd1_tup2 (N.get 0 rfl), pd1_tup2 (N.ext _ _ (O.get 0 rfl)), depth_tup2 _, depth_tup2 _, ?_⟩; walk_at "zz"
        rw [eqv_tup2]
        exact k _ ((E2'.trans O.ext).trans N.ext)
    rcases hcv with ⟨rfl, rfl⟩ | ⟨m, rfl, rfl⟩
    · walk_at "zz"
      refine eTup2 ?_; walk_at "zz"
      exact J3
    · walk_at "zz"; (try simp only [rowV]); walk_at "zz"
      refine eTup2 ?_; walk_at "zz"
      rw [decide_eq_true rfl, decide_eq_true rfl]
      exact J3
  walk_at "zz"
  cases c0 : decide (gi T (ix (f * r : Nat) q) = -2) <;> walk_at "zz"
  · have c0' := of_decide_eq_false c0
    have hd := g.W.K.dis _ _ _ _ VV c0'
    refine c_pick g VV hd fun H E => ?_; walk_at "zz"
    walk_at "zz"
    refine J _ _ E ?_; walk_at "zz"
    rw [if_neg c0']
    cases hb : bestA T.length q.1 T (mvs f r T kind q) with
    | none => exact .inl ⟨rfl, rfl⟩
    | some p =>
      obtain ⟨m, w⟩ := p
      exact .inr ⟨m, rfl, rfl⟩
  · have c0' := of_decide_eq_true c0
    exact J _ _ (Ext.refl _) (.inl ⟨rfl, if_pos c0'⟩)
open PySem PySem.W PyProof.Rows PySem.Calls

noncomputable def placeQ (n k : Int) : Pl := (k.fdiv (n ^ 3), (k.fdiv (n ^ 2)).fmod n, (k.fdiv n).fmod n, k.fmod n)
theorem placeQ_val {n k : Int} (hn : 0 < n) (k0 : 0 ≤ k) (k1 : k < 2 * n * n * n) : VPl n (placeQ n k) := by
  have h2 : 0 < n * n := Int.mul_pos hn hn
  have e3 : n ^ 3 = n * n * n := by rw [Int.pow_succ, Int.pow_succ, Int.pow_succ, Int.pow_zero, Int.one_mul]
  have h3 : 0 < n ^ 3 := by rw [e3]; exact Int.mul_pos h2 hn
  have fm : ∀ x : Int, 0 ≤ x.fmod n ∧ x.fmod n < n := fun x => by
    rw [Int.fmod_eq_emod_of_nonneg _ (by omega)]
    exact ⟨Int.emod_nonneg _ (by omega), Int.emod_lt_of_pos _ hn⟩
  unfold placeQ VPl
  dsimp only
  refine ⟨?_, ?_, (fm _).1, (fm _).2, (fm _).1, (fm _).2, (fm _).1, (fm _).2⟩
  · rw [Int.fdiv_eq_ediv_of_nonneg _ (by omega)]; exact Int.ediv_nonneg k0 (by omega)
  · rw [Int.fdiv_eq_ediv_of_nonneg _ (by omega)]
    refine Int.ediv_lt_of_lt_mul h3 ?_; walk_at "zz"
    rw [e3]
    simpa [Int.mul_assoc] using k1
theorem c_place {n : Nat} {m : Nat} {k : Int} {H : HH} {Q : V → HH → Prop} (hm : 0 < m) (hm2 : m < 10) (q : Q (placeV (placeQ m k)) H) : wc (n + 1) 33 [.int m, .int k] H Q := by
  refine ⟨D_law_place, rfl, rfl, ?_⟩; walk_at "zz"
  change wpSs _ B_law_place [some (.int m), some (.int k)] H _
  unfold B_law_place
  have h : ∀ m : Nat, 0 < m → m < 10 → (0 < (m : Int) ^ (3 : Int).toNat ∧ small ((m : Int) ^ (3 : Int).toNat)) ∧ (0 < (m : Int) ^ (2 : Int).toNat ∧ small ((m : Int) ^ (2 : Int).toNat)) ∧ (m : Int).natAbs < 2 ^ 64 := by
    unfold small
    exact fun m h0 h1 => (by decide +kernel : ∀ m : Nat, m < 10 → 0 < m → (0 < (m : Int) ^ (3 : Int).toNat ∧ -1000000000 < (m : Int) ^ (3 : Int).toNat ∧ (m : Int) ^ (3 : Int).toNat < 1000000000) ∧ (0 < (m : Int) ^ (2 : Int).toNat ∧ -1000000000 < (m : Int) ^ (2 : Int).toNat ∧ (m : Int) ^ (2 : Int).toNat < 1000000000) ∧ (m : Int).natAbs < 2 ^ 64) m h1 h0
  obtain ⟨⟨a1, a2⟩, ⟨a3, a4⟩, a5⟩ := h m hm hm2
  walk_at "zg"
  exact ⟨a5, a1, a2, by decide, by decide, a5, a3, a4, by omega, by omega, (by unfold small; omega), by omega, by omega, q⟩
theorem biSumL {l : Nat} {H : HH} {Q : V → HH → Prop} : biV .sum [.ref l] H Q = ∃ is : List Int, H l = some (.list (is.map V.int)) ∧ Q (.int is.sum) H := rfl
theorem c_law {n : Nat} {ns : List Int} {B : HH} {Q : V → HH → Prop} (hn : ns.length ≤ 63) (q : ∀ H', Q (.bool true) H') : wc (n + 12) 34 [.frz (ns.map V.int)] B Q := by
  refine ⟨D_law, rfl, rfl, ?_⟩; walk_at "zz"
  change wpSs _ B_law [some (.frz (ns.map V.int)), none, none, none, none, none, none, none, none, none, none] B _
  unfold B_law
  have szl' : (2000 : Nat) ≤ szl := by decide
  (try with_reducible refine Bx.mk ?_)
  refine tK ?_ -- here
  generalize hK : cF _ _ _ = K1
  have J : ∀ (f r : Nat), Law f r → ∀ H, K1 .next [some (.frz (ns.map V.int)), some (.int f), some (.int r), none, none, none, none, none, none, none, none] H := by
    intro f r L H
    subst hK
    refine Bx.mk ?_; walk_at "zz"
    have f1 := L.Z.f1
    have f9 := L.Z.f9
    have r2 := L.Z.r2
    have r5 := L.Z.r5
    have sz := L.Z.sz
    have e0 : (f : Int) * r = ((f * r : Nat) : Int) := (Int.natCast_mul _ _).symm
    have hpos : 0 < f * r := Nat.mul_pos (by omega) (by omega)
    walk_at "zg"; (try simp only [e0]); walk_at "zz"
    refine ⟨.inl (by unfold small; omega), ?_⟩; walk_at "zz"
    (try with_reducible refine Bx.mk ?_)
    refine tK ?_ -- here
    generalize hK : cF _ _ _ = K2
    have J : ∀ (kind : Int), 2 ≤ kind → kind ≤ 5 → ∀ H, K2 .next [some (.frz (ns.map V.int)), some (.int f), some (.int r), some (.int (f * r : Nat)), some (.int kind), none, none, none, none, none, none] H := by
      intro kind k0 k5 H
      subst hK
      refine Bx.mk ?_; walk_at "zz"
      have O := Own'.nil H
      walk_at "zg"
      refine c_figure (k := 2) hn (by decide) fun z1 => ?_; walk_at "zz"
      walk_at "zz"
      refine ⟨by omega, ?_⟩; walk_at "zz"
      refine c_figure (k := 3) hn (by decide) fun z2 => ?_; walk_at "zz"
      walk_at "zz"
      refine ⟨by omega, ?_⟩; walk_at "zz"
      generalize z1.fmod (f * r : Nat) = z1
      generalize z2.fmod (f * r : Nat) = z2
      intro zo h_zo; replace O := O.alloc (o := .list [.int z1, .int z2]) h_zo; revert O; generalize HH.set _ zo _ = H; intro O; walk_at "zz"
      (try with_reducible refine Bx.mk ?_)
      refine tK ?_ -- here
      generalize hK : cF _ _ _ = K3
      have J : ∀ (zs : List Int) (zl : Nat) H, H zl = some (.list (zs.map V.int)) → K3 .next [some (.frz (ns.map V.int)), some (.int f), some (.int r), some (.int (f * r : Nat)), some (.int kind), some (.ref zl), none, none, none, none, none] H := by
        clear O
        intro zs zl H hz
        subst hK
        refine Bx.mk ?_; walk_at "zz"
        walk_at "zg"
        refine c_make (n := n + 8) L.Z.ok f1 r2 f9 r5 fun H1 x E1 G => ?_; walk_at "zz"
        have hz1 := E1 _ _ hz
        walk_at "zz"
        have O := Own'.nil H1
        walk_at "zg"
        refine ⟨(by unfold small; omega), _, congrArg some (rng_up _), by rw [List.length_map, iot_len]; omega, ?_⟩; walk_at "zz"
        intro c h_c; replace O := O.alloc (o := .list []) h_c; revert O; generalize HH.set _ c _ = H; intro O; walk_at "zz"
        refine cFlatM (xs := iot (f * r)) V.int (fun sq => if decide (sq ∈ zs) then [(2 : Int) ^ sq.toNat] else []) (fun s h => Own' H1 h [(c, .list (s.map V.int))])
          (fun _ _ _ => congrArg some (rng_up _)) O (fun s sq H k hm hsl O k1 => ?_) (fun H O => ?_)
        · have h8 := Nat.le_trans hsl (flat_len (fun y => by split <;> simp) _)
          rw [iot_len] at h8
          rw [iot_mem_iff] at hm
          walk_at "zz"; (try dsimp only [r_capc, r_capn, r_gd0, r_gds]); walk_at "zz"
          refine inList (O.ext _ _ hz1) ?_; walk_at "zz"
          cases c1 : decide (sq ∈ zs) <;> rw [c1] at k1 <;> walk_at "zz"
          · exact k1 _ (by simpa using O)
          · refine ⟨hm.1, by omega, by decide, _, O.get 0 rfl, by rw [List.length_map]; omega, ?_⟩; walk_at "zz"
            refine k1 _ ?_; walk_at "zz"
            rw [if_pos rfl, List.map_append]
            exact O.upd 0 (o' := .list (s.map V.int ++ [V.int (2 ^ sq.toNat)])) rfl
        walk_at "zz"; (try simp only [biSumL]); walk_at "zz"
        refine ⟨_, O.get 0 rfl, ?_⟩; walk_at "zz"
        refine c_zone (n := n + 2) L.Z (G.ext O.ext) k0 k5 fun H2 tab T E2 K ht => ?_; walk_at "zz"
        have G2 := (G.ext O.ext).ext E2
        clear O hz1 hz
        walk_at "zz"
        have hT := K.len
        have hTl : (T.length : Int) = 2 * (f * r : Nat) * (f * r : Nat) * (f * r : Nat) := by rw [hT]; simp
        have n3 : 2 * (f * r) * (f * r) * (f * r) ≤ 2 * 9 * 9 * 9 := Nat.mul_le_mul (Nat.mul_le_mul (Nat.mul_le_mul (Nat.le_refl _) (by omega)) (by omega)) (by omega)
        have hTp : 0 < T.length := by rw [hT]; exact Nat.mul_pos (Nat.mul_pos (Nat.mul_pos (by decide) hpos) hpos) hpos
        have O := Own'.nil H2
        walk_at "zg"
        refine ⟨rfl, [.ref x, .int f, .int r, .int kind, .ref tab], rfl, rfl, ?_⟩; walk_at "zz"
        intro gm h_gm; replace O := O.alloc (o := .sdict [.ref x, .int f, .int r, .int kind, .ref tab]) h_gm; revert O; generalize HH.set _ gm _ = H; intro O; walk_at "zz"
        have g : Game H gm x tab f r kind T := ⟨⟨L.Z, G2.ext O.ext, O.ext _ _ ht, K, k0, k5⟩, O.get 0 rfl, L.rnd, L.rch⟩
        have hv : ∀ k : Int, 0 ≤ k → k < T.length → VPl (f * r : Nat) (placeQ (f * r : Nat) k) := fun k h0 h1 => placeQ_val (by omega) h0 (by omega)
        have hmod : ∀ (z : Int) (m : Nat), 0 < m → 0 ≤ z.fmod m ∧ z.fmod m < m := fun z m hm => by
          rw [Int.fmod_eq_emod_of_nonneg _ (by omega)]
          exact ⟨Int.emod_nonneg _ (by omega), Int.emod_lt_of_pos _ (by omega)⟩
        clear O G2 ht E2 G
        walk_at "zg"
        refine tInv (xs := [4, 5, 6]) (fun i l h => Ext H h ∧ ∃ o, l = [some (.frz (ns.map V.int)), some (.int f), some (.int r), some (.int (f * r : Nat)), some (.int kind), some (.ref zl), some (.ref x), some (.ref tab), some (.ref gm), o, none])
          (fun _ _ _ _ => rfl) ⟨Ext.refl _, _, rfl⟩ (fun i y l h k hv2 hq1 k1 _ => ?_) (fun l h hq2 => ?_)
        · obtain ⟨E, o, hl⟩ := hq1
          subst hl
          walk_at "zz"
          obtain ⟨kk, hk, rfl⟩ : ∃ kk : Nat, kk < 1000 ∧ y = kk := by
            have := List.mem_of_getElem? hv2
            simp only [List.mem_cons, List.not_mem_nil, or_false] at this
            exact ⟨y.toNat, by omega, by omega⟩
          have g1 := g.mono E
          have ht := g1.W.ht
          walk_at "zg"
          refine c_figure hn hk fun z => ?_; walk_at "zz"
          walk_at "zz"; (try simp only [ht]); walk_at "zz"
          refine ⟨by rw [List.length_map]; omega, by rw [List.length_map]; omega, ?_⟩; walk_at "zz"
          rw [List.length_map]
          obtain ⟨m0, m1⟩ := hmod z T.length hTp
          refine c_place hpos sz ?_; walk_at "zz"
          walk_at "zz"
          refine c_right g1 (hv _ m0 m1) fun h2 E3 => ?_; walk_at "zz"
          walk_at "zz"
          exact k1 _ _ ⟨E.trans E3, _, rfl⟩
        · obtain ⟨E, o, hl⟩ := hq2
          subst hl
          walk_at "zz"
          walk_at "zz"
          have g1 := g.mono E
          have ht := g1.W.ht
          have O := Own'.nil h
          walk_at "zg"; (try simp only [ht]); walk_at "zz"
          rw [List.length_map]
          refine ⟨by omega, (by unfold small; omega), _, congrArg some (rng_up _), by rw [List.length_map, iot_len]; omega, ?_⟩; walk_at "zz"
          intro wo h_wo; replace O := O.alloc (o := .list []) h_wo; revert O; generalize HH.set _ wo _ = H; intro O; walk_at "zz"
          refine cFlatM (xs := iot T.length) V.int (fun k => if decide (0 < gi T k) then [k] else []) (fun s h2 => Own' h h2 [(wo, .list (s.map V.int))])
            (fun _ _ _ => congrArg some (rng_up _)) O (fun s y H k hm hsl O k1 => ?_) (fun H O => ?_)
          · have h8 := Nat.le_trans hsl (flat_len (fun y => by split <;> simp) _)
            rw [iot_len] at h8
            rw [iot_mem_iff] at hm
            walk_at "zz"; (try dsimp only [r_capc, r_capn, r_gd0, r_gds]); walk_at "zz"
            refine sList (O.ext _ _ ht) hm.1 (by unfold small; omega) (gi_get (by omega)) ?_; walk_at "zz"
            walk_at "zz"
            cases c1 : decide (0 < gi T y) <;> rw [c1] at k1 <;> walk_at "zz"
            · exact k1 _ (by simpa using O)
            · refine ⟨_, O.get 0 rfl, by rw [List.length_map]; omega, ?_⟩; walk_at "zz"
              refine k1 _ ?_; walk_at "zz"
              rw [if_pos rfl, List.map_append]
              exact O.upd 0 (o' := .list (s.map V.int ++ [V.int y])) rfl
          · have hws : ∀ y ∈ (iot T.length).flatMap (fun k => if decide (0 < gi T k) then [k] else []), 0 ≤ y ∧ y < T.length := by
              intro y hy
              obtain ⟨z, hz, hy⟩ := List.mem_flatMap.mp hy
              split at hy
              · cases List.mem_singleton.mp hy
                exact iot_mem_iff.mp hz
              · cases hy
            have hwl := flat_len (F := fun k => if decide (0 < gi T k) then [k] else []) (fun y => by split <;> simp) (iot T.length)
            rw [iot_len] at hwl
            generalize (iot T.length).flatMap (fun k => if decide (0 < gi T k) then [k] else []) = ws at O hws hwl
            walk_at "zg"
            intro e h_e; replace O := O.alloc (o := .list []) h_e; revert O; generalize HH.set _ e _ = H; intro O; walk_at "zz"
            simp only [eRef]
            refine ⟨_, _, pd1_ints (O.get 1 rfl), pd1_ints (l := []) (O.get 0 rfl), depth_ints _, depth_ints [], ?_⟩; walk_at "zz"
            by_cases hM : ws = []
            · subst hM
              have : PyData.eqv (.list (List.map PyData.int [])) (.list (List.map PyData.int [])) = true := rfl
              rw [this]
              walk_at "zz"
              walk_at "zg"
              exact q _
            · have he : PyData.eqv (.list (ws.map PyData.int)) (.list (List.map PyData.int [])) = false := by
                cases ws with
                | nil => exact absurd rfl hM
                | cons m M => rfl
              rw [he]
              have hlp : 0 < ws.length := List.length_pos_iff.mpr hM
              walk_at "zz"
              walk_at "zz"
              have hw := O.get 1 rfl
              have g2 := g1.mono O.ext
              walk_at "zg"
              refine c_figure (k := 7) hn (by decide) fun z => ?_; walk_at "zz"
              walk_at "zz"; (try simp only [hw]); walk_at "zz"
              refine ⟨by rw [List.length_map]; omega, by rw [List.length_map]; omega, ?_⟩; walk_at "zz"
              rw [List.length_map]
              obtain ⟨m0, m1⟩ := hmod z ws.length hlp
              refine sList hw m0 (by unfold small; omega) (gi_get (by omega)) ?_; walk_at "zz"
              have hmem : gi ws (z.fmod ws.length) ∈ ws := by
                unfold gi
                rw [List.getD_eq_getElem?_getD, List.getElem?_eq_getElem (by omega)]
                exact List.getElem_mem _
              obtain ⟨w0, w1⟩ := hws _ hmem
              generalize gi ws (z.fmod ws.length) = y at w0 w1
              walk_at "zz"
              refine c_place hpos sz ?_; walk_at "zz"
              walk_at "zz"
              refine c_right g2 (hv _ w0 w1) fun h2 E3 => ?_; walk_at "zz"
              exact q _
      walk_at "zz"
      cases c6 : decide (((f * r : Nat) : Int) = 6) <;> walk_at "zz"
      · exact J [z1, z2] zo H (O.get 0 rfl)
      · walk_at "zg"
        intro zq h_zq; replace O := O.alloc (o := .list [.int 0, .int 1, .int 2, .int 3, .int 4, .int 5]) h_zq; revert O; generalize HH.set _ zq _ = H; intro O; walk_at "zz"
        exact J [0, 1, 2, 3, 4, 5] zq H (O.get 0 rfl)
    walk_at "zz"
    have O := Own'.nil H
    intro kl h_kl; replace O := O.alloc (o := .list [.int 5, .int 4, .int 2, .int 3]) h_kl; revert O; generalize HH.set _ kl _ = H; intro O; walk_at "zz"
    refine c_figure (k := 1) hn (by decide) fun z => ?_; walk_at "zz"
    walk_at "zz"
    have hm : 0 ≤ z.fmod 4 ∧ z.fmod 4 < 4 := by
      rw [Int.fmod_eq_emod_of_nonneg _ (by omega)]
      omega
    generalize z.fmod 4 = m at hm ⊢
    have : m = 0 ∨ m = 1 ∨ m = 2 ∨ m = 3 := by omega
    rcases this with rfl | rfl | rfl | rfl
    · refine sList (v := .int 5) (O.get 0 rfl) (by decide) (by unfold small; omega) rfl ?_; walk_at "zz"
      walk_at "zz"
      exact J 5 (by decide) (by decide) _
    · refine sList (v := .int 4) (O.get 0 rfl) (by decide) (by unfold small; omega) rfl ?_; walk_at "zz"
      walk_at "zz"
      exact J 4 (by decide) (by decide) _
    · refine sList (v := .int 2) (O.get 0 rfl) (by decide) (by unfold small; omega) rfl ?_; walk_at "zz"
      walk_at "zz"
      exact J 2 (by decide) (by decide) _
    · refine sList (v := .int 3) (O.get 0 rfl) (by decide) (by unfold small; omega) rfl ?_; walk_at "zz"
      walk_at "zz"
      exact J 3 (by decide) (by decide) _
  walk_at "zz"
  have O := Own'.nil B
  intro sl h_sl; replace O := O.alloc (o := .list [.tup [.int 2, .int 3], .tup [.int 3, .int 3], .tup [.int 2, .int 4]]) h_sl; revert O; generalize HH.set _ sl _ = H; intro O; walk_at "zz"
  refine c_figure (k := 0) hn (by decide) fun z => ?_; walk_at "zz"
  walk_at "zz"
  have hm : 0 ≤ z.fmod 3 ∧ z.fmod 3 < 3 := by
    rw [Int.fmod_eq_emod_of_nonneg _ (by omega)]
    omega
  generalize z.fmod 3 = m at hm ⊢
  have : m = 0 ∨ m = 1 ∨ m = 2 := by omega
  rcases this with rfl | rfl | rfl
  · refine sList (v := .tup [.int 2, .int 3]) (O.get 0 rfl) (by decide) (by unfold small; omega) rfl ?_; walk_at "zz"
    walk_at "zz"
    exact J 2 3 law23 _
  · refine sList (v := .tup [.int 3, .int 3]) (O.get 0 rfl) (by decide) (by unfold small; omega) rfl ?_; walk_at "zz"
    walk_at "zz"
    exact J 3 3 law33 _
  · refine sList (v := .tup [.int 2, .int 4]) (O.get 0 rfl) (by decide) (by unfold small; omega) rfl ?_; walk_at "zz"
    walk_at "zz"
    exact J 2 4 law24 _
theorem law_clean (ns : List Int) (hn : ns.length ≤ 63) : wc 40 34 [.frz (ns.map V.int)] (fun _ => none) (fun v _ => v = .bool true) := c_law (n := 28) hn fun _ => rfl
open PySem PySem.W PyProof.Rows
theorem law_runs {w : World} {s : Shared} {mg mb : Str → Option Value} {l : Nat} {xs : List Value} {ns : List Int} (X : (KK w.params).In s.heap) (hg : s.heap.Ns mainGlobals mg) (hb : s.heap.Ns builtinsNs mb) (hbb : ∀ x : Str, x ≠ "__name__" → mb x = bootBuiltins x)
    (nl : s.heap.NoLimit) (hl : s.heap.IsList l xs.toArray) (hi : IntsAre xs ns) (hn : ns.length ≤ 63) : codeAny (model PR w) callerA (.call (.ref 306) ⟨[.ref l], []⟩) (RP fun x s' => x = .bool true ∧ (∀ a o, s.heap.get? a = some o → s'.heap.get? a = some o) ∧ Sm s s') s := by
  have G : GB w s.heap := ⟨X, ⟨mg, hg⟩, ⟨mb, hb, hbb⟩, nl⟩
  have R : HR w s.heap (fun _ => none) s.heap := ⟨fun a o e => ⟨e, rfl⟩, fun a co e => by cases e⟩
  refine codeAny_mono (call_sound G (fns_ok w.params) 40 34 [.frz (ns.map V.int)] (fun _ => none) _ callerA s [.ref l] ⟨rfl, by show 301 + _ + _ < _; decide, by show 4 + _ + _ < _; decide⟩ R ⟨⟨l, xs.toArray, rfl, hl, rfl, ints_vr hi⟩, trivial⟩ (law_clean ns hn)) fun r s' z => ?_
  rcases r with e | (v | _ | _ | _) <;> first | exact z.elim | skip
  obtain ⟨u, H', rfl, r, R', E, S⟩ := z
  exact ⟨r, fun a o e => (E a o e rfl).1, S⟩
end Mine.Internal
theorem PySem.Challenge.cw_pf0100_01_holds : PySem.Challenge.rw_pf0100_01.Holds := by
  refine Mine.Internal.k_top ?_
  intro w s₀ s₁ mg mb G Y fa o pm cd doc dV kV ho hd hcd hD hmg hg args vals as hpre hlay hrd hwl hlo
  have KX := kIn_of Y
  refine Ground.open G ?_
  intro T B D TE TW
  have TR := topRead_of T
  rw [Mine.Internal.kLaw_name] at hmg
  have hm := mg_of KX TR.g (Mine.Internal.k_fn w.params (g := 34) (by decide)).1
  have hfa : some (Value.ref fa) = some (.ref 306) := hmg.symm.trans hm
  cases hfa
  clear hd hcd hD
  wrow_args hpre hlay hrd hwl hlo
  rename_i ns _ _ _ _ _ _ _ l xs as2 hL ra w1 r0 hI hr _ _
  refine enter_call ?_
  refine codeAny_mono (Mine.Internal.law_runs (ns := ns) (xs := xs) KX TR.g TR.b TR.builtins TR.nolimit hL hI (by omega)) (fun r s' z => GoodW.toG ?_)
  rcases r with e | (v | _ | _ | _) <;> first | exact z.elim | skip
  obtain ⟨rfl, hk, h', tk, rfl⟩ := z
  exact ⟨.inl ⟨.bool true, .bool true, [], rfl, fun _ => rfl, .bool true, by kernel_rfl, fun _ => ⟨List.nodup_nil, fun _ h => by cases h⟩⟩, hk, rfl, hg⟩
