import PyProof.Rows.All
import Wide.All
import OpenK.AllK
import Wide.FinOn
import Lean
import PySem.Challenge.RW_nt0451_01
set_option Elab.async false
set_option genSizeOf false
set_option bootstrap.genMatcherCode false
set_option genInjectivity false
set_option linter.all false
section
namespace Vh
open PySem PySem.W PyProof.Rows
abbrev pw : Program := PySem.Challenge.pw_nt0451_01
noncomputable def sT (i : Nat) : Option Stmt := pw.main.body[i]?
noncomputable def sM (i j : Nat) : Option Stmt := match sT i with
  | some (.ClassDef _ _ _ b ..) => b[j]?
  | _ => none
noncomputable def withTx (st : Option Stmt) (k : Arguments → List Stmt → Scope → Obj) : Obj := match st with
  | some (.FunctionDef _ p b _ _ _ s ..) => k p b s
  | _ => { cls := .none }
noncomputable def tp (vs : List Value) : Obj := { cls := .type "tuple", data := .seq (Array.mk vs) }
noncomputable def fl (vs : List Value) : Obj := { cls := .none, data := .fields (Array.mk vs) }
noncomputable def nms (t : Nat) (xs : List Str) : List Value := List.rec (motive := fun _ => Nat → List Value) (fun _ => []) (fun x _ ih t => .str x t :: ih (t + 1)) xs t
noncomputable def ky (P : Params) (x : Str) (t : Nat) (v : Value) : DictEntry := { hash := PyData.keyHash P x, key := .str x t, val := v }
noncomputable def dc (es : List DictEntry) (n : Nat) : Obj := { cls := .type "dict", data := .dict (Array.mk es) n }
noncomputable def cO (x q : Str) (t : Nat) (line argc flags : Int) (a : Nat) (isF : Bool) (vs : List Value) (n : Nat) : Obj :=
  { cls := .type "code", data := .fields (Array.mk ([.str x t, .str q (t + 1), .str "/claim/cut.py" (t + 2), .int line 0, .int argc 0, .int 0 0, .int 0 0, .int flags 0, .ref a, .bool isF, .int 181 0, .ref (a + 1), .none] ++ vs ++ [.int (t + 3 + n) 0, .int line 0, .str "/claim/cut.py" (t + 4 + n)])) }
noncomputable def fT (st : Option Stmt) (x q : Str) : Obj := withTx st fun p b s => { cls := .none, data := .func { name := x, qualname := q, params := p, body := .stmts b, scope := s, globals := 0, closure := [], defaults := .none, kwdefaults := .none } }
noncomputable def fF (st : Option Stmt) (x q : Str) (m : Str) (mt c : Nat) : Obj := withTx st fun p b s => { cls := .type "function", data := .func { name := x, qualname := q, params := p, body := .stmts b, scope := s, globals := 3, closure := [], defaults := .none, kwdefaults := .none, pyModule := .str m mt, code := .ref c } }
noncomputable def mkD (st : Option Stmt) (x q : Str) (a t : Nat) (line argc : Int) (vs : List Str) (m : Str) (mt : Nat) : List Obj :=
  [tp [], fl [], tp (nms (t + 3) vs), tp [], fT st x q, cO x q t line argc 3 a true [.ref (a + 2), .ref (a + 3), .ref (a + 4)] vs.length, fF st x q m mt (a + 5)]
noncomputable def mkE (st : Option Stmt) (x q : Str) (a t : Nat) (line argc : Int) (m : Str) (mt : Nat) : List Obj :=
  [tp [], fl [], fT st x q, cO x q t line argc 3 a true [.none, .none, .ref (a + 2)] 0, fF st x q m mt (a + 3)]
noncomputable def ls (vs : List Value) : Obj := { cls := .type "list", data := .seq (Array.mk vs) }
noncomputable def oddsE (xs : List Obj) : List Obj × List Obj := List.rec (motive := fun _ => List Obj × List Obj) ([], []) (fun a _ ih => (a :: ih.2, ih.1)) xs
noncomputable def treeOf (n : Nat) : List Obj → BT := Nat.rec (motive := fun _ => List Obj → BT) (fun _ => .nil) (fun _ ih xs => List.casesOn (motive := fun _ => BT) xs .nil fun o r => .node o (ih (oddsE r).1) (ih (oddsE r).2)) n
end Vh
end
section
namespace Vh
open PySem PySem.W PyProof.Rows
set_option maxRecDepth 100000 in
set_option maxHeartbeats 0 in
noncomputable def glE (P : Params) : List DictEntry := [ky P "__name__" 165 (.str "law_nt0451_01" 1016), ky P "__doc__" 166 (.none), ky P "__package__" 167 (.none), ky P "__loader__" 168 (.builtin "__main__.__loader__#opaque"), ky P "__spec__" 169 (.none), ky P "__annotations__" 170 (.ref 6), ky P "__builtins__" 171 (.ref 4), ky P "__file__" 173 (.str "/claim/cut.py" 172), ky P "__cached__" 174 (.none), ky P "ChessError" 217 (.ref 31), ky P "BadMove" 233 (.ref 44), ky P "WHITE" 237 (.int 0 236), ky P "BLACK" 239 (.int 1 238), ky P "NO_KIND" 241 (.int 0 240), ky P "PAWN" 243 (.int 1 242), ky P "KNIGHT" 245 (.int 2 244), ky P "BISHOP" 247 (.int 3 246), ky P "ROOK" 249 (.int 4 248), ky P "QUEEN" 251 (.int 5 250), ky P "EMPTY" 253 (.int 0 252), ky P "PROMOTION" 255 (.int 1 254), ky P "EN_PASSANT" 257 (.int 2 256), ky P "CASTLING" 259 (.int 3 258), ky P "make_piece" 267 (.ref 53), ky P "side_of" 274 (.ref 60), ky P "kind_of" 281 (.ref 67), ky P "move_from" 288 (.ref 74), ky P "move_to" 295 (.ref 81), ky P "move_special" 302 (.ref 88), ky P "move_promo" 309 (.ref 95), ky P "HALF" 315 (.int 32768 314), ky P "WORD" 319 (.int 65536 318), ky P "wrap_half" 326 (.ref 102), ky P "divide" 335 (.ref 109), ky P "make_score" 343 (.ref 116), ky P "mg_of" 350 (.ref 123), ky P "eg_of" 357 (.ref 130), ky P "PIECE_VALUES" 374 (.ref 138), ky P "own_rank" 384 (.ref 145), ky P "from_edge" 392 (.ref 152), ky P "is_long_diagonal" 401 (.ref 159), ky P "pawn_bonus" 409 (.ref 166), ky P "knight_bonus" 418 (.ref 173), ky P "bishop_bonus" 427 (.ref 180), ky P "rook_bonus" 437 (.ref 187), ky P "queen_bonus" 445 (.ref 194), ky P "king_bonus" 454 (.ref 201), ky P "square_bonus" 468 (.ref 208), ky P "square_score" 480 (.ref 215), ky P "make_psqt" 492 (.ref 222), ky P "psq_of" 502 (.ref 229), ky P "psq_plain" 513 (.ref 236), ky P "castle_change" 529 (.ref 243), ky P "psq_change" 544 (.ref 250), ky P "STEP_FILES" 558 (.ref 251), ky P "STEP_RANKS" 570 (.ref 252), ky P "Geometry" 615 (.ref 269), ky P "is_growing" 622 (.ref 280), ky P "add_masks" 633 (.ref 287), ky P "inner_squares" 642 (.ref 294), ky P "add_rays" 656 (.ref 301), ky P "add_pawns" 664 (.ref 308), ky P "add_knights" 681 (.ref 315), ky P "add_castles" 694 (.ref 322), ky P "make_geometry" 705 (.ref 329), ky P "Zobrist" 742 (.ref 346), ky P "Position" 785 (.ref 367), ky P "put_piece" 795 (.ref 378), ky P "take_piece" 805 (.ref 385), ky P "shift_piece" 817 (.ref 392), ky P "moved_piece" 829 (.ref 399), ky P "taken_square" 838 (.ref 406), ky P "rook_step" 849 (.ref 413), ky P "passed_square" 862 (.ref 420), ky P "kept_rights" 872 (.ref 427), ky P "clear_ep_key" 879 (.ref 434), ky P "set_ep_key" 887 (.ref 441), ky P "set_rights_key" 895 (.ref 448), ky P "do_move" 911 (.ref 455), ky P "count_bits" 921 (.ref 462), ky P "OWN_WEIGHTS" 950 (.ref 469), ky P "FOE_WEIGHTS" 974 (.ref 476), ky P "count_of" 983 (.ref 483), ky P "counts_of" 994 (.ref 490), ky P "imbalance" 1008 (.ref 497), ky P "imbalance_value" 1015 (.ref 504), ky P "_law_shapes" 1023 (.ref 511), ky P "_law_straight" 1034 (.ref 516), ky P "_law_slant" 1047 (.ref 521), ky P "_law_jump" 1072 (.ref 530), ky P "_law_early" 1118 (.ref 538), ky P "_law_late" 1163 (.ref 546), ky P "_law_ours" 1190 (.ref 553), ky P "_law_theirs" 1214 (.ref 560), ky P "_law_goals" 1232 (.ref 567), ky P "_law_held" 1244 (.ref 574), ky P "_law_pawn_moves" 1265 (.ref 581), ky P "_law_castling" 1281 (.ref 588), ky P "_law_moves" 1295 (.ref 595), ky P "_law_after" 1309 (.ref 602), ky P "_law_pick" 1326 (.ref 609), ky P "_law_board" 1332 (.ref 614), ky P "_law_position" 1338 (.ref 619), ky P "_law_marks" 1353 (.ref 626), ky P "_law_agree" 1359 (.ref 631), ky P "_law_refused" 1368 (.ref 638), ky P "_law_form" 1379 (.ref 645), ky P "_law_whole" 1385 (.ref 650), ky P "law" 1413 (.ref 657)]
noncomputable def clL : List Value := [.int 2 0, .int 0 0, .ref 20, .int 7 0, .int 0 0, .ref 40, .int 22 0, .int 0 0, .ref 52, .int 24 0, .int 0 0, .ref 59, .int 26 0, .int 0 0, .ref 66, .int 28 0, .int 0 0, .ref 73, .int 30 0, .int 0 0, .ref 80, .int 32 0, .int 0 0, .ref 87, .int 34 0, .int 0 0, .ref 94, .int 41 0, .int 0 0, .ref 101, .int 43 0, .int 0 0, .ref 108, .int 48 0, .int 0 0, .ref 115, .int 50 0, .int 0 0, .ref 122, .int 52 0, .int 0 0, .ref 129, .int 56 0, .int 0 0, .ref 144, .int 59 0, .int 0 0, .ref 151, .int 61 0, .int 0 0, .ref 158, .int 63 0, .int 0 0, .ref 165, .int 65 0, .int 0 0, .ref 172, .int 68 0, .int 0 0, .ref 179, .int 70 0, .int 0 0, .ref 186, .int 73 0, .int 0 0, .ref 193, .int 75 0, .int 0 0, .ref 200, .int 77 0, .int 0 0, .ref 207, .int 93 0, .int 0 0, .ref 214, .int 97 0, .int 0 0, .ref 221, .int 107 0, .int 0 0, .ref 228, .int 112 0, .int 0 0, .ref 235, .int 120 0, .int 0 0, .ref 242, .int 129 0, .int 0 0, .ref 249, .int 146 0, .int 0 0, .ref 258, .int 163 0, .int 0 0, .ref 279, .int 165 0, .int 0 0, .ref 286, .int 173 0, .int 0 0, .ref 293, .int 184 0, .int 0 0, .ref 300, .int 199 0, .int 0 0, .ref 307, .int 203 0, .int 0 0, .ref 314, .int 215 0, .int 0 0, .ref 321, .int 232 0, .int 0 0, .ref 328, .int 243 0, .int 0 0, .ref 335, .int 251 0, .int 0 0, .ref 356, .int 266 0, .int 0 0, .ref 377, .int 272 0, .int 0 0, .ref 384, .int 280 0, .int 0 0, .ref 391, .int 290 0, .int 0 0, .ref 398, .int 298 0, .int 0 0, .ref 405, .int 305 0, .int 0 0, .ref 412, .int 311 0, .int 0 0, .ref 419, .int 320 0, .int 0 0, .ref 426, .int 323 0, .int 0 0, .ref 433, .int 327 0, .int 0 0, .ref 440, .int 331 0, .int 0 0, .ref 447, .int 335 0, .int 0 0, .ref 454, .int 368 0, .int 0 0, .ref 461, .int 377 0, .int 0 0, .ref 482, .int 379 0, .int 0 0, .ref 489, .int 388 0, .int 0 0, .ref 496, .int 399 0, .int 0 0, .ref 503, .int 402 0, .int 0 0, .ref 510, .int 411 0, .int 0 0, .ref 566, .int 428 0, .int 0 0, .ref 573, .int 433 0, .int 0 0, .ref 580, .int 455 0, .int 0 0, .ref 587, .int 467 0, .int 0 0, .ref 594, .int 478 0, .int 0 0, .ref 601, .int 489 0, .int 0 0, .ref 608, .int 503 0, .int 0 0, .ref 613, .int 535 0, .int 0 0, .ref 618, .int 541 0, .int 0 0, .ref 625, .int 548 0, .int 0 0, .ref 630, .int 560 0, .int 0 0, .ref 637, .int 566 0, .int 0 0, .ref 644, .int 576 0, .int 0 0, .ref 649, .int 597 0, .int 0 0, .ref 656]
noncomputable def objs (P : Params) : List Obj := List.flatten [
 [boot_o_0 P],
 [boot_o_1 P],
 [({ cls := .none, data := .dict (.mk [ky P "type.__subclasses__.Exception.0" 214 (.int 31 0), ky P "type.__subclasses__.Exception.n" 215 (.int 1 0)]) 2 } : Obj)],
 [dc (glE P) 109],
 [boot_o_4 P],
 [boot_o_5 P],
 [boot_o_6 P],
 [boot_o_7 P],
 [boot_o_8 P],
 [boot_o_9 P],
 [boot_o_10 P],
 [tp []],
 [fl clL],
 [({ cls := .type "code", data := .fields (.mk [.str "<module>" 182, .str "<module>" 183, .str "/claim/cut.py" 184, .int 1 0, .int 0 0, .int 0 0, .int 0 0, .int 0 0, .ref 11, .bool false, .int 181 0, .ref 12, .none, .none, .none, .none, .int 185 0, .int 1 0, .str "/claim/cut.py" 186]) } : Obj)],
 [({ cls := .type "frame", slots := (.mk [some (.ref 13), some (.ref 3), some (.ref 3), none, some (.str "__main__" 164), none, some (.ref 0)]) } : Obj)],
 [tp [.type "Exception"]],
 [({ cls := .type "builtin_function_or_method", data := .fields (.mk [.builtin "type.__prepare__", .type "type"]) } : Obj)],
 [dc [ky P "__module__" 196 (.str "chess.errors" 187), ky P "__qualname__" 198 (.str "ChessError" 197), ky P "__firstlineno__" 200 (.int 2 199), ky P "__init__" 208 (.ref 28), ky P "__static_attributes__" 210 (.ref 29)] 5],
 [tp []],
 [fl [.int 4 0, .int 4 0, .ref 27]],
 [({ cls := .type "code", data := .fields (.mk [.str "ChessError" 191, .str "ChessError" 192, .str "/claim/cut.py" 193, .int 2 0, .int 0 0, .int 0 0, .int 0 0, .int 0 0, .ref 18, .bool false, .int 181 0, .ref 19, .none, .none, .none, .none, .int 194 0, .int 2 0, .str "/claim/cut.py" 195]) } : Obj)],
 [({ cls := .type "frame", slots := (.mk [some (.ref 20), some (.ref 3), some (.ref 17), none, some (.str "chess.errors" 187), none, some (.ref 0)]) } : Obj)],
 mkD (sM 1 0) "__init__" "ChessError.__init__" 22 201 4 2 ["self", "text"] "chess.errors" 187,
 [tp [.str "text" 209]],
 [dc [ky P "__module__" 196 (.str "chess.errors" 187), ky P "__firstlineno__" 200 (.int 2 199), ky P "__init__" 208 (.ref 28), ky P "__static_attributes__" 210 (.ref 29), ky P "__weakref__" 212 (.ref 32), ky P "__doc__" 213 (.none)] 3],
 [({ cls := .type "type", data := .cls { name := "ChessError", bases := [.type "Exception"], mro := [.ref 31, .type "Exception", .type "BaseException", .type "object"], ns := 30, qualname := "ChessError", subclasses := [.ref 44] }, slots := (.mk [some (.ref 15), none, some (.str "ChessError" 189), some (.str "ChessError" 197), some (.builtin "Exception.__new__"), some (.bool true)]) } : Obj)],
 [({ cls := .type "getset_descriptor", data := .fields (.mk [.str "__weakref__" 211, .ref 31, .builtin "ExceptionGroup.__weakref__", .none]) } : Obj)],
 [({ cls := .type "super", data := .fields (.mk [.ref 31, .ref 31, .ref 31]) } : Obj)],
 [({ cls := .type "builtin_function_or_method", data := .fields (.mk [.builtin "object.__init_subclass__", .ref 31]) } : Obj)],
 [tp [.ref 31]],
 [({ cls := .type "builtin_function_or_method", data := .fields (.mk [.builtin "type.__prepare__", .type "type"]) } : Obj)],
 [dc [ky P "__module__" 225 (.str "chess.errors" 187), ky P "__qualname__" 227 (.str "BadMove" 226), ky P "__firstlineno__" 229 (.int 7 228), ky P "__static_attributes__" 230 (.ref 42)] 4],
 [tp []],
 [fl []],
 [({ cls := .type "code", data := .fields (.mk [.str "BadMove" 220, .str "BadMove" 221, .str "/claim/cut.py" 222, .int 7 0, .int 0 0, .int 0 0, .int 0 0, .int 0 0, .ref 38, .bool false, .int 181 0, .ref 39, .none, .none, .none, .none, .int 223 0, .int 7 0, .str "/claim/cut.py" 224]) } : Obj)],
 [({ cls := .type "frame", slots := (.mk [some (.ref 40), some (.ref 3), some (.ref 37), none, some (.str "chess.errors" 187), none, some (.ref 0)]) } : Obj)],
 [tp []],
 [dc [ky P "__module__" 225 (.str "chess.errors" 187), ky P "__firstlineno__" 229 (.int 7 228), ky P "__static_attributes__" 230 (.ref 42), ky P "__doc__" 231 (.none)] 2],
 [({ cls := .type "type", data := .cls { name := "BadMove", bases := [.ref 31], mro := [.ref 44, .ref 31, .type "Exception", .type "BaseException", .type "object"], ns := 43, qualname := "BadMove" }, slots := (.mk [some (.ref 35), none, some (.str "BadMove" 218), some (.str "BadMove" 226), some (.builtin "Exception.__new__"), some (.bool true)]) } : Obj)],
 [({ cls := .type "super", data := .fields (.mk [.ref 44, .ref 44, .ref 44]) } : Obj)],
 [({ cls := .type "builtin_function_or_method", data := .fields (.mk [.builtin "object.__init_subclass__", .ref 44]) } : Obj)],
 mkD (sT 16) "make_piece" "make_piece" 47 260 22 2 ["side", "kind"] "chess.kinds" 234,
 mkD (sT 17) "side_of" "side_of" 54 268 24 1 ["piece"] "chess.kinds" 234,
 mkD (sT 18) "kind_of" "kind_of" 61 275 26 1 ["piece"] "chess.kinds" 234,
 mkD (sT 19) "move_from" "move_from" 68 282 28 1 ["move"] "chess.kinds" 234,
 mkD (sT 20) "move_to" "move_to" 75 289 30 1 ["move"] "chess.kinds" 234,
 mkD (sT 21) "move_special" "move_special" 82 296 32 1 ["move"] "chess.kinds" 234,
 mkD (sT 22) "move_promo" "move_promo" 89 303 34 1 ["move"] "chess.kinds" 234,
 mkD (sT 26) "wrap_half" "wrap_half" 96 320 41 1 ["n"] "chess.scores" 310,
 mkD (sT 27) "divide" "divide" 103 327 43 2 ["a", "n", "quotient"] "chess.scores" 310,
 mkD (sT 28) "make_score" "make_score" 110 336 48 2 ["mg", "eg"] "chess.scores" 310,
 mkD (sT 29) "mg_of" "mg_of" 117 344 50 1 ["s"] "chess.scores" 310,
 mkD (sT 30) "eg_of" "eg_of" 124 351 52 1 ["s"] "chess.scores" 310,
 [tp [.int 0 360, .int 0 361]],
 [tp [.int 126 362, .int 208 363]],
 [tp [.int 781 364, .int 854 365]],
 [tp [.int 825 366, .int 915 367]],
 [tp [.int 1276 368, .int 1380 369]],
 [tp [.int 2538 370, .int 2682 371]],
 [tp [.int 0 372, .int 0 373]],
 [ls [.ref 131, .ref 132, .ref 133, .ref 134, .ref 135, .ref 136, .ref 137]],
 mkD (sT 33) "own_rank" "own_rank" 139 375 56 3 ["geo", "side", "square", "rank"] "chess.psqt" 358,
 mkD (sT 34) "from_edge" "from_edge" 146 385 59 2 ["n", "size"] "chess.psqt" 358,
 mkD (sT 35) "is_long_diagonal" "is_long_diagonal" 153 393 61 3 ["geo", "file", "rank"] "chess.psqt" 358,
 mkD (sT 36) "pawn_bonus" "pawn_bonus" 160 402 63 2 ["file_in", "rank"] "chess.psqt" 358,
 mkD (sT 37) "knight_bonus" "knight_bonus" 167 410 65 2 ["file_in", "rank_in", "dim"] "chess.psqt" 358,
 mkD (sT 38) "bishop_bonus" "bishop_bonus" 174 419 68 3 ["file_in", "rank_in", "is_long"] "chess.psqt" 358,
 mkD (sT 39) "rook_bonus" "rook_bonus" 181 428 70 3 ["ranks", "file_in", "rank", "seventh"] "chess.psqt" 358,
 mkD (sT 40) "queen_bonus" "queen_bonus" 188 438 73 2 ["file_in", "rank_in"] "chess.psqt" 358,
 mkD (sT 41) "king_bonus" "king_bonus" 195 446 75 3 ["file_in", "rank", "rank_in"] "chess.psqt" 358,
 mkD (sT 42) "square_bonus" "square_bonus" 202 455 77 4 ["geo", "side", "kind", "square", "file", "rank", "file_in", "rank_in"] "chess.psqt" 358,
 mkD (sT 43) "square_score" "square_score" 209 469 93 3 ["geo", "piece", "square", "kind", "mg", "eg"] "chess.psqt" 358,
 mkD (sT 44) "make_psqt" "make_psqt" 216 481 97 1 ["geo", "table", "piece", "row", "sign", "square"] "chess.psqt" 358,
 mkD (sT 45) "psq_of" "psq_of" 223 493 107 2 ["pos", "table", "total", "square"] "chess.psqt" 358,
 mkD (sT 46) "psq_plain" "psq_plain" 230 503 112 1 ["pos", "total", "square", "piece", "worth"] "chess.psqt" 358,
 mkD (sT 47) "castle_change" "castle_change" 237 514 120 5 ["geo", "piece", "origin", "to", "table", "side", "rook", "index", "castle", "king"] "chess.psqt" 358,
 mkD (sT 48) "psq_change" "psq_change" 244 530 129 3 ["pos", "move", "table", "origin", "to", "special", "piece", "taken_at", "comes"] "chess.psqt" 358,
 [tp [.int 0 547, .int 1 548, .int 0 549, .int (-1) 551, .int 1 552, .int 1 553, .int (-1) 555, .int (-1) 557]],
 [tp [.int 1 559, .int 0 560, .int (-1) 562, .int 0 563, .int 1 564, .int (-1) 566, .int (-1) 568, .int 1 569]],
 [tp []],
 [({ cls := .type "builtin_function_or_method", data := .fields (.mk [.builtin "type.__prepare__", .type "type"]) } : Obj)],
 [dc [ky P "__module__" 578 (.str "chess.geometry" 545), ky P "__qualname__" 580 (.str "Geometry" 579), ky P "__firstlineno__" 582 (.int 146 581), ky P "__init__" 593 (.ref 266), ky P "__static_attributes__" 608 (.ref 267)] 5],
 [tp []],
 [fl [.int 148 0, .int 4 0, .ref 265]],
 [({ cls := .type "code", data := .fields (.mk [.str "Geometry" 573, .str "Geometry" 574, .str "/claim/cut.py" 575, .int 146 0, .int 0 0, .int 0 0, .int 0 0, .int 0 0, .ref 256, .bool false, .int 181 0, .ref 257, .none, .none, .none, .none, .int 576 0, .int 146 0, .str "/claim/cut.py" 577]) } : Obj)],
 [({ cls := .type "frame", slots := (.mk [some (.ref 258), some (.ref 3), some (.ref 255), none, some (.str "chess.geometry" 545), none, some (.ref 0)]) } : Obj)],
 mkD (sM 52 0) "__init__" "Geometry.__init__" 260 583 148 5 ["self", "files", "ranks", "has_double", "has_castling"] "chess.geometry" 545,
 [tp [.str "castles" 594, .str "file_masks" 595, .str "files" 596, .str "full" 597, .str "has_castling" 598, .str "has_double" 599, .str "king" 600, .str "knight" 601, .str "pawn" 602, .str "rank_masks" 603, .str "ranks" 604, .str "rays" 605, .str "rights_lost" 606, .str "size" 607]],
 [dc [ky P "__module__" 578 (.str "chess.geometry" 545), ky P "__firstlineno__" 582 (.int 146 581), ky P "__init__" 593 (.ref 266), ky P "__static_attributes__" 608 (.ref 267), ky P "__dict__" 610 (.ref 270), ky P "__weakref__" 612 (.ref 271), ky P "__doc__" 613 (.none)] 4],
 [({ cls := .type "type", data := .cls { name := "Geometry", bases := [.type "object"], mro := [.ref 269, .type "object"], ns := 268, qualname := "Geometry" }, slots := (.mk [none, none, some (.str "Geometry" 571), some (.str "Geometry" 579), some (.builtin "object.__new__"), some (.bool true)]) } : Obj)],
 [({ cls := .type "getset_descriptor", data := .fields (.mk [.str "__dict__" 609, .ref 269, .builtin "function.__dict__", .builtin "function.__dict__#set"]) } : Obj)],
 [({ cls := .type "getset_descriptor", data := .fields (.mk [.str "__weakref__" 611, .ref 269, .builtin "ExceptionGroup.__weakref__", .none]) } : Obj)],
 [({ cls := .type "super", data := .fields (.mk [.ref 269, .ref 269, .ref 269]) } : Obj)],
 [({ cls := .type "builtin_function_or_method", data := .fields (.mk [.builtin "object.__init_subclass__", .ref 269]) } : Obj)],
 mkD (sT 53) "is_growing" "is_growing" 274 616 163 1 ["d"] "chess.geometry" 545,
 mkD (sT 54) "add_masks" "add_masks" 281 623 165 1 ["geo", "row", "column", "r", "f"] "chess.geometry" 545,
 mkD (sT 55) "inner_squares" "inner_squares" 288 634 173 2 ["geo", "d", "edge"] "chess.geometry" 545,
 mkD (sT 56) "add_rays" "add_rays" 295 643 184 1 ["geo", "d", "inner", "delta", "ray", "order", "square", "goal"] "chess.geometry" 545,
 mkD (sT 57) "add_pawns" "add_pawns" 302 657 199 1 ["geo", "square"] "chess.geometry" 545,
 mkD (sT 58) "add_knights" "add_knights" 309 665 203 1 ["geo", "files", "not_first", "not_last", "not_first_two", "not_last_two", "square", "b", "near", "far", "found"] "chess.geometry" 545,
 mkD (sT 59) "add_castles" "add_castles" 316 682 215 1 ["geo", "start", "index", "base", "corner", "way", "goal"] "chess.geometry" 545,
 mkD (sT 60) "make_geometry" "make_geometry" 323 695 232 4 ["files", "ranks", "has_double", "has_castling", "geo"] "chess.geometry" 545,
 [tp []],
 [({ cls := .type "builtin_function_or_method", data := .fields (.mk [.builtin "type.__prepare__", .type "type"]) } : Obj)],
 [dc [ky P "__module__" 715 (.str "chess.zobrist" 706), ky P "__qualname__" 717 (.str "Zobrist" 716), ky P "__firstlineno__" 719 (.int 243 718), ky P "__init__" 730 (.ref 343), ky P "__static_attributes__" 735 (.ref 344)] 5],
 [tp []],
 [fl [.int 245 0, .int 4 0, .ref 342]],
 [({ cls := .type "code", data := .fields (.mk [.str "Zobrist" 710, .str "Zobrist" 711, .str "/claim/cut.py" 712, .int 243 0, .int 0 0, .int 0 0, .int 0 0, .int 0 0, .ref 333, .bool false, .int 181 0, .ref 334, .none, .none, .none, .none, .int 713 0, .int 243 0, .str "/claim/cut.py" 714]) } : Obj)],
 [({ cls := .type "frame", slots := (.mk [some (.ref 335), some (.ref 3), some (.ref 332), none, some (.str "chess.zobrist" 706), none, some (.ref 0)]) } : Obj)],
 mkD (sM 62 0) "__init__" "Zobrist.__init__" 337 720 245 5 ["self", "pieces", "ep", "rights", "side"] "chess.zobrist" 706,
 [tp [.str "ep" 731, .str "pieces" 732, .str "rights" 733, .str "side" 734]],
 [dc [ky P "__module__" 715 (.str "chess.zobrist" 706), ky P "__firstlineno__" 719 (.int 243 718), ky P "__init__" 730 (.ref 343), ky P "__static_attributes__" 735 (.ref 344), ky P "__dict__" 737 (.ref 347), ky P "__weakref__" 739 (.ref 348), ky P "__doc__" 740 (.none)] 4],
 [({ cls := .type "type", data := .cls { name := "Zobrist", bases := [.type "object"], mro := [.ref 346, .type "object"], ns := 345, qualname := "Zobrist" }, slots := (.mk [none, none, some (.str "Zobrist" 708), some (.str "Zobrist" 716), some (.builtin "object.__new__"), some (.bool true)]) } : Obj)],
 [({ cls := .type "getset_descriptor", data := .fields (.mk [.str "__dict__" 736, .ref 346, .builtin "function.__dict__", .builtin "function.__dict__#set"]) } : Obj)],
 [({ cls := .type "getset_descriptor", data := .fields (.mk [.str "__weakref__" 738, .ref 346, .builtin "ExceptionGroup.__weakref__", .none]) } : Obj)],
 [({ cls := .type "super", data := .fields (.mk [.ref 346, .ref 346, .ref 346]) } : Obj)],
 [({ cls := .type "builtin_function_or_method", data := .fields (.mk [.builtin "object.__init_subclass__", .ref 346]) } : Obj)],
 [tp []],
 [({ cls := .type "builtin_function_or_method", data := .fields (.mk [.builtin "type.__prepare__", .type "type"]) } : Obj)],
 [dc [ky P "__module__" 752 (.str "chess.position" 743), ky P "__qualname__" 754 (.str "Position" 753), ky P "__firstlineno__" 756 (.int 251 755), ky P "__init__" 765 (.ref 364), ky P "__static_attributes__" 778 (.ref 365)] 5],
 [tp []],
 [fl [.int 253 0, .int 4 0, .ref 363]],
 [({ cls := .type "code", data := .fields (.mk [.str "Position" 747, .str "Position" 748, .str "/claim/cut.py" 749, .int 251 0, .int 0 0, .int 0 0, .int 0 0, .int 0 0, .ref 354, .bool false, .int 181 0, .ref 355, .none, .none, .none, .none, .int 750 0, .int 251 0, .str "/claim/cut.py" 751]) } : Obj)],
 [({ cls := .type "frame", slots := (.mk [some (.ref 356), some (.ref 3), some (.ref 353), none, some (.str "chess.position" 743), none, some (.ref 0)]) } : Obj)],
 mkD (sM 64 0) "__init__" "Position.__init__" 358 757 253 3 ["self", "geo", "zob"] "chess.position" 743,
 [tp [.str "board" 766, .str "ep" 767, .str "full" 768, .str "geo" 769, .str "half" 770, .str "history" 771, .str "key" 772, .str "kinds" 773, .str "rights" 774, .str "side" 775, .str "sides" 776, .str "zob" 777]],
 [dc [ky P "__module__" 752 (.str "chess.position" 743), ky P "__firstlineno__" 756 (.int 251 755), ky P "__init__" 765 (.ref 364), ky P "__static_attributes__" 778 (.ref 365), ky P "__dict__" 780 (.ref 368), ky P "__weakref__" 782 (.ref 369), ky P "__doc__" 783 (.none)] 4],
 [({ cls := .type "type", data := .cls { name := "Position", bases := [.type "object"], mro := [.ref 367, .type "object"], ns := 366, qualname := "Position" }, slots := (.mk [none, none, some (.str "Position" 745), some (.str "Position" 753), some (.builtin "object.__new__"), some (.bool true)]) } : Obj)],
 [({ cls := .type "getset_descriptor", data := .fields (.mk [.str "__dict__" 779, .ref 367, .builtin "function.__dict__", .builtin "function.__dict__#set"]) } : Obj)],
 [({ cls := .type "getset_descriptor", data := .fields (.mk [.str "__weakref__" 781, .ref 367, .builtin "ExceptionGroup.__weakref__", .none]) } : Obj)],
 [({ cls := .type "super", data := .fields (.mk [.ref 367, .ref 367, .ref 367]) } : Obj)],
 [({ cls := .type "builtin_function_or_method", data := .fields (.mk [.builtin "object.__init_subclass__", .ref 367]) } : Obj)],
 mkD (sT 65) "put_piece" "put_piece" 372 786 266 3 ["pos", "piece", "s", "bit"] "chess.position" 743,
 mkD (sT 66) "take_piece" "take_piece" 379 796 272 2 ["pos", "s", "piece", "bit"] "chess.position" 743,
 mkD (sT 67) "shift_piece" "shift_piece" 386 806 280 3 ["pos", "a", "b", "piece", "bits", "numbers"] "chess.position" 743,
 mkD (sT 69) "moved_piece" "moved_piece" 393 820 290 2 ["pos", "move", "origin", "piece"] "chess.makemove" 818,
 mkD (sT 70) "taken_square" "taken_square" 400 830 298 2 ["pos", "move", "goal"] "chess.makemove" 818,
 mkD (sT 71) "rook_step" "rook_step" 407 839 305 3 ["geo", "side", "goal", "index", "wing"] "chess.makemove" 818,
 mkD (sT 72) "passed_square" "passed_square" 414 850 311 4 ["pos", "side", "origin", "goal", "files", "passed", "enemies"] "chess.makemove" 818,
 mkD (sT 73) "kept_rights" "kept_rights" 421 863 320 3 ["pos", "origin", "goal", "lost"] "chess.makemove" 818,
 mkD (sT 74) "clear_ep_key" "clear_ep_key" 428 873 323 1 ["pos"] "chess.makemove" 818,
 mkD (sT 75) "set_ep_key" "set_ep_key" 435 880 327 2 ["pos", "square"] "chess.makemove" 818,
 mkD (sT 76) "set_rights_key" "set_rights_key" 442 888 331 2 ["pos", "rights"] "chess.makemove" 818,
 mkD (sT 77) "do_move" "do_move" 449 896 335 2 ["pos", "move", "piece", "side", "origin", "goal", "special", "rook", "where", "taken"] "chess.makemove" 818,
 mkD (sT 79) "count_bits" "count_bits" 456 914 368 1 ["b", "count"] "chess.bits" 912,
 [ls [.int 1400 924]],
 [ls [.int 40 925, .int 30 926]],
 [ls [.int 30 927, .int 240 928, .int (-50) 930]],
 [ls [.int 0 931, .int 100 932, .int 0 933, .int 0 934]],
 [ls [.int (-25) 936, .int 0 937, .int 50 938, .int 100 939, .int (-200) 941]],
 [ls [.int (-180) 943, .int 20 944, .int 120 945, .int 130 946, .int (-140) 948, .int 0 949]],
 [ls [.ref 463, .ref 464, .ref 465, .ref 466, .ref 467, .ref 468]],
 [ls [.int 0 951]],
 [ls [.int 35 952, .int 0 953]],
 [ls [.int 10 954, .int 60 955, .int 0 956]],
 [ls [.int 60 957, .int 70 958, .int 40 959, .int 0 960]],
 [ls [.int 50 961, .int 40 962, .int 20 963, .int (-30) 965, .int 0 966]],
 [ls [.int 90 967, .int 100 968, .int (-40) 970, .int 140 971, .int 260 972, .int 0 973]],
 [ls [.ref 470, .ref 471, .ref 472, .ref 473, .ref 474, .ref 475]],
 mkD (sT 83) "count_of" "count_of" 477 975 377 3 ["pos", "side", "kind"] "chess.material" 922,
 mkD (sT 84) "counts_of" "counts_of" 484 984 379 1 ["pos", "counts", "side", "row", "kind"] "chess.material" 922,
 mkD (sT 85) "imbalance" "imbalance" 491 995 388 2 ["counts", "side", "own", "foe", "bonus", "kind", "weight", "other"] "chess.material" 922,
 mkD (sT 86) "imbalance_value" "imbalance_value" 498 1009 399 1 ["counts"] "chess.material" 922,
 mkD (sT 88) "_law_shapes" "_law_shapes" 505 1018 402 0 [] "law_nt0451_01" 1016,
 [tp [.int 0 1024, .int 1 1025]],
 [tp [.int 1 1026, .int 0 1027]],
 [tp [.int 0 1028, .int (-1) 1030]],
 [tp [.int (-1) 1032, .int 0 1033]],
 [ls [.ref 512, .ref 513, .ref 514, .ref 515]],
 [tp [.int 1 1035, .int 1 1036]],
 [tp [.int 1 1037, .int (-1) 1039]],
 [tp [.int (-1) 1041, .int (-1) 1043]],
 [tp [.int (-1) 1045, .int 1 1046]],
 [ls [.ref 517, .ref 518, .ref 519, .ref 520]],
 [tp [.int 1 1048, .int 2 1049]],
 [tp [.int 2 1050, .int 1 1051]],
 [tp [.int 2 1052, .int (-1) 1054]],
 [tp [.int 1 1055, .int (-2) 1057]],
 [tp [.int (-1) 1059, .int (-2) 1061]],
 [tp [.int (-2) 1063, .int (-1) 1065]],
 [tp [.int (-2) 1067, .int 1 1068]],
 [tp [.int (-1) 1070, .int 2 1071]],
 [ls [.ref 522, .ref 523, .ref 524, .ref 525, .ref 526, .ref 527, .ref 528, .ref 529]],
 [ls []],
 [ls [.int 118 1073, .int 2 1074, .int 0 1075, .int 0 1076, .int 0 1077, .int 2 1078, .int 0 1079]],
 [ls [.int 715 1080, .int 20 1081, .int 20 1082, .int 0 1083, .int 0 1084, .int 0 1085, .int (-30) 1087]],
 [ls [.int 807 1088, .int 8 1089, .int 8 1090, .int 0 1091, .int 0 1092, .int 0 1093, .int 14 1094]],
 [ls [.int 1261 1095, .int 6 1096, .int 0 1097, .int 0 1098, .int 0 1099, .int 0 1100, .int 14 1101]],
 [ls [.int 2536 1102, .int 0 1103, .int 0 1104, .int 0 1105, .int 3 1106, .int 0 1107, .int 0 1108]],
 [ls [.int 270 1109, .int (-40) 1111, .int 0 1112, .int (-55) 1114, .int 0 1115, .int 0 1116, .int 0 1117]],
 [ls [.ref 531, .ref 532, .ref 533, .ref 534, .ref 535, .ref 536, .ref 537]],
 [ls []],
 [ls [.int 201 1119, .int (-3) 1121, .int 0 1122, .int 7 1123, .int 0 1124, .int 0 1125, .int 0 1126]],
 [ls [.int 800 1127, .int 15 1128, .int 15 1129, .int 0 1130, .int 0 1131, .int 0 1132, .int (-30) 1134]],
 [ls [.int 891 1135, .int 7 1136, .int 7 1137, .int 0 1138, .int 0 1139, .int 0 1140, .int 0 1141]],
 [ls [.int 1374 1142, .int 0 1143, .int 0 1144, .int 2 1145, .int 0 1146, .int 0 1147, .int 14 1148]],
 [ls [.int 2642 1149, .int 12 1150, .int 12 1151, .int 0 1152, .int 0 1153, .int 0 1154, .int 0 1155]],
 [ls [.int 0 1156, .int 14 1157, .int 14 1158, .int 0 1159, .int 30 1160, .int 0 1161, .int 0 1162]],
 [ls [.ref 539, .ref 540, .ref 541, .ref 542, .ref 543, .ref 544, .ref 545]],
 [ls [.int 1400 1164]],
 [ls [.int 40 1165, .int 30 1166]],
 [ls [.int 30 1167, .int 240 1168, .int (-50) 1170]],
 [ls [.int 0 1171, .int 100 1172, .int 0 1173, .int 0 1174]],
 [ls [.int (-25) 1176, .int 0 1177, .int 50 1178, .int 100 1179, .int (-200) 1181]],
 [ls [.int (-180) 1183, .int 20 1184, .int 120 1185, .int 130 1186, .int (-140) 1188, .int 0 1189]],
 [ls [.ref 547, .ref 548, .ref 549, .ref 550, .ref 551, .ref 552]],
 [ls [.int 0 1191]],
 [ls [.int 35 1192, .int 0 1193]],
 [ls [.int 10 1194, .int 60 1195, .int 0 1196]],
 [ls [.int 60 1197, .int 70 1198, .int 40 1199, .int 0 1200]],
 [ls [.int 50 1201, .int 40 1202, .int 20 1203, .int (-30) 1205, .int 0 1206]],
 [ls [.int 90 1207, .int 100 1208, .int (-40) 1210, .int 140 1211, .int 260 1212, .int 0 1213]],
 [ls [.ref 554, .ref 555, .ref 556, .ref 557, .ref 558, .ref 559]],
 mkD (sT 96) "_law_goals" "_law_goals" 561 1215 411 4 ["files", "ranks", "cells", "s", "kind", "up", "ways", "goals", "df", "dr", "f", "r"] "law_nt0451_01" 1016,
 mkD (sT 97) "_law_held" "_law_held" 568 1233 428 5 ["files", "ranks", "cells", "s", "side", "q"] "law_nt0451_01" 1016,
 mkD (sT 98) "_law_pawn_moves" "_law_pawn_moves" 575 1245 433 4 ["shape", "cells", "s", "ep", "files", "ranks", "has_double", "_", "side", "up", "goals", "g", "moves", "move", "promo"] "law_nt0451_01" 1016,
 mkD (sT 99) "_law_castling" "_law_castling" 582 1266 455 4 ["shape", "cells", "side", "rights", "files", "ranks", "_", "has_castling", "home", "s"] "law_nt0451_01" 1016,
 mkD (sT 100) "_law_moves" "_law_moves" 589 1282 467 5 ["shape", "cells", "side", "ep", "rights", "moves", "s", "g"] "law_nt0451_01" 1016,
 mkD (sT 101) "_law_after" "_law_after" 596 1296 478 3 ["files", "cells", "move", "origin", "to", "special", "promo", "new"] "law_nt0451_01" 1016,
 mkD (sT 102) "_law_pick" "_law_pick" 603 1310 489 6 ["shape", "cells", "side", "ep", "rights", "n", "moves", "keen", "move", "k", "new"] "law_nt0451_01" 1016,
 mkE (sT 103) "_law_board" "_law_board" 610 1327 503 4 "law_nt0451_01" 1016,
 mkE (sT 104) "_law_position" "_law_position" 615 1333 535 2 "law_nt0451_01" 1016,
 mkD (sT 105) "_law_marks" "_law_marks" 620 1339 541 4 ["files", "ranks", "piece", "s", "f", "r", "a", "b", "flags"] "law_nt0451_01" 1016,
 mkE (sT 106) "_law_agree" "_law_agree" 627 1354 548 4 "law_nt0451_01" 1016,
 mkD (sT 107) "_law_refused" "_law_refused" 632 1360 560 3 ["pos", "table", "s"] "law_nt0451_01" 1016,
 mkD (sT 108) "_law_form" "_law_form" 639 1369 566 2 ["men", "foes", "bonus", "kind", "other"] "law_nt0451_01" 1016,
 mkE (sT 109) "_law_whole" "_law_whole" 646 1380 576 5 "law_nt0451_01" 1016,
 mkD (sT 110) "law" "law" 651 1386 597 1 ["script", "drawn", "n", "shape", "files", "side", "geo", "cells", "rights", "pos", "table", "kept", "ep", "k", "move", "origin", "to", "special", "promo", "number", "right", "corner"] "law_nt0451_01" 1016
  ]
noncomputable def T1 (P : Params) : BT := treeOf 20 (objs P)
end Vh
end
section
namespace Vh
open PySem PySem.W PyProof.Rows
noncomputable def objsK (P : Params) (x : Str) (t n g c : Nat) : List Obj := (((objs P).take n).set 3 (dc (((glE P).take g).set 0 (ky P "__name__" 165 (.str x t))) g)).set 12 (fl (clL.take c))
noncomputable def stK (P : Params) (os : OsState) (x : Str) (t n g c k : Nat) : SharedT := ⟨treeOf 20 (objsK P x t n g c), n, {}, Array.mk [], {}, k, os⟩
noncomputable def st0 (P : Params) (os : OsState) : SharedT := ⟨treeOf 20 ((objsK P "__main__" 164 15 9 0).set 2 (boot_o_2 P)), 15, {}, Array.mk [], {}, 187, os⟩
noncomputable def topB : List Stmt := behindTheImports pw
noncomputable def envT : Env := { scope := pw.main.scope, locals := mainNs, globals := mainNs, cells := [], code := .ref 13, frame := some 14 }
noncomputable def cE : Code := .body topB envT
noncomputable def bK (i n : Nat) : List Stmt := (topB.drop i).take n
noncomputable def p0 : Pos := ⟨0, 0, 0, 0⟩
set_option maxRecDepth 100000
set_option maxHeartbeats 0
theorem pre0 : ∀ (w : World) (os : OsState), topGo treeTable pw w 11 (some (.ref 6)) 12 ⟨boot_heap w.params, Array.mk [], boot_drawn, boot_toks, os⟩ (topStub pw) = some ((st0 w.params os).abs, ⟨denote treeTable cE, cE, p0, [topFrame p0]⟩) := by intro w os; kernel_rfl
theorem blk0 : ∀ (w : World) (os : OsState), segRun treeTable pw w 11 (some (.ref 6)) 1 1 (st0 w.params os).abs (blockOf topB envT cE p0 [topFrame p0]) = some (.next, (st0 w.params os).abs, cE, p0) := by intro w os; kernel_rfl
theorem sg0 : ∀ (w : World) (os : OsState), segRunT treeTable pw w 11 (some (.ref 6)) 1 451 (st0 w.params os) (piecesOf (bK 0 3) envT cE p0 [topFrame p0]) = some (.next, stK w.params os "chess.errors" 187 47 11 6 234, cE, ⟨7, 0, 8, 8⟩) := by intro w os; kernel_rfl
theorem sg1 : ∀ (w : World) (os : OsState), segRunT treeTable pw w 11 (some (.ref 6)) 1 679 (stK w.params os "chess.errors" 187 47 11 6 234) (piecesOf (bK 3 34) envT cE ⟨7, 0, 8, 8⟩ [topFrame p0]) = some (.next, stK w.params os "chess.psqt" 358 167 42 54 410, cE, ⟨63, 0, 64, 85⟩) := by intro w os; kernel_rfl
theorem sg2 : ∀ (w : World) (os : OsState), segRunT treeTable pw w 11 (some (.ref 6)) 1 475 (stK w.params os "chess.psqt" 358 167 42 54 410) (piecesOf (bK 37 15) envT cE ⟨63, 0, 64, 85⟩ [topFrame p0]) = some (.next, stK w.params os "chess.geometry" 545 253 56 90 571, cE, ⟨145, 0, 145, 10⟩) := by intro w os; kernel_rfl
theorem sg3 : ∀ (w : World) (os : OsState), segRunT treeTable pw w 11 (some (.ref 6)) 1 505 (stK w.params os "chess.geometry" 545 253 56 90 571) (piecesOf (bK 52 9) envT cE ⟨145, 0, 145, 10⟩ [topFrame p0]) = some (.next, stK w.params os "chess.geometry" 545 330 65 117 706, cE, ⟨232, 0, 241, 14⟩) := by intro w os; kernel_rfl
theorem sg4 : ∀ (w : World) (os : OsState), segRunT treeTable pw w 11 (some (.ref 6)) 1 481 (stK w.params os "chess.geometry" 545 330 65 117 706) (piecesOf (bK 61 4) envT cE ⟨232, 0, 241, 14⟩ [topFrame p0]) = some (.next, stK w.params os "chess.position" 743 372 67 123 786, cE, ⟨251, 0, 265, 25⟩) := by intro w os; kernel_rfl
theorem sg5 : ∀ (w : World) (os : OsState), segRunT treeTable pw w 11 (some (.ref 6)) 1 407 (stK w.params os "chess.position" 743 372 67 123 786) (piecesOf (bK 65 14) envT cE ⟨251, 0, 265, 25⟩ [topFrame p0]) = some (.next, stK w.params os "chess.bits" 912 456 79 159 914, cE, ⟨367, 0, 367, 8⟩) := by intro w os; kernel_rfl
theorem sg6 : ∀ (w : World) (os : OsState), segRunT treeTable pw w 11 (some (.ref 6)) 1 572 (stK w.params os "chess.bits" 912 456 79 159 914) (piecesOf (bK 79 14) envT cE ⟨367, 0, 367, 8⟩ [topFrame p0]) = some (.next, stK w.params os "law_nt0451_01" 1016 539 91 177 1119, cE, ⟨407, 0, 407, 10⟩) := by intro w os; kernel_rfl
theorem sg7 : ∀ (w : World) (os : OsState), segRunT treeTable pw w 11 (some (.ref 6)) 1 490 (stK w.params os "law_nt0451_01" 1016 539 91 177 1119) (piecesOf (bK 93 11) envT cE ⟨407, 0, 407, 10⟩ [topFrame p0]) = some (.next, stK w.params os "law_nt0451_01" 1016 615 102 201 1333, cE, ⟨503, 0, 534, 26⟩) := by intro w os; kernel_rfl
theorem sg8 : ∀ (w : World) (os : OsState), segRunT treeTable pw w 11 (some (.ref 6)) 1 230 (stK w.params os "law_nt0451_01" 1016 615 102 201 1333) (piecesOf (bK 104 7) envT cE ⟨503, 0, 534, 26⟩ [topFrame p0]) = some (.next, ⟨T1 w.params, 658, {}, Array.mk [], {}, 1414, os⟩, cE, ⟨597, 0, 630, 51⟩) := by intro w os; kernel_rfl
theorem topB_eq : topB = bK 0 3 ++ (bK 3 34 ++ (bK 37 15 ++ (bK 52 9 ++ (bK 61 4 ++ (bK 65 14 ++ (bK 79 14 ++ (bK 93 11 ++ (bK 104 7 ++ [])))))))) := by kernel_rfl
theorem fin0 (w : World) (os : OsState) : topRun treeTable pw w 11 (some (.ref 6)) 97 (⟨T1 w.params, 658, {}, Array.mk [], {}, 1414, os⟩ : SharedT).abs ⟨doneF .next, cE, ⟨597, 0, 630, 51⟩, [topFrame p0]⟩ = some (⟨T1 w.params, 658, {}, Array.mk [], {}, 1414, os⟩ : SharedT).abs := by kernel_rfl
theorem run1 (w : World) (os : OsState) : topRun treeTable pw w 11 (some (.ref 6)) (12 + (1 + (451 + (679 + (475 + (505 + (481 + (407 + (572 + (490 + (230 + 97))))))))))) ⟨boot_heap w.params, Array.mk [], boot_drawn, boot_toks, os⟩ (topStub pw) = some (⟨T1 w.params, 658, {}, Array.mk [], {}, 1414, os⟩ : SharedT).abs := by
  have h := piece_app (segRun_of (sg0 w os)) (piece_app (segRun_of (sg1 w os)) (piece_app (segRun_of (sg2 w os)) (piece_app (segRun_of (sg3 w os)) (piece_app (segRun_of (sg4 w os)) (piece_app (segRun_of (sg5 w os)) (piece_app (segRun_of (sg6 w os)) (piece_app (segRun_of (sg7 w os)) (piece_app (segRun_of (sg8 w os)) (piece_nil (fin0 w os))))))))))
  rw [← topB_eq] at h
  exact go_top (pre0 w os) (piece_block (blk0 w os) h)
end Vh
end
section
namespace Vh
open PySem PySem.W PyProof.Rows
noncomputable def keepL : List Nat := [1,2,4,5,6,7,8,9,10,11,12,13,14,15,16,17,18,19,20,21,22,24,25,26,27,28,29,30,32,33,34,35,36,37,38,39,40,41,42,43,44,45,46,47,48,50,51,52,53,54,55,56,57,58,59,60,62,64,65,66,67,69,70,71,72,73,74,75,76,77,79,81,82,83,84,85,86,88,89,90,91,92,93,94,95,96,97,98,99,100,101,102,103,104,105,106,107,108,109,110]
noncomputable def vw : Program := view pw keepL
noncomputable def looseL : List Str := ["HALF", "WORD", "PIECE_VALUES", "OWN_WEIGHTS", "FOE_WEIGHTS", "_law_straight", "_law_slant", "_law_jump", "_law_early", "_law_late", "_law_ours", "_law_theirs"]
noncomputable def H1 (P : Params) : Heap := ⟨Array.mk (objs P), {}⟩
set_option maxRecDepth 100000
set_option maxHeartbeats 0
theorem h1_abs : ∀ P, absHeap (T1 P) 658 {} = H1 P := by intro P; kernel_rfl
theorem look1 : ∀ w : World, (fun os => (staticsOk (importedModules pw.main.body) (boot_heap w.params) (H1 w.params) && namesBound pw (H1 w.params) && gensDone ⟨H1 w.params, Array.mk [], {}, 1414, os⟩ && laidKept (boot_heap w.params) (H1 w.params))) = fun _ => true := by intro w; kernel_rfl
end Vh
end
section
namespace Vh
open PySem PySem.W PyProof.Rows
set_option maxRecDepth 100000
set_option maxHeartbeats 0
noncomputable def recAt : Stmt → Option DefRec
  | .FunctionDef name a b _ _ _ sc _ _ pos => some ⟨name, a, b, sc, pos⟩
  | _ => none
noncomputable def RV : List DefRec := vw.main.body.filterMap recAt
noncomputable def WL : List (Str × WData) := (["STEP_FILES", "STEP_RANKS"] : List Str).filterMap fun x => (theConstW vw x).map fun d => (x, d)
theorem defs_eq : (recsOf vw, wdefsOf vw, drecsOf vw) = (RV, [], []) := by kernel_rfl
theorem recs_eq : recsOf vw = RV := (Prod.mk.inj defs_eq).1
theorem wdefs_eq : wdefsOf vw = [] := (Prod.mk.inj (Prod.mk.inj defs_eq).2).1
theorem drecs_eq : drecsOf vw = [] := (Prod.mk.inj (Prod.mk.inj defs_eq).2).2
noncomputable def defR (x : Str) : Option (DefRec × List (Str × Expr)) := match RV.find? (fun e => e.name == x) with
  | some d => if d.params.defaults.isEmpty then some (d, []) else none
  | none => none
theorem defR_eq (x : Str) : defOf vw x = defR x := by
  unfold defOf defR
  rw [recs_eq, wdefs_eq]
  rfl
theorem owns_eq : ownsOf vw = [] := by kernel_rfl
theorem dclss_eq : dclssOf vw looseL = [] := by kernel_rfl
theorem wclss_eq : wclssOf vw looseL = [] := by kernel_rfl
theorem wlits_eq : wlitsOf vw = WL := by kernel_rfl
noncomputable abbrev SE (w : World) (os : OsState) : Shared := ⟨H1 w.params, Array.mk [], {}, 1414, os⟩
noncomputable def LW : List Str := looseL ++ (["STEP_FILES", "STEP_RANKS"] : List Str)
theorem lw : looseW vw looseL = LW := by
  unfold looseW looseD heldW
  rw [drecs_eq, dclss_eq, wclss_eq, wdefs_eq, wlits_eq]
  kernel_rfl
theorem k1 : ∀ (w : World) (os : OsState), seen ((recsOf vw).map (·.name)) (ownsOf vw) [] { (SE w os) with gens := #[] } = expectedOf vw := by
  unfold expectedOf
  rw [recs_eq, owns_eq]
  intro w os; kernel_rfl
theorem k2 : ∀ (w : World) (os : OsState), (SE w os).heap.bltView = bltViewBooted := by intro w os; kernel_rfl
theorem k3 : ∀ (w : World) (os : OsState), (SE w os).heap.keysOk LW ((recsOf vw).map (·.name)) ((litsOf vw).map (·.1)) ((clssOf vw LW).map (·.name)) = true := by
  rw [recs_eq]
  intro w os; kernel_rfl
theorem k3a : ∀ (w : World) (os : OsState), (SE w os).heap.accountedOkI (importedModules pw.main.body) = true := by intro w os; kernel_rfl
theorem k3b : ∀ (w : World) (os : OsState), (SE w os).heap.isNs mainGlobals = true := by intro w os; kernel_rfl
theorem k3c : ∀ (w : World) (os : OsState), (SE w os).heap.isNs builtinsNs = true := by intro w os; kernel_rfl
theorem k3d : ∀ (w : World) (os : OsState), tablesOk vw (SE w os).heap = true := by intro w os; kernel_rfl
theorem k3e : ∀ (w : World) (os : OsState), (xlAt vw [] (SE w os) && recOk [] (SE w os)) = true := by intro w os; kernel_rfl
theorem k4 : ∀ (w : World) (os : OsState), tabsOk vw (SE w os) = true := by
  unfold tabsOk
  rw [recs_eq]
  intro w os; kernel_rfl
theorem k5 : ∀ (w : World) (os : OsState), pinSeenD vw (drecsOf vw) (SE w os) = pinGoodD (drecsOf vw) := by
  rw [drecs_eq]
  intro w os; kernel_rfl
theorem k6 : ∀ (w : World) (os : OsState), plainSeenE vw LW (SE w os) = plainGoodE vw LW := by intro w os; kernel_rfl
theorem k7 : ∀ (w : World) (os : OsState), plainSeenD vw looseL (SE w os) = plainGoodD vw looseL := by
  unfold plainSeenD plainGoodD
  rw [dclss_eq]
  intro w os; kernel_rfl
theorem k8 : ∀ (w : World) (os : OsState), wideSeen vw (SE w os) = wideGood vw := by
  unfold wideSeen wideGood
  rw [wdefs_eq, wlits_eq]
  intro w os; kernel_rfl
theorem k9 : ∀ (w : World) (os : OsState), clsSeenW vw looseL (SE w os) = clsGoodW vw looseL := by
  unfold clsSeenW clsGoodW
  rw [wclss_eq]
  intro w os; kernel_rfl
theorem andT {a b : Bool} (x : a = true) (y : b = true) : (a && b) = true := by rw [x, y]; rfl
theorem look2 (w : World) (os : OsState) : openSeen vw looseL (importedModules pw.main.body) (fun s => xlAt vw [] s && recOk [] s) true (SE w os) = openGood vw looseL := by
  unfold openSeen openGood
  rw [lw]
  exact looks_pair (k1 w os) <| looks_pair (k2 w os) <| looks_pair (andT (andT (andT (andT (andT (andT (k3 w os) (k3a w os)) (k3b w os)) (k3c w os)) (k3d w os)) (k3e w os)) rfl) <| looks_pair (k4 w os) <| looks_pair (k5 w os) <| looks_pair (k6 w os) <| looks_pair (k7 w os) <| looks_pair (k8 w os) (k9 w os)
end Vh
end
section
namespace Vh
open PySem PySem.W PyProof.Rows
set_option maxRecDepth 100000
set_option maxHeartbeats 0
noncomputable def kAs : List Addr := List.range 11 ++ [27, 28, 30, 31, 43, 44, 251, 252, 265, 266, 268, 269, 342, 343, 345, 346, 363, 364, 366, 367] ++ List.range' 131 8 ++ List.range' 463 14 ++ List.range' 512 49
noncomputable def oAt (P : Params) (a : Nat) : Obj := ((objs P)[a]?).getD { cls := .none }
noncomputable def KF (P : Params) : Frag := kAs.map fun a => (a, oAt P a)
theorem k_as : ∀ P, kAs = (KF P).map (·.1) := fun P => by kernel_rfl
noncomputable abbrev HK : Hook := kHook KF kAs k_as
theorem look3 : ∀ w : World, (fun os => kAs.map ((H1 w.params).get?)) = fun (os : OsState) => (KF w.params).map fun p => some p.2 := fun w => by kernel_rfl
theorem size1 : ∀ w : World, ((boot_heap w.params).isNs mainGlobals && (Array.mk ([] : List GenState)).size == 0, (boot_heap w.params).objs.size, (boot_heap w.params).nsMap mainGlobals "__annotations__") = (true, 11, some (.ref 6)) := fun w => by kernel_rfl
theorem run2 (w : World) (os : OsState) : topRun treeTable pw w 11 (some (.ref 6)) 4400 ⟨boot_heap w.params, Array.mk [], boot_drawn, boot_toks, os⟩ (topStub pw) = some ⟨H1 w.params, Array.mk [], {}, 1414, os⟩ := by
  rw [← h1_abs]
  exact run1 w os
theorem left1 : LeftO pw vw looseL (fun s => xlAt vw [] s && recOk [] s) HK.obs HK.val 4400 :=
  LeftO.of_pieces (boot_open (by kernel_rfl) (by decide +kernel) (fun s => by kernel_rfl)) size1 run2 (by decide +kernel) fun w => funext fun os => by
    rw [show (staticsOk (importedModules pw.main.body) (boot_heap w.params) (H1 w.params) && namesBound pw (H1 w.params) && gensDone ⟨H1 w.params, Array.mk [], {}, 1414, os⟩ && laidKept (boot_heap w.params) (H1 w.params)) = true from congrFun (look1 w) os]
    exact Prod.ext rfl (Prod.ext (look2 w os) (congrFun (look3 w) os))
end Vh
end
section
namespace Vh
open PySem PySem.W PyProof.Rows
set_option maxRecDepth 100000
set_option maxHeartbeats 0
abbrev lw0 : OpenLaw := PySem.Challenge.rw_nt0451_01
theorem b1 : (sreFenced pw.main && ((moduleNames pw.main.body).isEmpty || lookedIntoSs (moduleNames pw.main.body) pw.main.body)) = true := by kernel_rfl
theorem b2 : namesResolve pw = true := by kernel_rfl
theorem b3 : pw.boundNames.all (fun n => !worldNames.contains n) = true := by kernel_rfl
theorem b4 : noRoadLSs { strict := !(importedModules pw.main.body).all cThrough.contains, foot := none, bare := (["vars", "dir", "locals"] : List Str).filter (readsOut pw pw.main.body) } pw.main.body = true := by kernel_rfl
theorem b5 : (namesMeet pw pw.main.body fun _ n => attrL n) = true := by kernel_rfl
theorem b6 : looksOpen pw = true := by
  unfold looksOpen
  rw [b1, b2, b3, b4, b5]; kernel_rfl
end Vh
end
section
namespace Vh
open PySem PySem.W PyProof.Rows
set_option maxRecDepth 100000
set_option maxHeartbeats 0
theorem b7 : lw0.row.wellSaid = true := by
  unfold OpenRow.wellSaid OpenRow.partSaid
  rw [show looksOpen lw0.row.toRowW.prog = true from b6]
  kernel_rfl
theorem a2 : noRoadLSs { strict := true, foot := some lw0.bound', writes := lw0.writes, may := lw0.may } lw0.footing = true := by kernel_rfl
theorem a6 : namesMeet lw0.prog lw0.footing (fun sc n => (!(["type", "isinstance", "issubclass", "getattr", "hasattr"] : List Str).contains n || sc.names.lookup n == some .globalImplicit) &&
    (lw0.may != some n || sc.kind == .module || sc.names.lookup n == some .globalImplicit)) = true := by kernel_rfl
theorem a8 : namesMeet lw0.prog lw0.above (fun _ n => !lw0.own.contains n) = true := by kernel_rfl
theorem a9 : namesMeet lw0.prog lw0.footing (fun sc n => sc.kind == .module || sc.names.lookup n != some .globalExplicit) = true := by kernel_rfl
theorem a4 : lw0.bound'.all (fun n => !builtinNamed n || lw0.about == [n] || !lw0.reads n) = true := by kernel_rfl
theorem law_said : lw0.wellSaid = true := by
  unfold OpenLaw.wellSaid
  rw [b7, a2, a4, a6, a8, a9]
  kernel_rfl
end Vh
end
section
namespace Vh
open PySem PySem.W PyProof.Rows
set_option maxRecDepth 100000
set_option maxHeartbeats 0
theorem law_some : (defR "law").isSome = true := by kernel_rfl
noncomputable def dLaw : DefRec := ((defR "law").get law_some).1
theorem law_def : defOf vw lw0.row.name = some (dLaw, []) := by
  rw [defR_eq]
  kernel_rfl
theorem law_txt : lw0.row.prog.theDef lw0.row.name = some (dLaw.params, dLaw.body, dLaw.scope) := by kernel_rfl
theorem law_kw : kwWritten? dLaw.params.kwonlyargs dLaw.params.kw_defaults = some [] := by kernel_rfl
theorem law_ok : (chainsOk vw && opensWell lw0.row.prog && (frees lw0.row.toRowW && lw0.row.within.isEmpty)) = true := by kernel_rfl
theorem law_holds (call : WalkX vw looseL (XL vw []) HK.obs HK.val lw0.row.toRowW dLaw [] fun f vs => PySem.call f vs) : lw0.Holds := by
  refine holds_law law_said fun said => ?_
  refine holds_openX (q := vw) (loose := looseL) (Xt := fun s => xlAt vw [] s && recOk [] s) (XP := XL vw []) (Yf := HK.obs) (Ya := HK.val) (N := 4400) left1 (fun s e => xl_of s (Bool.and_eq_true_iff.mp e).1) XL.keeps law_def law_txt law_kw (fun s e => recFacts_of (Bool.and_eq_true_iff.mp e).2) (by kernel_rfl) said law_ok ⟨rfl, rfl, rfl, rfl, rfl, by decide +kernel⟩ ?hw call
  w_witness2
end Vh
end
section
namespace Vh
open PySem PySem.W PyProof.Rows
theorem zip_has {xs : List Str} {vs : List Value} : ∀ {n}, xs.length = vs.length → n ∈ xs → ((xs.zip vs).lookup n).isSome = true := by
  induction xs generalizing vs with
  | nil => intro n _ h; cases h
  | cons x r ih =>
    intro n hl h
    cases vs with
    | nil => cases hl
    | cons v w =>
      rw [List.zip_cons_cons, List.lookup_cons]
      by_cases e : n = x
      · rw [e]; simp
      · rw [show (n == x) = false by simpa using e]
        exact ih (Nat.succ.inj hl) ((List.mem_cons.mp h).resolve_left e)
theorem fm_congr {α β : Type} {f g : α → Option β} : ∀ {l : List α}, (∀ x ∈ l, f x = g x) → l.filterMap f = l.filterMap g
  | [], _ => rfl
  | x :: r, h => by rw [List.filterMap_cons, List.filterMap_cons, h x (.head _), fm_congr fun y hy => h y (.tail _ hy)]
theorem zip_back {xs : List Str} : ∀ {vs : List Value}, xs.length = vs.length → xs.Nodup → (xs.filterMap fun n => ((xs.zip vs).lookup n).map (fun v => (n, v))) = xs.zip vs := by
  induction xs with
  | nil => intro vs _ _; rfl
  | cons x r ih =>
    intro vs hl hn
    cases vs with
    | nil => cases hl
    | cons v w =>
      have hx := List.nodup_cons.mp hn
      rw [List.zip_cons_cons, List.filterMap_cons, List.lookup_cons, beq_self_eq_true]
      show (x, v) :: _ = _
      exact congrArg ((x, v) :: ·) ((fm_congr fun n hm => by rw [List.lookup_cons, show (n == x) = false from by simpa using fun e : n = x => hx.1 (e ▸ hm)]).trans (ih (Nat.succ.inj hl) hx.2))
noncomputable def bfd (q : Str) (as : List Arg) : FuncData := { name := q, qualname := q, params := { posonlyargs := [], args := as, vararg := none, kwonlyargs := [], kw_defaults := [], kwarg := none, defaults := [] }, body := .stmts [], scope := { kind := .function, names := [], isGenerator := false, isCoroutine := false }, globals := 0, closure := [], defaults := .none, kwdefaults := .none }
theorem bind_eq {fd : FuncData} {as : List Arg} (hp : fd.params = { posonlyargs := [], args := as, vararg := none, kwonlyargs := [], kw_defaults := [], kwarg := none, defaults := [] }) (hd : fd.defaults = .none) (hk : fd.kwdefaults = .none) (vals : List Value) : bindArgs fd ⟨vals, []⟩ = bindArgs (bfd fd.qualname as) ⟨vals, []⟩ := by
  cases fd; cases hp; cases hd; cases hk; rfl
theorem bind_bfd {q : Str} {as : List Arg} {vals : List Value} {ns : List Str} (e : as.map Arg.arg = ns) (h1 : ¬ (decide (vals.length > ns.length) && true) = true) (h2 : ¬ (!((ns.take (ns.length - (([] : List Value).drop (0 - ns.length)).length)).filter fun n => ((ns.zip vals).lookup n).isNone).isEmpty) = true) :
    bindArgs (bfd q as) ⟨vals, []⟩ = pure (ns.filterMap fun n => ((ns.zip vals).lookup n).map (fun v => (n, v))) := by
  subst e
  refine (if_neg h1).trans ?_
  refine (if_neg h2).trans ?_
  show (forIn ((List.drop _ (as.map Arg.arg)).zip (([] : List Value).drop _)) _ _ >>= _) = _
  rw [List.drop_nil, List.zip_nil_right]
  show (pure (((as.map Arg.arg) ++ []).filterMap _) : Sem (List (Str × Value))) = _
  rw [List.append_nil]
  rfl
theorem bind_plain {fd : FuncData} {as : List Arg} (hp : fd.params = { posonlyargs := [], args := as, vararg := none, kwonlyargs := [], kw_defaults := [], kwarg := none, defaults := [] }) (hd : fd.defaults = .none) (hk : fd.kwdefaults = .none) (hn : (as.map (·.arg)).Nodup) {vals : List Value} (hl : vals.length = (as.map (·.arg)).length) :
    bindArgs fd ⟨vals, []⟩ = pure ((as.map (·.arg)).zip vals) := by
  refine (bind_eq hp hd hk vals).trans ((bind_bfd rfl ?_ ?_).trans (congrArg pure (zip_back hl.symm hn)))
  · rw [hl]; simp
  · have e : ∀ l : List Str, l.take (l.length - (([] : List Value).drop (0 - l.length)).length) = l := fun l => by rw [List.drop_nil]; exact List.take_length
    rw [e, show ((as.map (·.arg)).filter fun n => (((as.map (·.arg)).zip vals).lookup n).isNone) = [] from List.filter_eq_nil_iff.mpr fun n hn => by
      have := zip_has (vs := vals) hl.symm hn
      cases h : ((as.map (·.arg)).zip vals).lookup n with
      | none => rw [h] at this; cases this
      | some v => exact Bool.false_ne_true]
    exact Bool.false_ne_true
end Vh
end
section
set_option autoImplicit false
set_option linter.all false
set_option genSizeOf false
set_option genInjectivity true
namespace Vg
open PySem PySem.W PyProof.Rows
theorem go1 {P : Prop} (h : ∀ G : Prop, (P → G) → G) : P := h P id

inductive AV where
  | undef | none | bool (b : Bool) | int (i : Int)
  | tup (xs : List AV) | lst (xs : List AV) | obj (c : Nat) (fs : List (Nat × AV))
  | ref (a : Addr) | inst (c : Nat) (d : Addr) | rng (a b c : Int)
  deriving Inhabited

inductive AO where
  | list (xs : List AV) | flds (fs : List (Nat × AV))

noncomputable abbrev Mem := Addr → Option AO
noncomputable def Mem.set (M : Mem) (a : Addr) (o : AO) : Mem := fun b => if b = a then some o else M b
noncomputable def Mem.le (M M' : Mem) : Prop := ∀ b o, M b = some o → M' b = some o
theorem Mem.le.refl (M : Mem) : M.le M := fun _ _ h => h
theorem Mem.le.trans {M₁ M₂ M₃ : Mem} (h : M₁.le M₂) (h' : M₂.le M₃) : M₁.le M₃ := fun b o e => h' b o (h b o e)
theorem Mem.le_set {M : Mem} {a : Addr} {o : AO} (h : M a = Option.none) : M.le (M.set a o) := fun b x e => by
  unfold Mem.set
  by_cases q : b = a
  · subst q; rw [h] at e; cases e
  · rw [if_neg q]; exact e
theorem Mem.set_self (M : Mem) (a : Addr) (o : AO) : (M.set a o) a = some o := by simp [Mem.set]
theorem Mem.set_ne (M : Mem) {a b : Addr} (o : AO) (h : b ≠ a) : (M.set a o) b = M b := by simp [Mem.set, h]

structure Wd where
  prog : Program
  w : World
  h₀ : Heap
  mg : Str → Option Value
  mb : Str → Option Value
  K : Frag
  p : Program
  loose : List Str
  cls : Nat → Addr
  attr : Nat → Str
  nc : Nat
  na : Nat

noncomputable abbrev FH := Addr → Option Obj

inductive VR (W : Wd) (H : FH) : Value → AV → Prop
  | none : VR W H .none .none
  | bool (b : Bool) : VR W H (.bool b) (.bool b)
  | int (i : Int) (t : Tok) : VR W H (.int i t) (.int i)
  | tup {a : Addr} {o : Obj} {vs : List Value} {n : Nat} {xs : List AV} : H a = some o → o.cls = .type "tuple" → o.data = .seq vs.toArray n → vs.length ≤ 2000000 → vs.length = xs.length → (∀ (i : Nat) (v : Value) (x : AV), vs[i]? = some v → xs[i]? = some x → VR W H v x) → VR W H (.ref a) (.tup xs)
  | lst {a : Addr} {vs : List Value} {n : Nat} {xs : List AV} : H a = some { cls := .type "list", data := .seq vs.toArray n } → vs.length ≤ 2000000 → vs.length = xs.length → (∀ (i : Nat) (v : Value) (x : AV), vs[i]? = some v → xs[i]? = some x → VR W H v x) → VR W H (.ref a) (.lst xs)
  | obj {a d : Addr} {c : Nat} {es : List DictEntry} {n : Nat} {fs : List (Nat × AV)} : H a = some (instObj (W.cls c) d) → H d = some (dictOf es n) → (∀ (i : Nat) (e : DictEntry) (f : Nat × AV), es[i]? = some e → fs[i]? = some f → (∃ t, e.key = .str (W.attr f.1) t) ∧ f.1 < W.na) → es.length = fs.length →
      (∀ (i : Nat) (e : DictEntry) (f : Nat × AV), es[i]? = some e → fs[i]? = some f → VR W H e.val f.2) → c < W.nc → VR W H (.ref a) (.obj c fs)
  | ref (a : Addr) : VR W H (.ref a) (.ref a)
  | inst {a d : Addr} {c : Nat} : H a = some (instObj (W.cls c) d) → c < W.nc → VR W H (.ref a) (.inst c d)
  | rng {a : Addr} {x y z : Int} {t u v : Tok} : H a = some { cls := .type "range", dict := Option.none, data := .fields #[.int x t, .int y u, .int z v], slots := #[] } → (-1000000 ≤ x ∧ x ≤ 1000000) ∧ (-1000000 ≤ y ∧ y ≤ 1000000) ∧ (z = 1 ∨ z = -1) → VR W H (.ref a) (.rng x y z)
noncomputable def VRs (W : Wd) (H : FH) (vs : List Value) (xs : List AV) : Prop := vs.length = xs.length ∧ ∀ (i : Nat) (v : Value) (x : AV), vs[i]? = some v → xs[i]? = some x → VR W H v x
noncomputable def FR (W : Wd) (H : FH) (es : List DictEntry) (fs : List (Nat × AV)) : Prop :=
  (∀ (i : Nat) (e : DictEntry) (f : Nat × AV), es[i]? = some e → fs[i]? = some f → (∃ t, e.key = .str (W.attr f.1) t) ∧ f.1 < W.na) ∧ es.length = fs.length ∧ ∀ (i : Nat) (e : DictEntry) (f : Nat × AV), es[i]? = some e → fs[i]? = some f → VR W H e.val f.2

noncomputable def FH.le (H H' : FH) : Prop := ∀ b o, H b = some o → H' b = some o
theorem VR.mono {W : Wd} {H H' : FH} (k : FH.le H H') {v : Value} {x : AV} (h : VR W H v x) : VR W H' v x :=
  VR.rec (motive := fun v x _ => VR W H' v x) .none .bool .int (fun h1 h2 h3 h4 h5 _ ih => .tup (k _ _ h1) h2 h3 h4 h5 ih) (fun h1 h2 h3 _ ih => .lst (k _ _ h1) h2 h3 ih)
    (fun h1 h2 h3 h4 _ h6 ih => .obj (k _ _ h1) (k _ _ h2) h3 h4 ih h6) .ref (fun h1 h2 => .inst (k _ _ h1) h2) (fun h1 h2 => .rng (k _ _ h1) h2) h
theorem VRs.mono {W : Wd} {H H' : FH} (k : FH.le H H') {vs : List Value} {xs : List AV} (h : VRs W H vs xs) : VRs W H' vs xs := ⟨h.1, fun i v x a b => (h.2 i v x a b).mono k⟩
theorem FR.mono {W : Wd} {H H' : FH} (k : FH.le H H') {es : List DictEntry} {fs : List (Nat × AV)} (h : FR W H es fs) : FR W H' es fs := ⟨h.1, h.2.1, fun i v x a b => (h.2.2 i v x a b).mono k⟩
theorem VRs.nil {W : Wd} {H : FH} : VRs W H [] [] := ⟨rfl, fun i v x a => nomatch a⟩
theorem VRs.cons {W : Wd} {H : FH} {v : Value} {x : AV} {vs : List Value} {xs : List AV} (h : VR W H v x) (h' : VRs W H vs xs) : VRs W H (v :: vs) (x :: xs) :=
  ⟨congrArg Nat.succ h'.1, fun i => Nat.casesOn i (fun _ _ a b => Option.some.inj a ▸ Option.some.inj b ▸ h) h'.2⟩
theorem VRs.inv {W : Wd} {H : FH} {x : AV} {xs : List AV} {vs : List Value} (h : VRs W H vs (x :: xs)) : ∃ v ws, vs = v :: ws ∧ VR W H v x ∧ VRs W H ws xs := by
  cases vs with
  | nil => cases h.1
  | cons v ws => exact ⟨v, ws, rfl, h.2 0 v x rfl rfl, Nat.succ.inj h.1, fun i => h.2 (i + 1)⟩
theorem VRs.inv0 {W : Wd} {H : FH} {vs : List Value} (h : VRs W H vs []) : vs = [] := List.eq_nil_of_length_eq_zero h.1
theorem VRs.get {W : Wd} {H : FH} {vs : List Value} {xs : List AV} (h : VRs W H vs xs) {i : Nat} {x : AV} (e : xs[i]? = some x) : ∃ v, vs[i]? = some v ∧ VR W H v x := by
  obtain ⟨hi, _⟩ := List.getElem?_eq_some_iff.mp e
  have e' := List.getElem?_eq_getElem (h.1 ▸ hi : i < vs.length)
  exact ⟨_, e', h.2 i _ x e' e⟩
theorem VRs.append {W : Wd} {H : FH} {ws : List Value} {ys : List AV} (h' : VRs W H ws ys) : ∀ {vs : List Value} {xs : List AV}, VRs W H vs xs → VRs W H (vs ++ ws) (xs ++ ys) := by
  intro vs xs
  induction xs generalizing vs with
  | nil => intro h; rw [h.inv0]; exact h'
  | cons x r ih => intro h; obtain ⟨v, w, rfl, a, b⟩ := h.inv; exact .cons a (ih b)
theorem VRs.set {W : Wd} {H : FH} {vs : List Value} {xs : List AV} (h : VRs W H vs xs) (i : Nat) {v : Value} {x : AV} (hv : VR W H v x) : VRs W H (vs.set i v) (xs.set i x) := by
  refine ⟨by rw [List.length_set, List.length_set]; exact h.1, fun j u y a b => ?_⟩
  rw [List.getElem?_set] at a b
  by_cases q : i = j
  · rw [if_pos q] at a b
    split at a
    · rw [if_pos (h.1 ▸ ‹_›)] at b; exact Option.some.inj a ▸ Option.some.inj b ▸ hv
    · cases a
  · rw [if_neg q] at a b; exact h.2 j u y a b
theorem VRs.take {W : Wd} {H : FH} {vs : List Value} {xs : List AV} (h : VRs W H vs xs) (i : Nat) : VRs W H (vs.take i) (xs.take i) := by
  refine ⟨by rw [List.length_take, List.length_take, h.1], fun j u y a b => ?_⟩
  rw [List.getElem?_take] at a b
  split at a
  · rw [if_pos ‹_›] at b; exact h.2 j u y a b
  · cases a
theorem VRs.drop {W : Wd} {H : FH} {vs : List Value} {xs : List AV} (h : VRs W H vs xs) (i : Nat) : VRs W H (vs.drop i) (xs.drop i) :=
  ⟨by rw [List.length_drop, List.length_drop, h.1], fun j u y a b => h.2 (i + j) u y (List.getElem?_drop ▸ a) (List.getElem?_drop ▸ b)⟩

noncomputable def OR (W : Wd) (H : FH) (o : Obj) : AO → Prop
  | .list xs => ∃ (vs : List Value) (n : Nat), o = { cls := .type "list", data := .seq vs.toArray n } ∧ vs.length ≤ 2000000 ∧ VRs W H vs xs
  | .flds fs => ∃ (es : List DictEntry) (n : Nat), o = dictOf es n ∧ FR W H es fs
theorem OR.mono {W : Wd} {H H' : FH} (k : FH.le H H') {o : Obj} {x : AO} (h : OR W H o x) : OR W H' o x := match x, h with
  | .list _, ⟨vs, n, e, l, h⟩ => ⟨vs, n, e, l, h.mono k⟩
  | .flds _, ⟨es, n, e, h⟩ => ⟨es, n, e, h.mono k⟩

structure Inv (W : Wd) (H : FH) (M : Mem) (s : Shared) : Prop where
  sub : ∀ b o, H b = some o → s.heap.get? b = some o
  base : ∀ b o, W.h₀.get? b = some o → H b = some o
  mem : ∀ b x, M b = some x → ∃ o, s.heap.get? b = some o ∧ OR W H o x
  disj : ∀ b x, M b = some x → H b = Option.none

noncomputable def frOf (frs : List Env) (b : Addr) : Prop := ∃ e, e ∈ frs ∧ e.frame = some b

structure Step (own fr : Addr → Prop) (H : FH) (M : Mem) (s : Shared) (H' : FH) (M' : Mem) (s' : Shared) : Prop where
  alive : ∀ b o, s.heap.get? b = some o → ∃ o', s'.heap.get? b = some o'
  keep : ∀ b o, s.heap.get? b = some o → M b = Option.none → ¬ own b → ¬ fr b → s'.heap.get? b = some o
  keepF : ∀ b m, s.heap.Ns b m → M b = Option.none → ¬ own b → s'.heap.Ns b m
  agr : ∀ b o, s.heap.get? b = some o → H' b = H b
  mem : ∀ b o, s.heap.get? b = some o → M b = Option.none → M' b = Option.none
  gens : s'.gens = s.gens
  os : s'.os = s.os

theorem Step.refl {own fr : Addr → Prop} {H : FH} {M : Mem} {s : Shared} : Step own fr H M s H M s :=
  ⟨fun _ o e => ⟨o, e⟩, fun _ _ e _ _ _ => e, fun _ _ e _ _ => e, fun zz zz zz => rfl, fun _ _ _ e => e, rfl, rfl⟩
theorem Step.trans {own fr : Addr → Prop} {H₁ H₂ H₃ : FH} {M₁ M₂ M₃ : Mem} {s₁ s₂ s₃ : Shared} (x : Step own fr H₁ M₁ s₁ H₂ M₂ s₂) (y : Step own fr H₂ M₂ s₂ H₃ M₃ s₃) : Step own fr H₁ M₁ s₁ H₃ M₃ s₃ where
  alive := fun b o e => let ⟨o', e'⟩ := x.alive b o e; y.alive b o' e'
  keep := fun b o e hM ho hf => y.keep b o (x.keep b o e hM ho hf) (x.mem b o e hM) ho hf
  keepF := fun b m e hM ho => y.keepF b m (x.keepF b m e hM ho) (by obtain ⟨o, _, _, h1, _⟩ := e; exact x.mem b o h1 hM) ho
  agr := fun b o e => let ⟨o', e'⟩ := x.alive b o e; (y.agr b o' e').trans (x.agr b o e)
  mem := fun b o e hM => let ⟨o', e'⟩ := x.alive b o e; y.mem b o' e' (x.mem b o e hM)
  gens := y.gens.trans x.gens
  os := y.os.trans x.os
theorem Step.le {W : Wd} {own fr : Addr → Prop} {H H' : FH} {M M' : Mem} {s s' : Shared} (x : Step own fr H M s H' M' s') (I : Inv W H M s) : FH.le H H' :=
  fun b o e => (x.agr b o (I.sub b o e)).trans e

theorem Mem.le.none {M M' : Mem} (h : M'.le M) {b : Addr} (e : M b = Option.none) : M' b = Option.none := by
  cases q : M' b with
  | none => rfl
  | some o => rw [h b o q] at e; cases e
theorem Step.weaken {own own' fr fr' : Addr → Prop} {H H' : FH} {M M' : Mem} {s s' : Shared} (x : Step own fr H M s H' M' s')
    (h1 : ∀ b o, s.heap.get? b = some o → own b → own' b) (h2 : ∀ b o, s.heap.get? b = some o → ¬ own' b → fr b → fr' b) : Step own' fr' H M s H' M' s' :=
  ⟨x.alive, fun b o e hM ho hf => x.keep b o e hM (fun q => ho (h1 b o e q)) (fun q => hf (h2 b o e ho q)), fun b m e hM ho => x.keepF b m e hM (fun q => ho (by obtain ⟨o, _, _, e1, _⟩ := e; exact h1 b o e1 q)), x.agr, x.mem, x.gens, x.os⟩

structure OwnInv (own : Addr → Prop) (H : FH) (M : Mem) (h : Heap) : Prop where
  alive : ∀ b, own b → ∃ o, h.get? b = some o
  off : ∀ b, own b → H b = Option.none
  offM : ∀ b, own b → M b = Option.none
theorem OwnInv.step {own own' fr : Addr → Prop} {H H' : FH} {M M' : Mem} {s s' : Shared} (x : OwnInv own H M s.heap) (y : Step own' fr H M s H' M' s') : OwnInv own H' M' s'.heap where
  alive := fun b hb => let ⟨o, e⟩ := x.alive b hb; y.alive b o e
  off := fun b hb => let ⟨o, e⟩ := x.alive b hb; (y.agr b o e).trans (x.off b hb)
  offM := fun b hb => let ⟨o, e⟩ := x.alive b hb; y.mem b o e (x.offM b hb)

structure FrInv (W : Wd) (frs : List Env) (H : FH) (M : Mem) (h : Heap) : Prop where
  fun_ : ∀ e, e ∈ frs → e.scope.kind = .function ∧ ∃ L, e.frame = some L ∧ W.h₀.objs.size ≤ L ∧ ∃ m, h.Ns L m
  off : ∀ b, frOf frs b → H b = Option.none
  offM : ∀ b, frOf frs b → M b = Option.none
theorem FrInv.alive {W : Wd} {frs : List Env} {H : FH} {M : Mem} {h : Heap} (x : FrInv W frs H M h) {b : Addr} (hb : frOf frs b) : ∃ o m, h.get? b = some o ∧ h.Ns b m := by
  refine go1 fun G hG => ?_
  obtain ⟨e, he, hf⟩ := hb
  obtain ⟨_, L, h1, _, m, h2⟩ := x.fun_ e he
  refine hG ?_
  rw [h1] at hf; cases hf
  refine go1 fun G hG => ?_
  obtain ⟨o, es, ep, h3, r⟩ := id h2
  refine hG ?_
  exact ⟨o, m, h3, h2⟩
theorem FrInv.step {W : Wd} {own fr : Addr → Prop} {frs : List Env} {H H' : FH} {M M' : Mem} {s s' : Shared} (x : FrInv W frs H M s.heap) (y : Step own fr H M s H' M' s')
    (hown : ∀ b, own b → frOf frs b → ∃ m, s'.heap.Ns b m) : FrInv W frs H' M' s'.heap where
  fun_ := fun e he => by
    refine go1 fun G hG => ?_
    obtain ⟨h0, L, h1, h2, m, h3⟩ := x.fun_ e he
    refine hG ?_
    have hL : frOf frs L := ⟨e, he, h1⟩
    by_cases q : own L
    · exact ⟨h0, L, h1, h2, hown L q hL⟩
    · exact ⟨h0, L, h1, h2, m, y.keepF L m h3 (x.offM L hL) q⟩
  off := fun b hb => let ⟨o, _, e, _⟩ := x.alive hb; (y.agr b o e).trans (x.off b hb)
  offM := fun b hb => let ⟨o, _, e, _⟩ := x.alive hb; y.mem b o e (x.offM b hb)

noncomputable abbrev Rho := List (Str × Nat)

structure EnvOK (W : Wd) (env : Env) (sc : List (Str × NameKind)) (ρ : Rho) (own : Addr → Prop) : Prop where
  fn : env.scope.kind = .function
  glob : env.globals = mainGlobals
  bi : env.builtins = builtinsNs
  above : W.h₀.objs.size ≤ env.locals
  ownL : own env.locals
  ownC : ∀ x c, env.cells.lookup x = some c → own c
  gl : ∀ x, sc.lookup x = some .globalImplicit → env.kindOf x = some .globalImplicit
  same : ∀ x kd, sc.lookup x = some kd → env.kindOf x = some kd ∨ (kd = .free ∧ env.kindOf x = some .cell)
  inj : ∀ x y i, ρ.lookup x = some i → ρ.lookup y = some i → x = y
  kind : ∀ x i, ρ.lookup x = some i → env.kindOf x = some .local ∨ ((env.kindOf x = some .cell ∨ env.kindOf x = some .free) ∧ ∃ c, env.cells.lookup x = some c)
  cne : ∀ x c, env.cells.lookup x = some c → c ≠ env.locals
  cinj : ∀ x y c, env.cells.lookup x = some c → env.cells.lookup y = some c → x = y

structure Loc (W : Wd) (H : FH) (env : Env) (ρ : Rho) (m : List AV) (h : Heap) : Prop where
  ns : ∃ mr, h.Ns env.locals mr ∧ ∀ x i, ρ.lookup x = some i → env.kindOf x = some .local → m.getD i .undef ≠ .undef → ∃ v, mr x = some v ∧ VR W H v (m.getD i .undef)
  cell : ∀ x i c, ρ.lookup x = some i → env.kindOf x ≠ some .local → env.cells.lookup x = some c → ∃ ov, h.IsCell c ov ∧ (m.getD i .undef ≠ .undef → ∃ v, ov = some v ∧ VR W H v (m.getD i .undef))

structure Rel (W : Wd) (frs : List Env) (own : Addr → Prop) (env : Env) (ρ : Rho) (H : FH) (m : List AV) (M : Mem) (s : Shared) : Prop where
  inv : Inv W H M s
  loc : Loc W H env ρ m s.heap
  ow : OwnInv own H M s.heap
  fi : FrInv W frs H M s.heap
  cf : ∀ x c, env.cells.lookup x = some c → ¬ frOf frs c

noncomputable def none_ : Addr → Prop := fun zz => False

noncomputable def frL (frs : List Env) (env : Env) (b : Addr) : Prop := frOf frs b ∨ b = env.locals

theorem Loc.step {W : Wd} {fr own : Addr → Prop} {env : Env} {sc : List (Str × NameKind)} {ρ : Rho} {H H' : FH} {m : List AV} {M M' : Mem} {s s' : Shared} (x : Loc W H env ρ m s.heap) (ok : EnvOK W env sc ρ own) (ow : OwnInv own H M s.heap)
    (I : Inv W H M s) (hfr : ∀ x c, env.cells.lookup x = some c → ¬ fr c) (y : Step none_ fr H M s H' M' s') : Loc W H' env ρ m s'.heap where
  ns := by
    obtain ⟨mr, hn, hv⟩ := x.ns
    refine ⟨mr, y.keepF _ mr hn (ow.offM _ ok.ownL) id, fun n i h1 h2 h3 => ?_⟩
    refine go1 fun G hG => ?_
    obtain ⟨v, e1, e2⟩ := hv n i h1 h2 h3
    refine hG ?_
    exact ⟨v, e1, e2.mono (y.le I)⟩
  cell := fun n i c h1 h2 h3 => by
    obtain ⟨ov, e1, e2⟩ := x.cell n i c h1 h2 h3
    refine ⟨ov, (by obtain ⟨o, ho, hd⟩ := e1; exact ⟨o, y.keep c o ho (ow.offM _ (ok.ownC n c h3)) id (hfr n c h3), hd⟩), fun q => ?_⟩
    obtain ⟨v, e3, e4⟩ := e2 q
    exact ⟨v, e3, e4.mono (y.le I)⟩

theorem Rel.step {W : Wd} {frs : List Env} {own : Addr → Prop} {env : Env} {sc : List (Str × NameKind)} {ρ : Rho} {H H' : FH} {m : List AV} {M M' : Mem} {s s' : Shared} (ok : EnvOK W env sc ρ own) (x : Rel W frs own env ρ H m M s)
    (y : Step none_ (frL frs env) H M s H' M' s') (I' : Inv W H' M' s') : Rel W frs own env ρ H' m M' s' :=
  ⟨I', x.loc.step ok x.ow x.inv (fun n c h q => q.elim (x.cf n c h) (fun e => ok.cne n c h e)) y, x.ow.step y, x.fi.step y (fun _ q => q.elim), x.cf⟩

section
variable {W : Wd} {own fr : Addr → Prop} {H : FH} {M : Mem} {s : Shared} {h' : Heap} {tk : Nat}

theorem Step.ext (k : ∀ b o, s.heap.get? b = some o → h'.get? b = some o) : Step own fr H M s H M { s with heap := h', toks := tk } :=
  ⟨fun b o e => ⟨o, k b o e⟩, fun b o e _ _ _ => k b o e, fun b m e _ _ => e.keeps k, fun zz zz zz => rfl, fun _ _ _ e => e, rfl, rfl⟩
theorem Inv.ext (I : Inv W H M s) (k : ∀ b o, s.heap.get? b = some o → h'.get? b = some o) : Inv W H M { s with heap := h', toks := tk } :=
  ⟨fun b o e => k b o (I.sub b o e), I.base, fun b x e => let ⟨o, e1, e2⟩ := I.mem b x e; ⟨o, k b o e1, e2⟩, I.disj⟩

noncomputable def FH.put (H : FH) (a : Addr) (o : Obj) : FH := fun b => if b = a then some o else H b
theorem FH.put_self (H : FH) (a : Addr) (o : Obj) : (H.put a o) a = some o := by simp [FH.put]
theorem FH.le_put {H : FH} {a : Addr} {o : Obj} (h : H a = none) : H.le (H.put a o) := fun b x e => by
  unfold FH.put
  by_cases q : b = a
  · subst q; rw [h] at e; cases e
  · rw [if_neg q]; exact e

theorem Inv.dead (I : Inv W H M s) {a : Addr} (h : s.heap.get? a = none) : H a = none ∧ M a = none := by
  constructor
  · cases q : H a with
    | none => rfl
    | some o => rw [I.sub a o q] at h; cases h
  · cases q : M a with
    | none => rfl
    | some x => obtain ⟨o, e, _⟩ := I.mem a x q; rw [e] at h; cases h

theorem new_frozen (I : Inv W H M s) {a : Addr} {o : Obj} (ha : s.heap.get? a = none) (hn : h'.get? a = some o) (k : ∀ b o, s.heap.get? b = some o → h'.get? b = some o) :
    Step own fr H M s (H.put a o) M { s with heap := h', toks := tk } ∧ Inv W (H.put a o) M { s with heap := h', toks := tk } ∧ H.le (H.put a o) := by
  have hd := I.dead ha
  have hle := FH.le_put (o := o) hd.1
  refine ⟨⟨fun b o e => ⟨o, k b o e⟩, fun b o e _ _ _ => k b o e, fun b m e _ _ => e.keeps k, fun b o' e => ?_, fun _ _ _ e => e, rfl, rfl⟩,
    ⟨fun b x e => ?_, fun b x e => hle b x (I.base b x e), fun b x e => ?_, fun b x e => ?_⟩, hle⟩
  · unfold FH.put
    rw [if_neg]
    rintro rfl
    rw [ha] at e; cases e
  · unfold FH.put at e
    split at e
    · rename_i q; subst q; cases e; exact hn
    · exact k b x (I.sub b x e)
  · obtain ⟨o', e1, e2⟩ := I.mem b x e
    exact ⟨o', k b o' e1, e2.mono hle⟩
  · unfold FH.put
    rw [if_neg]
    · exact I.disj b x e
    · rintro rfl
      rw [hd.2] at e; cases e

theorem new_tracked (I : Inv W H M s) {a : Addr} {o : Obj} {x : AO} (ha : s.heap.get? a = none) (hn : h'.get? a = some o) (hr : OR W H o x) (k : ∀ b o, s.heap.get? b = some o → h'.get? b = some o) :
    Step own fr H M s H (M.set a x) { s with heap := h', toks := tk } ∧ Inv W H (M.set a x) { s with heap := h', toks := tk } ∧ M a = none := by
  have hd := I.dead ha
  refine ⟨⟨fun b o e => ⟨o, k b o e⟩, fun b o e _ _ _ => k b o e, fun b m e _ _ => e.keeps k, fun b o' e => rfl, fun b o' e q => ?_, rfl, rfl⟩,
    ⟨fun b x e => k b x (I.sub b x e), I.base, fun b y e => ?_, fun b y e => ?_⟩, hd.2⟩
  · unfold Mem.set
    rw [if_neg]
    · exact q
    · rintro rfl
      rw [ha] at e; cases e
  · unfold Mem.set at e
    split at e
    · rename_i q; subst q; cases e; exact ⟨o, hn, hr⟩
    · obtain ⟨o', e1, e2⟩ := I.mem b y e
      exact ⟨o', k b o' e1, e2⟩
  · unfold Mem.set at e
    split at e
    · rename_i q; subst q; exact hd.1
    · exact I.disj b y e

theorem upd_tracked (I : Inv W H M s) {a : Addr} {o : Obj} {x x' : AO} (ha : M a = some x) (hn : h'.get? a = some o) (hr : OR W H o x') (k : ∀ b o, b ≠ a → s.heap.get? b = some o → h'.get? b = some o) :
    Step own fr H M s H (M.set a x') { s with heap := h', toks := tk } ∧ Inv W H (M.set a x') { s with heap := h', toks := tk } := by
  have hH := I.disj a x ha
  refine ⟨⟨fun b o' e => ?_, fun b o' e q _ _ => k b o' (fun r => ?_) e, fun b m e q _ => e.at' (fun o' e' => k b o' (fun r => ?_) e'), fun b o' e => rfl, fun b o' e q => ?_, rfl, rfl⟩,
    ⟨fun b y e => k b y (fun r => ?_) (I.sub b y e), I.base, fun b y e => ?_, fun b y e => ?_⟩⟩
  · by_cases q : b = a
    · subst q; exact ⟨o, hn⟩
    · exact ⟨o', k b o' q e⟩
  · subst r; rw [ha] at q; cases q
  · subst r; rw [ha] at q; cases q
  · unfold Mem.set
    rw [if_neg]
    · exact q
    · rintro rfl
      rw [ha] at q; cases q
  · subst r; rw [hH] at e; cases e
  · unfold Mem.set at e
    split at e
    · rename_i q; subst q; cases e; exact ⟨o, hn, hr⟩
    · rename_i q
      obtain ⟨o', e1, e2⟩ := I.mem b y e
      exact ⟨o', k b o' q e1, e2⟩
  · unfold Mem.set at e
    split at e
    · rename_i q; subst q; exact hH
    · exact I.disj b y e
end

end Vg
end
section
set_option autoImplicit false
set_option linter.all false
namespace Vg
open PySem PySem.W PyProof.Rows

structure AOK (A : Around) (k : Nat) (frs : List Env) : Prop where
  handled : A.handled = none
  depth : A.depth + k + 120 < recursionLimit
  units : A.units + 8 * k + 200 < cLine
  frames : A.frames = some frs

noncomputable def PE (W : Wd) (fr : Addr → Prop) (H : FH) (M : Mem) (s : Shared) (Q : AV → Mem → Prop) (v : Value) (s' : Shared) : Prop :=
  ∃ H' M' x, Step none_ fr H M s H' M' s' ∧ Inv W H' M' s' ∧ VR W H' v x ∧ Q x M'

structure FnOK (W : Wd) (fa : Addr) (names : List Str) (body : List Stmt) (scope : Scope) : Prop where
  at_ : ∃ o fd, W.h₀.get? fa = some o ∧ o.data = .func fd ∧ W.h₀.CodeRec fd.code fd.qualname ∧ fd.body = .stmts body ∧ fd.scope = scope ∧ fd.closure = [] ∧ fd.globals = mainGlobals ∧ fd.builtins = builtinsNs ∧
    ∀ vals : List Value, vals.length = names.length → bindArgs fd ⟨vals, []⟩ = pure (names.zip vals)

noncomputable def CallSpec (W : Wd) (k : Nat) (fa : Addr) (xs : List AV) (M : Mem) (Q : AV → Mem → Prop) : Prop :=
  ∀ (A : Around) (frs : List Env), AOK A k frs → ∀ (H : FH) (s : Shared) (vs : List Value), Inv W H M s → FrInv W frs H M s.heap → VRs W H vs xs →
    codeAny (model W.prog W.w) A (.call (.ref fa) ⟨vs, []⟩) (fun r s' => match r with | .ok (.ret v) => PE W (frOf frs) H M s Q v s' | .ok _ => False | .error _ => False) s

inductive Op2 | add | sub | mul | fdiv | mod | shl | shr | band | bor | bxor
inductive Cm | lt | le | gt | ge | eq | ne
noncomputable def sm (x : Int) : Prop := -4611686018427387904 ≤ x ∧ x ≤ 4611686018427387904
noncomputable def okR (x : Int) : Prop := -1000000 ≤ x ∧ x ≤ 1000000

noncomputable def listP (M : Mem) : AV → (List AV → Prop) → Prop
  | .lst xs, Q => Q xs
  | .ref a, Q => ∃ xs, M a = some (.list xs) ∧ Q xs
  | _, _ => False
noncomputable def seqP (M : Mem) : AV → (List AV → Prop) → Prop
  | .lst xs, Q => Q xs
  | .tup xs, Q => Q xs
  | .ref a, Q => ∃ xs, M a = some (.list xs) ∧ Q xs
  | _, _ => False
noncomputable def rngL (a b c : Int) : List AV :=
  if c = 1 then (List.range (b - a).toNat).map fun (i : Nat) => .int (a + (i : Int))
  else (List.range (a - b).toNat).map fun (i : Nat) => .int (a - (i : Int))
noncomputable def itemsP (M : Mem) : AV → (List AV → Prop) → Prop
  | .lst xs, Q => Q xs
  | .tup xs, Q => Q xs
  | .ref a, Q => ∃ xs, M a = some (.list xs) ∧ Q xs
  | .rng a b c, Q => Q (rngL a b c)
  | _, _ => False
noncomputable def stillP (M : Mem) : AV → List AV → Prop
  | .ref a, xs => M a = some (.list xs)
  | _, _ => True
noncomputable def newL (M : Mem) (xs : List AV) (Q : AV → Mem → Prop) : Prop := xs.length ≤ 1000000 ∧ ∀ a, M a = none → Q (.ref a) (M.set a (.list xs))

noncomputable def intP (op : Op2) (a b : Int) (Q : Int → Prop) : Prop := match op with
  | .add => Q (a + b)
  | .sub => Q (a - b)
  | .mul => sm a ∧ Q (a * b)
  | .fdiv => 0 < b ∧ b ≤ 4611686018427387904 ∧ Q (a / b)
  | .mod => 0 < b ∧ Q (a % b)
  | .shl => sm a ∧ 0 ≤ b ∧ b ≤ 1000 ∧ Q (a * 2 ^ b.toNat)
  | .shr => 0 ≤ b ∧ Q (a / 2 ^ b.toNat)
  | .band => Q (Builtin.bitAnd a b)
  | .bor => Q (Builtin.bitOr a b)
  | .bxor => Q (Builtin.bitXor a b)
noncomputable def binP (M : Mem) (op : Op2) (x y : AV) (Q : AV → Mem → Prop) : Prop := match x with
  | .int a => (match y with
    | .int b => intP op a b fun r => Q (.int r) M
    | _ => False)
  | _ => (match y with
    | .int n => op = .mul ∧ listP M x fun xs => xs ≠ [] ∧ xs.length ≤ 1000 ∧ n ≤ 1000 ∧ -1000 ≤ n ∧ newL M (List.replicate n.toNat xs).flatten Q
    | _ => op = .add ∧ listP M x fun xs => listP M y fun ys => newL M (xs ++ ys) Q)

noncomputable def isNoneB : AV → Bool
  | .none => true
  | _ => false
mutual
inductive DOf (M : Mem) : Nat → AV → PyData → Prop
  | int {n : Nat} (i : Int) : DOf M n (.int i) (.int i)
  | tup {n : Nat} {xs : List AV} {ds : List PyData} : DOfs M n xs ds → DOf M (n + 1) (.tup xs) (.tuple ds)
  | lst {n : Nat} {xs : List AV} {ds : List PyData} : DOfs M n xs ds → DOf M (n + 1) (.lst xs) (.list ds)
  | ref {n : Nat} {a : Addr} {xs : List AV} {ds : List PyData} : M a = some (.list xs) → DOfs M n xs ds → DOf M (n + 1) (.ref a) (.list ds)
inductive DOfs (M : Mem) : Nat → List AV → List PyData → Prop
  | nil {n : Nat} : DOfs M n [] []
  | cons {n : Nat} {x : AV} {xs : List AV} {d : PyData} {ds : List PyData} : DOf M n x d → DOfs M n xs ds → DOfs M n (x :: xs) (d :: ds)
end
theorem DOfs.ints {M : Mem} {n : Nat} : ∀ (ns : List Int), DOfs M n (ns.map .int) (ns.map .int) := fun ns => List.rec .nil (fun i _ ih => .cons (.int i) ih) ns
noncomputable def icmp (op : Cm) (a b : Int) (Q : Prop → Prop) : Prop := match op with
  | .lt => Q (a < b)
  | .le => Q (a ≤ b)
  | .gt => Q (b < a)
  | .ge => Q (b ≤ a)
  | .eq => Q (a = b)
  | .ne => Q (a ≠ b)
noncomputable def bcmp (op : Cm) (a b : Bool) (Q : Prop → Prop) : Prop := match op with
  | .eq => Q (a = b)
  | .ne => Q (a ≠ b)
  | _ => False
noncomputable def cmpP (M : Mem) (op : Cm) (x y : AV) (Q : Prop → Prop) : Prop := match x with
  | .int a => (match y with
    | .int b => icmp op a b Q
    | _ => False)
  | .bool a => (match y with
    | .bool b => bcmp op a b Q
    | _ => False)
  | _ => ∃ d, DOf M 5 x d ∧ DOf M 5 y d ∧ ((op = .eq ∧ Q True) ∨ (op = .ne ∧ Q False))
noncomputable def inP (M : Mem) (x y : AV) (Q : Prop → Prop) : Prop := match x with
  | .int a => seqP M y fun xs => ∃ ns : List Int, xs = ns.map .int ∧ Q (a ∈ ns)
  | _ => False
noncomputable def truthP : AV → (Prop → Prop) → Prop
  | .none, Q => Q False
  | .bool b, Q => Q (b = true)
  | .int i, Q => Q (i ≠ 0)
  | _, _ => False
noncomputable def subP (M : Mem) (o i : AV) (Q : AV → Prop) : Prop := match i with
  | .int k => 0 ≤ k ∧ seqP M o fun xs => ∃ x, xs[k.toNat]? = some x ∧ Q x
  | _ => False
noncomputable def atP (M : Mem) (o : AV) (i : Nat) (Q : AV → Prop) : Prop := match o with
  | .obj _ fs => ∃ v, fs.lookup i = some v ∧ Q v
  | .inst _ d => ∃ fs, M d = some (.flds fs) ∧ ∃ v, fs.lookup i = some v ∧ Q v
  | _ => False
noncomputable def setF (i : Nat) (v : AV) (fs : List (Nat × AV)) : List (Nat × AV) := List.rec (motive := fun _ => List (Nat × AV)) [(i, v)] (fun p r ih => if p.1 = i then (i, v) :: r else p :: ih) fs
noncomputable def setAtP (M : Mem) (o : AV) (i : Nat) (v : AV) (Q : Mem → Prop) : Prop := match o with
  | .inst _ d => ∃ fs, M d = some (.flds fs) ∧ fs.length ≤ 100 ∧ Q (M.set d (.flds (setF i v fs)))
  | _ => False
noncomputable def setSubP (M : Mem) (o k v : AV) (Q : Mem → Prop) : Prop := match o with
  | .ref a => (match k with
    | .int j => ∃ xs, M a = some (.list xs) ∧ 0 ≤ j ∧ j.toNat < xs.length ∧ Q (M.set a (.list (xs.set j.toNat v)))
    | _ => False)
  | _ => False
noncomputable def slP (M : Mem) (o l h : AV) (Q : AV → Mem → Prop) : Prop := match l with
  | .int i => (match h with
    | .int j => 0 ≤ i ∧ 0 ≤ j ∧ listP M o fun xs => newL M ((xs.take j.toNat).drop i.toNat) Q
    | _ => False)
  | _ => False
noncomputable def appP (M : Mem) (o x : AV) (Q : AV → Mem → Prop) : Prop := match o with
  | .ref a => ∃ xs, M a = some (.list xs) ∧ xs.length ≤ 1000000 ∧ Q .none (M.set a (.list (xs ++ [x])))
  | _ => False
noncomputable def extP (M : Mem) (o x : AV) (Q : AV → Mem → Prop) : Prop := match o with
  | .ref a => ∃ xs, M a = some (.list xs) ∧ listP M x fun ys => xs.length + ys.length ≤ 1000000 ∧ Q .none (M.set a (.list (xs ++ ys)))
  | _ => False
noncomputable def idxP (M : Mem) (o x : AV) (Q : AV → Mem → Prop) : Prop := match x with
  | .int k => listP M o fun xs => ∃ ns : List Int, xs = ns.map .int ∧ k ∈ ns ∧ Q (.int (ns.idxOf k)) M
  | _ => False
noncomputable def cntP (M : Mem) (o x : AV) (Q : AV → Mem → Prop) : Prop := match x with
  | .int k => listP M o fun xs => ∃ ns : List Int, xs = ns.map .int ∧ Q (.int (ns.count k)) M
  | _ => False

structure WOK (W : Wd) : Prop where
  g : W.h₀.Ns mainGlobals W.mg
  b : W.h₀.Ns builtinsNs W.mb
  builtins : ∀ x : Str, x ≠ "__name__" → W.mb x = bootBuiltins x
  nolimit : W.h₀.NoLimit
  top : ∃ a o, W.h₀.get? a = some o ∧ W.h₀.objs.size = a + 1
  K : W.K.In W.h₀
  inj : ∀ i j, i < W.na → j < W.na → W.attr i = W.attr j → i = j

noncomputable def opOf : Op2 → Operator
  | .add => .Add | .sub => .Sub | .mul => .Mult | .fdiv => .FloorDiv | .mod => .Mod | .shl => .LShift | .shr => .RShift
  | .band => .BitAnd | .bor => .BitOr | .bxor => .BitXor

theorem sm_bits {x : Int} (h : sm x) : Builtin.Int.intBits x ≤ 64 := by
  refine intBits_le_iff.mpr ?_
  unfold sm at h
  have : x.natAbs ≤ 4611686018427387904 := by omega
  calc x.natAbs ≤ 4611686018427387904 := this
    _ < 2 ^ 64 := by decide

theorem noPylong {a b : Int} (h0 : 0 < b) (h1 : b ≤ 4611686018427387904) : Builtin.divisionGoesByPylong a b = false := by
  unfold Builtin.divisionGoesByPylong
  have hb : (b == 0) = false := by simp; omega
  have h2 : b.natAbs.log2 < 64 := by
    rw [Nat.log2_lt (by omega)]
    calc b.natAbs ≤ 4611686018427387904 := by omega
      _ < 2 ^ 64 := by decide
  simp only [hb]
  have : ¬ (b.natAbs.log2 / 30 + 1 > 300) := by lia
  simp [this]

section
variable {prog : Program} {w : World} {A : Around} {s : Shared} {a b : Int} {t u : Tok} {Q : Value → Shared → Prop} {E : Value → Shared → Prop}

theorem int_sound {op : Op2} {P : Int → Prop} (hA : A.handled = none) (h : intP op a b P) (hQ : ∀ r t tk, P r → Q (.int r t) { s with toks := tk }) :
    wpAny (model prog w) A (binaryOp (opOf op) (.int a t) (.int b u)) Q E s := by
  cases op <;> simp only [intP, opOf] at h ⊢
  · exact add_int (hQ _ _ _ h)
  · exact sub_int (hQ _ _ _ h)
  · exact mul_int (hQ _ _ _ h.2) (.of_left (sm_bits h.1))
  · refine floordiv_int_or hA (fun q => by omega) (fun zz => hQ _ _ _ ?_) (fun zz => .inl (noPylong h.1 h.2.1))
    rw [Int.fdiv_eq_ediv_of_nonneg _ (by omega)]; exact h.2.2
  · refine mod_int_or hA (fun q => by omega) (fun zz => hQ _ _ _ ?_)
    rw [Int.fmod_eq_emod_of_nonneg _ (by omega)]; exact h.2
  · refine lshift_int_small h.2.1 (by omega) ?_ (hQ _ _ _ h.2.2.2)
    have := h.1
    unfold sm at this
    calc a.natAbs ≤ 4611686018427387904 := by omega
      _ < 2 ^ 64 := by decide
  · refine rshift_int h.1 (hQ _ _ _ ?_)
    rw [Int.fdiv_eq_ediv_of_nonneg _ (by exact Int.le_of_lt (Int.pow_pos (by decide)))]; exact h.2
  · exact and_int (hQ _ _ _ h)
  · exact or_int (hQ _ _ _ h)
  · exact xor_int (hQ _ _ _ h)

theorem iint_sound {op : Op2} {P : Int → Prop} (h : intP op a b P) (ho : op = .add ∨ op = .sub ∨ op = .band ∨ op = .bor ∨ op = .bxor) (hQ : ∀ r t tk, P r → Q (.int r t) { s with toks := tk }) :
    wpAny (model prog w) A (inplaceOp (opOf op) (.int a t) (.int b u)) Q E s := by
  rcases ho with rfl | rfl | rfl | rfl | rfl <;> simp only [intP, opOf] at h ⊢
  · exact iadd_int (hQ _ _ _ h)
  · exact isub_int (hQ _ _ _ h)
  · exact iand_int (hQ _ _ _ h)
  · exact ior_int (hQ _ _ _ h)
  · exact ixor_int (hQ _ _ _ h)
end

theorem full_news (h₀ h : Heap) (L : Addr) : ∃ news : List (Addr × Obj), News h₀ L h news ∧ (∀ b o, h.get? b = some o → b ≠ L → h₀.get? b = none → (b, o) ∈ news) ∧ news.Pairwise (fun p q => p.1 ≠ q.1) := by
  refine ⟨(List.range h.objs.size).filterMap fun b => if b = L then none else if (h₀.get? b).isSome then none else (h.get? b).map fun o => (b, o), ?_, ?_, ?_⟩
  · intro p hp
    obtain ⟨b, _, hb⟩ := List.mem_filterMap.mp hp
    split at hb
    · cases hb
    · split at hb
      · cases hb
      · rename_i h1 h2
        cases e : h.get? b with
        | none => rw [e] at hb; cases hb
        | some o =>
          rw [e] at hb; cases hb
          refine ⟨e, h1, ?_⟩
          simpa using h2
  · intro b o e h1 h2
    refine List.mem_filterMap.mpr ⟨b, List.mem_range.mpr (Heap.lt_size e), ?_⟩
    simp [h1, h2, e]
  · refine List.Pairwise.filterMap _ (R := fun a b => a ≠ b) ?_ List.nodup_range
    intro a a' hne p hp q hq e
    have key : ∀ (c : Addr) (r : Addr × Obj), r ∈ (if c = L then none else if (h₀.get? c).isSome then none else (h.get? c).map fun o => (c, o)) → r.1 = c := by
      intro c r hr
      split at hr
      · cases hr
      · split at hr
        · cases hr
        · cases z : h.get? c with
          | none => rw [z] at hr; cases hr
          | some o => rw [z] at hr; cases hr; rfl
    exact hne ((key a p hp).symm.trans (e.trans (key a' q hq)))

section
variable {W : Wd} {frs : List Env} {own : Addr → Prop} {env : Env} {sc : List (Str × NameKind)} {ρ : Rho} {H : FH} {m : List AV} {M : Mem} {s : Shared} {h' : Heap} {tk : Nat}

theorem Step.extL {L : Addr} {fr : Addr → Prop} {mr : Str → Option Value} (hL : fr L) (hH : H L = none) (hM : M L = none) (hn : s.heap.Ns L mr) (hn' : h'.Ns L mr) (k : ∀ b o, b ≠ L → s.heap.get? b = some o → h'.get? b = some o) :
    Step none_ fr H M s H M { s with heap := h', toks := tk } ∧ (Inv W H M s → Inv W H M { s with heap := h', toks := tk }) := by
  have nsE : ∀ m', s.heap.Ns L m' → h'.Ns L m' := by
    intro m' hm'
    obtain ⟨o, es, ep, h1, h2, h3, h4⟩ := hm'
    obtain ⟨o2, es2, ep2, g1, g2, g3, g4⟩ := hn
    rw [h1] at g1; cases g1
    rw [h2] at g2; cases g2
    obtain ⟨o3, es3, ep3, k1, k2, k3, k4⟩ := hn'
    exact ⟨o3, es3, ep3, k1, k2, k3, fun x => by rw [k4, ← g4, h4]⟩
  refine ⟨⟨fun b o e => ?_, fun b o e _ _ hf => k b o (fun q => hf (q ▸ hL)) e, fun b m e _ _ => ?_, fun zz zz zz => rfl, fun _ _ _ e => e, rfl, rfl⟩, fun I => ⟨fun b o e => k b o (fun q => ?_) (I.sub b o e), I.base, fun b x e => ?_, I.disj⟩⟩
  · by_cases q : b = L
    · subst q; obtain ⟨o', _, _, e', _⟩ := hn'; exact ⟨o', e'⟩
    · exact ⟨o, k b o q e⟩
  · by_cases q : b = L
    · subst q; exact nsE m e
    · exact e.at' fun o e' => k b o q e'
  · subst q; rw [hH] at e; cases e
  · obtain ⟨o, e1, e2⟩ := I.mem b x e
    exact ⟨o, k b o (fun q => by subst q; rw [hM] at e; cases e) e1, e2⟩

theorem ns_uniq {h h' : Heap} {L : Addr} {mr : Str → Option Value} (hn : h.Ns L mr) (hn' : h'.Ns L mr) : ∀ m', h.Ns L m' → h'.Ns L m' := by
  intro m' hm'
  obtain ⟨o, es, ep, h1, h2, h3, h4⟩ := hm'
  obtain ⟨o2, es2, ep2, g1, g2, g3, g4⟩ := hn
  rw [h1] at g1; cases g1
  rw [h2] at g2; cases g2
  obtain ⟨o3, es3, ep3, k1, k2, k3, k4⟩ := hn'
  exact ⟨o3, es3, ep3, k1, k2, k3, fun x => by rw [k4, ← g4, h4]⟩

theorem upd_trackedL {fr : Addr → Prop} {L a : Addr} {o : Obj} {x x' : AO} {mr : Str → Option Value} (I : Inv W H M s) (ha : M a = some x) (hn : h'.get? a = some o) (hr : OR W H o x') (hL : fr L) (hH : H L = none) (hM : M L = none)
    (hns : s.heap.Ns L mr) (hns' : h'.Ns L mr) (k : ∀ b o, b ≠ a → b ≠ L → s.heap.get? b = some o → h'.get? b = some o) :
    Step none_ fr H M s H (M.set a x') { s with heap := h', toks := tk } ∧ Inv W H (M.set a x') { s with heap := h', toks := tk } := by
  have hHa := I.disj a x ha
  have hLa : L ≠ a := by rintro rfl; rw [hM] at ha; cases ha
  refine ⟨⟨fun b o' e => ?_, fun b o' e q _ hf => k b o' (fun r => ?_) (fun r => hf (r ▸ hL)) e, fun b m' e q _ => ?_, fun b o' e => rfl, fun b o' e q => ?_, rfl, rfl⟩,
    ⟨fun b y e => k b y (fun r => ?_) (fun r => ?_) (I.sub b y e), I.base, fun b y e => ?_, fun b y e => ?_⟩⟩
  · by_cases q : b = a
    · subst q; exact ⟨o, hn⟩
    · by_cases z : b = L
      · subst z; obtain ⟨o', _, _, e', _⟩ := hns'; exact ⟨o', e'⟩
      · exact ⟨o', k b o' q z e⟩
  · subst r; rw [ha] at q; cases q
  · by_cases z : b = L
    · subst z; exact ns_uniq hns hns' m' e
    · exact e.at' (fun o' e' => k b o' (fun r => by subst r; rw [ha] at q; cases q) z e')
  · unfold Mem.set
    rw [if_neg]
    · exact q
    · rintro rfl
      rw [ha] at q; cases q
  · subst r; rw [hHa] at e; cases e
  · subst r; rw [hH] at e; cases e
  · unfold Mem.set at e
    split at e
    · rename_i q; subst q; cases e; exact ⟨o, hn, hr⟩
    · rename_i q
      obtain ⟨o', e1, e2⟩ := I.mem b y e
      exact ⟨o', k b o' q (fun r => by subst r; rw [hM] at e; cases e) e1, e2⟩
  · unfold Mem.set at e
    split at e
    · rename_i q; subst q; exact hHa
    · exact I.disj b y e

theorem new_trackedL {fr : Addr → Prop} {L a : Addr} {o : Obj} {x : AO} {mr : Str → Option Value} (I : Inv W H M s) (ha : s.heap.get? a = none) (hn : h'.get? a = some o) (hr : OR W H o x) (hL : fr L) (hH : H L = none) (hM : M L = none)
    (hns : s.heap.Ns L mr) (hns' : h'.Ns L mr) (k : ∀ b o, b ≠ L → s.heap.get? b = some o → h'.get? b = some o) :
    Step none_ fr H M s H (M.set a x) { s with heap := h', toks := tk } ∧ Inv W H (M.set a x) { s with heap := h', toks := tk } ∧ M a = none := by
  obtain ⟨S1, I1⟩ := Step.extL (W := W) (tk := tk) (H := H) (M := M) (s := s) (h' := h') hL hH hM hns hns' k
  have I1 := I1 I
  have hd : H a = none ∧ M a = none := by
    constructor
    · cases q : H a with
      | none => rfl
      | some o => rw [I.sub a o q] at ha; cases ha
    · cases q : M a with
      | none => rfl
      | some x => obtain ⟨o, e, _⟩ := I.mem a x q; rw [e] at ha; cases ha
  refine ⟨⟨S1.alive, S1.keep, S1.keepF, S1.agr, fun b o e q => ?_, rfl, rfl⟩, ⟨I1.sub, I1.base, fun b z e => ?_, fun b z e => ?_⟩, hd.2⟩
  · unfold Mem.set
    rw [if_neg]
    · exact q
    · rintro rfl; rw [ha] at e; cases e
  · unfold Mem.set at e
    split at e
    · rename_i q; subst q; cases e; exact ⟨_, hn, hr⟩
    · exact I1.mem b z e
  · unfold Mem.set at e
    split at e
    · rename_i q; subst q; exact hd.1
    · exact I1.disj b z e

theorem Rel.fr (R : Rel W frs own env ρ H m M s) (ok : EnvOK W env sc ρ own) : ∃ mr, Fr W.h₀ env.locals s.heap mr := by
  obtain ⟨mr, h1, _⟩ := R.loc.ns
  exact ⟨mr, h1, fun b o e => R.inv.sub b o (R.inv.base b o e), ok.above⟩

theorem fr_keeps {h₀ h h' : Heap} {L : Addr} {mr : Str → Option Value} {news news' : List (Addr × Obj)} (hf : ∀ b o, h.get? b = some o → b ≠ L → h₀.get? b = none → (b, o) ∈ news)
    (F : Fr h₀ L h mr) (F' : Fr h₀ L h' mr) (N' : News h₀ L h' news') (hs : ∀ p, p ∈ news → p ∈ news') : ∀ b o, b ≠ L → h.get? b = some o → h'.get? b = some o := by
  intro b o q e
  cases z : h₀.get? b with
  | none => exact (N' _ (hs _ (hf b o e q z))).1
  | some o' =>
    have := F.keep b o' z
    rw [e] at this; cases this
    exact F'.keep b o z

theorem Rel.after (R : Rel W frs own env ρ H m M s) (ok : EnvOK W env sc ρ own) {mr : Str → Option Value} {news news' : List (Addr × Obj)}
    (hf : ∀ b o, s.heap.get? b = some o → b ≠ env.locals → W.h₀.get? b = none → (b, o) ∈ news)
    (F : Fr W.h₀ env.locals s.heap mr) (F' : Fr W.h₀ env.locals h' mr) (N' : News W.h₀ env.locals h' news') (hs : ∀ p, p ∈ news → p ∈ news') :
    Step none_ (frL frs env) H M s H M { s with heap := h', toks := tk } ∧ Inv W H M { s with heap := h', toks := tk } := by
  obtain ⟨a, b⟩ := Step.extL (W := W) (tk := tk) (fr := frL frs env) (.inr rfl) (R.ow.off _ ok.ownL) (R.ow.offM _ ok.ownL) F.ns F'.ns (fr_keeps hf F F' N' hs)
  exact ⟨a, b R.inv⟩
end

theorem PE.of {W : Wd} {fr : Addr → Prop} {H : FH} {M : Mem} {s s' : Shared} {Q : AV → Mem → Prop} {v : Value} {x : AV} (h : Step none_ fr H M s H M s') (I : Inv W H M s') (hv : VR W H v x) (hq : Q x M) : PE W fr H M s Q v s' :=
  ⟨H, M, x, h, I, hv, hq⟩
theorem PE.tok {W : Wd} {fr : Addr → Prop} {H : FH} {M : Mem} {s : Shared} {Q : AV → Mem → Prop} {v : Value} {x : AV} {tk : Nat} (I : Inv W H M s) (hv : VR W H v x) (hq : Q x M) : PE W fr H M s Q v { s with toks := tk } :=
  ⟨H, M, x, Step.ext fun _ _ e => e, I.ext fun _ _ e => e, hv, hq⟩
theorem PE.here {W : Wd} {fr : Addr → Prop} {H : FH} {M : Mem} {s : Shared} {Q : AV → Mem → Prop} {v : Value} {x : AV} (I : Inv W H M s) (hv : VR W H v x) (hq : Q x M) : PE W fr H M s Q v s :=
  ⟨H, M, x, Step.refl, I, hv, hq⟩
theorem PE.trans {W : Wd} {fr : Addr → Prop} {H H₁ : FH} {M M₁ : Mem} {s s₁ s' : Shared} {Q : AV → Mem → Prop} {v : Value} (x : Step none_ fr H M s H₁ M₁ s₁) (y : PE W fr H₁ M₁ s₁ Q v s') : PE W fr H M s Q v s' := by
  refine go1 fun G hG => ?_
  obtain ⟨H', M', z, h1, h2, h3, h4⟩ := y
  refine hG ?_
  exact ⟨H', M', z, x.trans h1, h2, h3, h4⟩

theorem PE.newList {W : Wd} {fr : Addr → Prop} {H : FH} {M : Mem} {s : Shared} {Q : AV → Mem → Prop} {xs : List AV} {vs : List Value} {a : Addr} {n : Nat} {h' : Heap} {tk : Nat} (I : Inv W H M s) (hq : newL M xs Q) (hv : VRs W H vs xs)
    (ha : s.heap.get? a = none) (hn : h'.get? a = some { cls := .type "list", data := .seq vs.toArray n }) (k : ∀ b o, s.heap.get? b = some o → h'.get? b = some o) : PE W fr H M s Q (.ref a) { s with heap := h', toks := tk } := by
  obtain ⟨x1, x2, x3⟩ := new_tracked (own := none_) (fr := fr) (tk := tk) (x := .list xs) I ha hn ⟨vs, n, rfl, Nat.le_trans (Nat.le_of_eq hv.1) (Nat.le_trans hq.1 (by decide)), hv⟩ k
  exact ⟨H, _, _, x1, x2, .ref a, hq.2 a x3⟩

theorem fresh_none (h : Heap) : h.get? h.objs.size = none := by
  cases e : h.get? h.objs.size with
  | none => rfl
  | some o => exact absurd (Heap.lt_size e) (Nat.lt_irrefl _)

end Vg
end
section
set_option autoImplicit false
set_option linter.all false
namespace Vg
open PySem PySem.W PyProof.Rows

theorem sizeLine_ge {n : Nat} (h : n ≤ 4000000) : n ≤ sizeLine := Nat.le_trans h (by decide)

section
variable {W : Wd} {H : FH} {M : Mem} {s : Shared}

theorem VR.isInt {v : Value} {i : Int} (h : VR W H v (.int i)) : ∃ t, v = .int i t := by cases h; exact ⟨_, rfl⟩
theorem VR.isBool {v : Value} {b : Bool} (h : VR W H v (.bool b)) : v = .bool b := by cases h; rfl
theorem VR.isRef {v : Value} {a : Addr} (h : VR W H v (.ref a)) : v = .ref a := by cases h; rfl
theorem subP.int {x y : AV} {P : AV → Prop} (h : subP M x y P) : ∃ i, y = .int i := by cases y <;> first | exact ⟨_, rfl⟩ | exact h.elim
theorem inP.int {x y : AV} {P : Prop → Prop} (h : inP M x y P) : ∃ i, x = .int i := by cases x <;> first | exact ⟨_, rfl⟩ | exact h.elim
theorem list_at (I : Inv W H M s) {v : Value} {x : AV} {P : List AV → Prop} (hv : VR W H v x) (h : listP M x P) :
    ∃ a vs n xs, v = .ref a ∧ s.heap.get? a = some { cls := .type "list", data := .seq vs.toArray n } ∧ vs.length ≤ 2000000 ∧ VRs W H vs xs ∧ P xs := by
  cases hv with
  | lst h1 hb hl h2 => exact ⟨_, _, _, _, rfl, I.sub _ _ h1, hb, ⟨hl, h2⟩, h⟩
  | ref a =>
    obtain ⟨xs, hm, hp⟩ := h
    obtain ⟨o, h1, vs, n, rfl, hb, h2⟩ := I.mem a _ hm
    exact ⟨a, vs, n, xs, rfl, h1, hb, h2, hp⟩
  | _ => exact h.elim

theorem isList_of {h : Heap} {a : Addr} {vs : List Value} {n : Nat} (e : h.get? a = some { cls := .type "list", data := .seq vs.toArray n }) : h.IsList a vs.toArray := ⟨_, e, rfl, n, rfl⟩

theorem seq_at (I : Inv W H M s) {v : Value} {x : AV} {P : List AV → Prop} (hv : VR W H v x) (h : seqP M x P) :
    ∃ a vs xs, v = .ref a ∧ (s.heap.IsList a vs.toArray ∨ IsTup s.heap a vs.toArray) ∧ vs.length ≤ 2000000 ∧ VRs W H vs xs ∧ P xs := by
  cases hv with
  | tup h1 h2 h3 hb hl h4 => exact ⟨_, _, _, rfl, .inr ⟨_, I.sub _ _ h1, h2, _, h3⟩, hb, ⟨hl, h4⟩, h⟩
  | lst h1 hb hl h2 => exact ⟨_, _, _, rfl, .inl (isList_of (I.sub _ _ h1)), hb, ⟨hl, h2⟩, h⟩
  | ref a =>
    obtain ⟨xs, hm, hp⟩ := h
    obtain ⟨o, h1, vs, n, rfl, hb, h2⟩ := I.mem a _ hm
    exact ⟨a, vs, xs, rfl, .inl (isList_of h1), hb, h2, hp⟩
  | _ => exact h.elim
end

section
variable {W : Wd} {frs : List Env} {own : Addr → Prop} {env : Env} {sc : List (Str × NameKind)} {ρ : Rho} {H : FH} {m : List AV} {M : Mem} {s : Shared} {A : Around} {k : Nat} {v u : Value} {x y z : AV} {Q : AV → Mem → Prop}

theorem new_list (ok : EnvOK W env sc ρ own) (R : Rel W frs own env ρ H m M s) {mr : Str → Option Value} (F : Fr W.h₀ env.locals s.heap mr) {h' : Heap} {tk : Nat} {news : List (Addr × Obj)} {vs : List Value} {n : Nat} {xs : List AV} {D : Addr}
    (hf : ∀ b o, s.heap.get? b = some o → b ≠ env.locals → W.h₀.get? b = none → (b, o) ∈ news)
    (F' : Fr W.h₀ env.locals h' mr) (N' : News W.h₀ env.locals h' ((D, { cls := .type "list", data := .seq vs.toArray n }) :: news)) (hD : s.heap.get? D = none) (hv : VRs W H vs xs) (hq : newL M xs Q) :
    PE W (frL frs env) H M s Q (.ref D) { s with heap := h', toks := tk } := by
  obtain ⟨S1, I1, h8⟩ := new_trackedL (fr := frL frs env) (tk := tk) (x := .list xs) R.inv hD (N' _ (.head _)).1 ⟨vs, n, rfl, hv.1 ▸ Nat.le_trans hq.1 (by decide), hv⟩ (.inr rfl) (R.ow.off _ ok.ownL) (R.ow.offM _ ok.ownL) F.ns F'.ns (fr_keeps hf F F' N' (fun p hp => .tail _ hp))
  exact ⟨H, _, _, S1, I1, .ref D, hq.2 D h8⟩

theorem bin_lists (ok : EnvOK W env sc ρ own) (R : Rel W frs own env ρ H m M s) (hv : VR W H v x) (hu : VR W H u y) {op : Op2} (h : op = .add ∧ listP M x fun xs => listP M y fun ys => newL M (xs ++ ys) Q) :
    wpAny (model W.prog W.w) A (binaryOp (opOf op) v u) (PE W (frL frs env) H M s Q) (fun zz zz => False) s := by
  obtain ⟨mr, F⟩ := R.fr ok
  obtain ⟨news, N, hf, _⟩ := full_news W.h₀ s.heap env.locals
  obtain ⟨rfl, g⟩ := h
  obtain ⟨a, vs, n, xs, rfl, h1, b1, h2, h3⟩ := list_at R.inv hv g
  obtain ⟨b, ws, n', ys, rfl, h4, b2, h5, h6⟩ := list_at R.inv hu h3
  exact add_lists F N (isList_of h1) (isList_of h4) (fun h' F' N' => new_list (tk := s.toks) ok R F hf F' N' (fresh_none _) (h5.append h2) h6) (sizeLine_ge (Nat.add_le_add b1 b2))
theorem bin_mul (ok : EnvOK W env sc ρ own) (R : Rel W frs own env ρ H m M s) (hv : VR W H v x) {n : Int} (hu : VR W H u (.int n)) {op : Op2} (h : op = .mul ∧ listP M x fun xs => xs ≠ [] ∧ xs.length ≤ 1000 ∧ n ≤ 1000 ∧ -1000 ≤ n ∧ newL M (List.replicate n.toNat xs).flatten Q) :
    wpAny (model W.prog W.w) A (binaryOp (opOf op) v u) (PE W (frL frs env) H M s Q) (fun zz zz => False) s := by
  obtain ⟨mr, F⟩ := R.fr ok
  obtain ⟨news, N, hf, _⟩ := full_news W.h₀ s.heap env.locals
  obtain ⟨rfl, g⟩ := h
  obtain ⟨t, rfl⟩ := hu.isInt
  obtain ⟨a, vs, c, xs, rfl, e1, b1, e2, h2, h3, h4, h4', h5⟩ := list_at R.inv hv g
  refine mul_list F N e1 (by omega) (by omega) (Nat.le_trans (Nat.mul_le_mul (e2.1 ▸ h3 : vs.length ≤ 1000) (Int.toNat_le.mpr h4 : n.toNat ≤ 1000)) (by decide)) fun h' F' N' => ?_
  have hne : vs.toArray.isEmpty = false := by
    cases vs with
    | nil => exact absurd (List.eq_nil_of_length_eq_zero e2.1.symm) h2
    | cons _ _ => rfl
  have hrep : ∀ j : Nat, VRs W H (List.replicate j vs).flatten (List.replicate j xs).flatten := fun j => Nat.rec .nil (fun j ih => ih.append e2) j
  have hfold : ∀ (l : List (Array Value)) (acc : List Value), l.foldl (fun x1 x2 => x1 ++ x2) acc.toArray = (acc ++ (l.map (·.toList)).flatten).toArray := by
    intro l
    induction l with
    | nil => intro acc; simp
    | cons z r ih => intro acc; rw [List.foldl_cons, show acc.toArray ++ z = (acc ++ z.toList).toArray by simp, ih]; simp
  rw [hne] at N'
  have e : (List.replicate n.toNat vs.toArray).foldl (fun x1 x2 => x1 ++ x2) #[] = (List.replicate n.toNat vs).flatten.toArray := (hfold _ []).trans (by rw [List.map_replicate]; rfl)
  exact new_list (tk := s.toks) ok R F hf F' (by rw [← e]; exact N') (fresh_none _) (hrep _) h5
theorem bin_sound (ok : EnvOK W env sc ρ own) (ha : AOK A k frs) (R : Rel W frs own env ρ H m M s) (hv : VR W H v x) (hu : VR W H u y) {op : Op2} (h : binP M op x y Q) :
    wpAny (model W.prog W.w) A (binaryOp (opOf op) v u) (PE W (frL frs env) H M s Q) (fun zz zz => False) s := by
  unfold binP at h
  split at h
  · split at h
    · obtain ⟨t, rfl⟩ := hv.isInt
      obtain ⟨t', rfl⟩ := hu.isInt
      exact int_sound (P := fun r => Q (.int r) M) ha.handled h fun r t tk hr => PE.tok R.inv (.int r t) hr
    · exact h.elim
  · split at h
    · exact bin_mul ok R hv hu h
    · exact bin_lists ok R hv hu h

theorem getI_sound (R : Rel W frs own env ρ H m M s) (hv : VR W H v x) (hu : VR W H u y) (h : subP M x y fun z => Q z M) :
    wpAny (model W.prog W.w) A (getItem v u) (PE W (frL frs env) H M s Q) (fun zz zz => False) s ∧ (∃ a, v = .ref a) ∧ (s.TypeIs v "list" ∨ s.TypeIs v "tuple") ∧ ∃ i t, u = .int i t := by
  obtain ⟨i, rfl⟩ := subP.int h
  obtain ⟨t, rfl⟩ := hu.isInt
  · refine go1 fun G hG => ?_
    obtain ⟨h0, h2⟩ := h
    obtain ⟨a, vs, xs, rfl, hs, hb, hr, z, hz, hq⟩ := seq_at R.inv hv h2
    obtain ⟨w, hw, hwz⟩ := hr.get hz
    refine hG ?_
    have hlt := (List.getElem?_eq_some_iff.mp hw).1
    rcases hs with hl | ht
    · exact ⟨wpAny_getItem_list hl h0 (by omega) (by simpa using hw) (PE.here R.inv hwz hq), ⟨a, rfl⟩, .inl hl.typeIs, i, t, rfl⟩
    · have hidx : seqIndex? i vs.length = some i.toNat := by
        unfold seqIndex?
        have h1 : i < (vs.length : Int) := by omega
        have h2 : ¬ i < 0 := by omega
        simp [h0, h1, h2]
      obtain ⟨o, ho, hc, n, hd⟩ := id ht
      exact ⟨PyProof.Rows.getItem_tuple ht (by omega) (by omega) hidx (by simpa using hw) (PE.here R.inv hwz hq), ⟨a, rfl⟩, .inr ⟨o, ho, hc⟩, i, t, rfl⟩

theorem sub_sound (R : Rel W frs own env ρ H m M s) (hv : VR W H v x) (hu : VR W H u y) {ve ie : Expr} (h : subP M x y fun z => Q z M) :
    wpAny (model W.prog W.w) A (subscriptTail ve ie v u) (PE W (frL frs env) H M s Q) (fun zz zz => False) s := by
  obtain ⟨h1, ⟨a, rfl⟩, h2, i, t, rfl⟩ := getI_sound (A := A) R hv hu h
  have hops : ∃ ops, subscripted ie false (.ref a) (.int i t) = operate ops (getItem (.ref a) (.int i t)) := by
    unfold subscripted
    split
    · exact ⟨_, rfl⟩
    · rename_i q; cases q
    · exact ⟨_, rfl⟩
  obtain ⟨ops, hops⟩ := hops
  rcases h2 with h2 | h2
  · exact tail_any h2 slot_list_getitem.lookup h1 hops
  · exact tail_any h2 F.slot_tuple_getitem.lookup h1 hops
end

noncomputable def cmOf : Cm → CmpOp
  | .lt => .Lt | .le => .LtE | .gt => .Gt | .ge => .GtE | .eq => .Eq | .ne => .NotEq

theorem DOf.reads {W : Wd} {H : FH} {M : Mem} {s : Shared} (I : Inv W H M s) {n : Nat} {x : AV} {d : PyData} (h : DOf M n x d) : ∀ {v : Value}, VR W H v x → ∃ as, Reads s.heap v d as :=
  DOf.rec (motive_1 := fun _ x d _ => ∀ {v : Value}, VR W H v x → ∃ as, Reads s.heap v d as) (motive_2 := fun _ xs ds _ => ∀ {vs : List Value}, VRs W H vs xs → ∃ as, ReadsAll s.heap vs ds as)
    (fun i v h => by cases h with | int _ t => exact ⟨_, .int i t⟩)
    (fun _ ih v h => by cases h with | tup h1 h2 h3 _ hl h4 => obtain ⟨as, r⟩ := ih ⟨hl, h4⟩; exact ⟨_, .tuple (I.sub _ _ h1) h2 h3 r⟩)
    (fun _ ih v h => by cases h with | lst h1 _ hl h4 => obtain ⟨as, r⟩ := ih ⟨hl, h4⟩; exact ⟨_, .list (I.sub _ _ h1) rfl rfl r⟩)
    (fun hm _ ih v h => by
      cases h
      refine go1 fun G hG => ?_
      obtain ⟨o, h1, vs, n, rfl, _, h4⟩ := I.mem _ _ hm
      obtain ⟨as, r⟩ := ih h4
      refine hG ?_
      exact ⟨_, .list h1 rfl rfl r⟩)
    (fun h => by rw [h.inv0]; exact ⟨_, .nil⟩)
    (fun _ _ ih1 ih2 vs h => by
      refine go1 fun G hG => ?_
      obtain ⟨v, ws, rfl, g1, g2⟩ := h.inv
      obtain ⟨as, r⟩ := ih1 g1
      obtain ⟨bs, q⟩ := ih2 g2
      refine hG ?_
      exact ⟨_, .cons r q⟩) h
theorem DOf.shape {M : Mem} {n : Nat} {x : AV} {d : PyData} (h : DOf M n x d) : d.canLay0 = true ∧ d.depth ≤ n :=
  DOf.rec (motive_1 := fun n _ d _ => d.canLay0 = true ∧ d.depth ≤ n) (motive_2 := fun n _ ds _ => PyData.canLayAll0 ds = true ∧ PyData.depthAll ds ≤ n)
    (fun i => ⟨rfl, Nat.zero_le _⟩) (fun _ ih => ⟨ih.1, by rw [PyData.depth]; have := ih.2; omega⟩) (fun _ ih => ⟨ih.1, by rw [PyData.depth]; have := ih.2; omega⟩) (fun _ _ ih => ⟨ih.1, by rw [PyData.depth]; have := ih.2; omega⟩)
    ⟨rfl, Nat.zero_le _⟩ (fun _ _ ih1 ih2 => ⟨by rw [PyData.canLayAll0, ih1.1, ih2.1]; rfl, by rw [PyData.depthAll]; exact Nat.max_le.mpr ⟨ih1.2, ih2.2⟩⟩) h

theorem ints_of {W : Wd} {H : FH} {ns : List Int} : ∀ {vs : List Value}, VRs W H vs (ns.map .int) → IntsAre vs ns := by
  induction ns with
  | nil => intro vs h; rw [h.inv0]; exact .nil
  | cons i r ih =>
    intro vs h
    obtain ⟨v, ws, rfl, g1, g2⟩ := h.inv
    cases g1 with
    | int _ t => exact .cons i t (ih g2)

section
variable {W : Wd} {H : FH} {M : Mem} {s : Shared} {A : Around} {k : Nat} {frs : List Env} {v u : Value} {x y : AV} {P : Prop → Prop} {Q : Value → Shared → Prop} {E : Value → Shared → Prop}

theorem cmp_ints {op : Cm} {i j : Int} {t t' : Tok} (h : icmp op i j P) (hQ : ∀ (b : Bool) (p : Prop), (b = true ↔ p) → P p → Q (.bool b) s) : wpAny (model W.prog W.w) A (compareOp (cmOf op) (.int i t) (.int j t')) Q E s := by
  cases op with
  | lt => exact lt_int (hQ _ _ decide_eq_true_iff h)
  | le => exact le_int (hQ _ _ decide_eq_true_iff h)
  | gt => exact gt_int (hQ _ _ decide_eq_true_iff h)
  | ge => exact ge_int (hQ _ _ decide_eq_true_iff h)
  | eq => exact eq_int (hQ _ _ beq_iff_eq h)
  | ne => exact ne_int (hQ _ _ bne_iff_ne h)
theorem cmp_sound (ha : AOK A k frs) (I : Inv W H M s) (hv : VR W H v x) (hu : VR W H u y) {op : Cm} (h : cmpP M op x y P) (hQ : ∀ (b : Bool) (p : Prop), (b = true ↔ p) → P p → Q (.bool b) s) :
    wpAny (model W.prog W.w) A (compareOp (cmOf op) v u) Q E s := by
  have hun := ha.units
  have u1 : A.units + 64 < cLine := by lia
  have deep : (∃ d, DOf M 5 x d ∧ DOf M 5 y d ∧ ((op = .eq ∧ P True) ∨ (op = .ne ∧ P False))) → wpAny (model W.prog W.w) A (compareOp (cmOf op) v u) Q E s := by
    rintro ⟨d, h1, h2, h3⟩
    obtain ⟨as, r1⟩ := h1.reads I hv
    obtain ⟨bs, r2⟩ := h2.reads I hu
    obtain ⟨c1, c2⟩ := h1.shape
    have hsh : PySem.SeqAt.shaped d = true := by
      unfold PySem.SeqAt.shaped
      rw [c1, decide_eq_true (Nat.le_trans c2 (by decide) : d.depth ≤ 64)]; rfl
    rcases h3 with ⟨rfl, h3⟩ | ⟨rfl, h3⟩
    · exact PySem.SeqAt.compareEq_shaped r1 r2 hsh hsh (by omega) (by rw [PySem.SeqAt.eqv_refl d c1]; exact hQ _ _ (by simp) h3)
    · exact PySem.SeqAt.compareNe_shaped r1 r2 hsh hsh (by omega) (by rw [PySem.SeqAt.eqv_refl d c1]; exact hQ _ _ (by simp) h3)
  unfold cmpP at h
  split at h
  · split at h
    · obtain ⟨t, rfl⟩ := hv.isInt
      obtain ⟨t', rfl⟩ := hu.isInt
      exact cmp_ints h hQ
    · exact h.elim
  · split at h
    · rename_i a _ b
      obtain rfl := hv.isBool
      obtain rfl := hu.isBool
      · · have sh : ∀ c : Bool, PySem.SeqAt.shaped (.bool c) = true := fun c => by cases c <;> decide
          have e : PyData.eqv (.bool a) (.bool b) = (a == b) := by cases a <;> cases b <;> decide
          cases op with
          | eq => exact PySem.SeqAt.compareEq_shaped (.bool a) (.bool b) (sh a) (sh b) (by omega) (by rw [e]; exact hQ _ _ beq_iff_eq h)
          | ne => exact PySem.SeqAt.compareNe_shaped (.bool a) (.bool b) (sh a) (sh b) (by omega) (by rw [e]; exact hQ _ _ bne_iff_ne h)
          | _ => exact h.elim
    · exact h.elim
  · exact deep h

theorem in_sound (I : Inv W H M s) (hv : VR W H v x) (hu : VR W H u y) (h : inP M x y P) (hQ : ∀ (b : Bool) (p : Prop), (b = true ↔ p) → P p → Q (.bool b) s) :
    wpAny (model W.prog W.w) A (compareOp .In v u) Q E s := by
  obtain ⟨a, rfl⟩ := inP.int h
  obtain ⟨t, rfl⟩ := hv.isInt
  · refine go1 fun G hG => ?_
    obtain ⟨b, vs, xs, rfl, hs, _, hr, ns, rfl, hp⟩ := seq_at I hu h
    refine hG ?_
    have e : ns.any (· == a) = true ↔ a ∈ ns := by simp
    rcases hs with hl | ht
    · exact in_list_ints hl (ints_of hr) (hQ _ _ e hp)
    · exact in_tuple_ints ht (ints_of hr) (hQ _ _ e hp)

theorem none_sound (hv : VR W H v x) (neg : Bool) (hQ : Q (.bool (neg != isNoneB x)) s) : wpAny (model W.prog W.w) A (compareOp (if neg then .IsNot else .Is) v .none) Q E s := by
  have e : (v == .none) = isNoneB x := by cases hv <;> rfl
  cases neg with
  | false => exact is_none (by rw [e]; exact (by cases isNoneB x <;> rfl : (false != isNoneB x) = isNoneB x) ▸ hQ)
  | true => exact isNot_none (by rw [e]; exact (by cases isNoneB x <;> rfl : (true != isNoneB x) = !isNoneB x) ▸ hQ)

theorem truth_sound (hv : VR W H v x) (h : truthP x P) {Q : Bool → Shared → Prop} (hQ : ∀ (b : Bool) (p : Prop), (b = true ↔ p) → P p → Q b s) :
    wpAny (model W.prog W.w) A (truthy v) Q E s := by
  cases hv with
  | none => exact fun zz zz zz => hQ _ _ (by simp) h
  | bool b => exact wpAny_truthy_bool (hQ _ _ .rfl h)
  | int i t => exact truthy_int (hQ _ _ bne_iff_ne h)
  | _ => exact h.elim
end
end Vg
end
section
set_option autoImplicit false
set_option linter.all false
namespace Vg
open PySem PySem.W PyProof.Rows

structure GetOK (W : Wd) (c i : Nat) : Prop where
  plain : plainGet W.K (W.cls c) (W.attr i) = true
  dict : hasDictIn W.K (W.cls c) = true
  find : findIn W.K (.ref (W.cls c)) (W.attr i) = some none
  sa : findIn W.K (.ref (W.cls c)) "__setattr__" = some (some (.builtin "object.__setattr__"))
  over : plainOver W.K (W.cls c) = true
  taker : takerIn W.K (W.cls c) (W.attr i) = some none

theorem vr_handed {W : Wd} {H : FH} {v : Value} {x : AV} (h : VR W H v x) : handedIn v = true := by cases h <;> rfl

theorem FR.inv {W : Wd} {H : FH} {f : Nat × AV} {fs : List (Nat × AV)} {es : List DictEntry} (h : FR W H es (f :: fs)) : ∃ hsh t v r, es = ⟨hsh, .str (W.attr f.1) t, v⟩ :: r ∧ f.1 < W.na ∧ VR W H v f.2 ∧ FR W H r fs := by
  obtain ⟨h1, h2, h3⟩ := h
  cases es with
  | nil => cases h2
  | cons e r =>
    obtain ⟨⟨t, e1⟩, e2⟩ := h1 0 e f rfl rfl
    obtain ⟨hs, k, v⟩ := e
    cases e1
    exact ⟨hs, t, v, r, rfl, e2, h3 0 _ f rfl rfl, fun i => h1 (i + 1), Nat.succ.inj h2, fun i => h3 (i + 1)⟩
theorem FR.cons {W : Wd} {H : FH} {i : Nat} {x : AV} {fs : List (Nat × AV)} {es : List DictEntry} {hsh : Int} {t : Tok} {v : Value} (hi : i < W.na) (hv : VR W H v x) (h : FR W H es fs) : FR W H (⟨hsh, .str (W.attr i) t, v⟩ :: es) ((i, x) :: fs) :=
  ⟨fun j e f a b => by cases j with
    | zero => cases a; cases b; exact ⟨⟨t, rfl⟩, hi⟩
    | succ j => exact h.1 j e f a b, congrArg Nat.succ h.2.1, fun j e f a b => by cases j with
    | zero => cases a; cases b; exact hv
    | succ j => exact h.2.2 j e f a b⟩
theorem FR.nil {W : Wd} {H : FH} : FR W H [] [] := ⟨fun i e f a => (nomatch a), rfl, fun i e f a => (nomatch a)⟩

theorem getL_of {W : Wd} {H : FH} (wok : WOK W) {i : Nat} (hi : i < W.na) {fs : List (Nat × AV)} {x : AV} : ∀ {es : List DictEntry}, FR W H es fs → fs.lookup i = some x → ∃ v, getL (W.attr i) es = some (some v) ∧ VR W H v x := by
  induction fs with
  | nil => intro es h e; cases e
  | cons p fs ih =>
    intro es h e
    obtain ⟨hsh, t, v, r, rfl, hj, hv, hr⟩ := h.inv
    obtain ⟨j, y⟩ := p
    rw [List.lookup_cons] at e
    unfold getL
    rw [List.find?_cons]
    by_cases q : i = j
    · subst q
      rw [beq_self_eq_true] at e
      cases e
      rw [show (Value.str (W.attr i) t).isStr (W.attr i) = true from beq_self_eq_true _]
      exact ⟨v, rfl, hv⟩
    · rw [show (i == j) = false from beq_false_of_ne q] at e
      rw [show (Value.str (W.attr j) t).isStr (W.attr i) = false from beq_false_of_ne fun z => q (wok.inj i j hi hj z.symm)]
      obtain ⟨v', h1, h2⟩ := ih hr e
      refine ⟨v', ?_, h2⟩
      unfold getL at h1
      revert h1
      dsimp only
      cases z : r.find? (·.key.isStr (W.attr i)) with
      | some e' => exact id
      | none => intro h1; revert h1; dsimp only; split <;> exact nofun
theorem fr_noref {W : Wd} {H : FH} {fs : List (Nat × AV)} : ∀ {es : List DictEntry}, FR W H es fs → es.any (·.refKey) = false := by
  induction fs with
  | nil => intro es h; rw [List.eq_nil_of_length_eq_zero h.2.1]; rfl
  | cons p fs ih => intro es h; obtain ⟨hsh, t, v, r, rfl, _, _, hr⟩ := h.inv; rw [List.any_cons, ih hr]; rfl
theorem getL_isSome {W : Wd} {H : FH} {es : List DictEntry} {fs : List (Nat × AV)} (h : FR W H es fs) (name : Str) : (getL name es).isSome = true := by
  unfold getL
  split
  · rfl
  · rw [fr_noref h]; rfl
theorem setF_cons {i : Nat} {v : AV} {p : Nat × AV} {r : List (Nat × AV)} : setF i v (p :: r) = if p.1 = i then (i, v) :: r else p :: setF i v r := rfl
theorem setF_len (i : Nat) (x : AV) (fs : List (Nat × AV)) : (setF i x fs).length ≤ fs.length + 1 := by
  induction fs with
  | nil => exact Nat.le_refl _
  | cons p r ih =>
    rw [setF_cons]
    split
    · exact Nat.le_succ _
    · exact Nat.succ_le_succ ih

theorem putL_of {W : Wd} {H : FH} (wok : WOK W) {i : Nat} (hi : i < W.na) {hsh : Int} {t : Tok} {v : Value} {x : AV} (hv : VR W H v x) {fs : List (Nat × AV)} : ∀ {es : List DictEntry}, FR W H es fs → FR W H (putL (W.attr i) hsh (.str (W.attr i) t) v es) (setF i x fs) := by
  induction fs with
  | nil => intro es h; rw [List.eq_nil_of_length_eq_zero h.2.1]; exact .cons hi hv .nil
  | cons p fs ih =>
    intro es h
    obtain ⟨hsh', t', v', r, rfl, hj, hv', hr⟩ := h.inv
    obtain ⟨j, y⟩ := p
    unfold putL
    rw [setF_cons]
    by_cases q : j = i
    · subst q
      rw [if_pos (show (Value.str (W.attr j) t').isStr (W.attr j) = true from beq_self_eq_true _), if_pos rfl]
      exact .cons hj hv hr
    · rw [if_neg (fun z : (Value.str (W.attr j) t').isStr (W.attr i) = true => q (wok.inj j i hj hi (beq_iff_eq.mp z))), if_neg q]
      exact .cons hj hv' (ih hr)

theorem upd_news {d : Addr} {o o' : Obj} {news : List (Addr × Obj)} : news.Pairwise (fun p q => p.1 ≠ q.1) → (d, o) ∈ news → ∃ news', Upd d o o' news news' ∧ (∀ p, p ∈ news → p.1 ≠ d → p ∈ news') ∧ (d, o') ∈ news' := by
  induction news with
  | nil => intro _ h; cases h
  | cons p r ih =>
    intro hp h
    obtain ⟨h1, h2⟩ := List.pairwise_cons.mp hp
    by_cases q : p = (d, o)
    · subst q
      exact ⟨_, .head (fun p' hp' e => h1 p' hp' e.symm), fun p' hp' hne => (List.mem_cons.mp hp').elim (fun z => absurd (congrArg Prod.fst z) hne) (.tail _), .head _⟩
    · have hm : (d, o) ∈ r := (List.mem_cons.mp h).elim (fun z => absurd z.symm q) id
      obtain ⟨n', a, b, c⟩ := ih h2 hm
      exact ⟨p :: n', .tail (h1 _ hm) a, fun p' hp' hne => (List.mem_cons.mp hp').elim (fun z => z ▸ .head _) (fun z => .tail _ (b p' z hne)), .tail _ c⟩

noncomputable def PM (W : Wd) (fr : Addr → Prop) (H : FH) (M : Mem) (s : Shared) (Q : Mem → Prop) (s' : Shared) : Prop :=
  ∃ M', Step none_ fr H M s H M' s' ∧ Inv W H M' s' ∧ Q M'

inductive Bi | len | range | abs | min | max | sum | int | list
noncomputable def biOf : Bi → Value
  | .len => .builtin "len" | .range => .type "range" | .abs => .builtin "abs" | .min => .builtin "min" | .max => .builtin "max" | .sum => .builtin "sum" | .int => .type "int" | .list => .type "list"
noncomputable def biName : Bi → Str
  | .len => "len" | .range => "range" | .abs => "abs" | .min => "min" | .max => "max" | .sum => "sum" | .int => "int" | .list => "list"
theorem bi_boot (f : Bi) : bootBuiltins (biName f) = some (biOf f) := by
  cases f
  · exact boot_len
  · exact boot_range
  · exact boot_abs
  · exact boot_min
  · exact boot_max
  · exact boot_sum
  · exact boot_int
  · exact boot_list
inductive Me | append | extend | index | count
noncomputable def meName : Me → Str
  | .append => "append" | .extend => "extend" | .index => "index" | .count => "count"
noncomputable def meId : Me → String
  | .append => "list.append" | .extend => "list.extend" | .index => "list.index" | .count => "list.count"

noncomputable def biP1 (M : Mem) (f : Bi) (x : AV) (Q : AV → Mem → Prop) : Prop := match f with
  | .len => seqP M x fun xs => Q (.int xs.length) M
  | .range => (match x with
    | .int b => okR b ∧ Q (.rng 0 b 1) M
    | _ => False)
  | .abs => (match x with
    | .int a => Q (.int (if a < 0 then -a else a)) M
    | _ => False)
  | .sum => listP M x fun xs => ∃ ns : List Int, xs = ns.map .int ∧ Q (.int ns.sum) M
  | .int => (match x with
    | .bool b => Q (.int (if b then 1 else 0)) M
    | _ => False)
  | .list => listP M x fun xs => newL M xs Q
  | _ => False
noncomputable def biP2 (M : Mem) (f : Bi) (x y : AV) (Q : AV → Mem → Prop) : Prop := match x with
  | .int a => (match y with
    | .int b => (match f with
      | .range => okR a ∧ okR b ∧ Q (.rng a b 1) M
      | .min => Q (.int (min a b)) M
      | .max => Q (.int (max a b)) M
      | _ => False)
    | _ => False)
  | _ => False
noncomputable def rngP (M : Mem) (x y z : AV) (Q : AV → Mem → Prop) : Prop := match x with
  | .int a => (match y with
    | .int b => (match z with
      | .int c => okR a ∧ okR b ∧ c = -1 ∧ Q (.rng a b (-1)) M
      | _ => False)
    | _ => False)
  | _ => False
noncomputable def meP (M : Mem) (f : Me) (o x : AV) (Q : AV → Mem → Prop) : Prop := match f with
  | .append => appP M o x Q
  | .extend => extP M o x Q
  | .index => idxP M o x Q
  | .count => cntP M o x Q

section
variable {W : Wd} {frs : List Env} {own : Addr → Prop} {env : Env} {sc : List (Str × NameKind)} {ρ : Rho} {H : FH} {m : List AV} {M : Mem} {s : Shared} {A : Around} {k : Nat} {v u w : Value} {x y z : AV} {Q : AV → Mem → Prop}

theorem at_sound (wok : WOK W) (gok : ∀ c i, c < W.nc → i < W.na → GetOK W c i) (ok : EnvOK W env sc ρ own) (R : Rel W frs own env ρ H m M s) (hv : VR W H v x) {i : Nat} (hi : i < W.na) (h : atP M x i fun z => Q z M) :
    wpAny (model W.prog W.w) A (getAttr v (W.attr i) true) (PE W (frL frs env) H M s Q) (fun zz zz => False) s := by
  obtain ⟨mr, F⟩ := R.fr ok
  cases hv with
  | obj h1 h2 a1 a2 a3 h4 =>
    refine go1 fun G hG => ?_
    obtain ⟨z, hz, hq⟩ := h
    obtain ⟨w, hw, hr⟩ := getL_of wok hi ⟨a1, a2, a3⟩ hz
    refine hG ?_
    have g := gok _ i h4 hi
    exact get_own F wok.K ⟨R.inv.sub _ _ h1, rfl, rfl, R.inv.sub _ _ h2⟩ g.plain g.dict g.find rfl hw (vr_handed hr) (PE.tok R.inv hr hq)
  | inst h1 h4 =>
    refine go1 fun G hG => ?_
    obtain ⟨fs, hm, z, hz, hq⟩ := h
    obtain ⟨o, e1, es, n, rfl, h3⟩ := R.inv.mem _ _ hm
    obtain ⟨w, hw, hr⟩ := getL_of wok hi h3 hz
    refine hG ?_
    have g := gok _ i h4 hi
    exact get_own F wok.K ⟨R.inv.sub _ _ h1, rfl, rfl, e1⟩ g.plain g.dict g.find rfl hw (vr_handed hr) (PE.tok R.inv hr hq)
  | _ => exact h.elim

theorem setAt_sound (wok : WOK W) (gok : ∀ c i, c < W.nc → i < W.na → GetOK W c i) (ok : EnvOK W env sc ρ own) (R : Rel W frs own env ρ H m M s) (hv : VR W H v x) (hu : VR W H u y) {i : Nat} (hi : i < W.na) {Q : Mem → Prop} (h : setAtP M x i y Q) :
    wpAny (model W.prog W.w) A (setAttr v (W.attr i) u) (fun _ s' => PM W (frL frs env) H M s Q s') (fun zz zz => False) s := by
  obtain ⟨mr, F⟩ := R.fr ok
  cases hv with
  | inst h1 h4 =>
    rename_i a d c
    refine go1 fun G hG => ?_
    obtain ⟨fs, hm, hl, hq⟩ := h
    obtain ⟨o, e1, es, n, rfl, h3⟩ := R.inv.mem _ _ hm
    refine hG ?_
    have g := gok c i h4 hi
    refine go1 fun G hG => ?_
    obtain ⟨news, N, hf, hp⟩ := full_news W.h₀ s.heap env.locals
    refine hG ?_
    have hdL : d ≠ env.locals := fun q => by rw [q, R.ow.offM _ ok.ownL] at hm; cases hm
    have hd0 : W.h₀.get? d = none := by
      cases z : W.h₀.get? d with
      | none => rfl
      | some o' => have := R.inv.base _ _ z; rw [R.inv.disj _ _ hm] at this; cases this
    have hp' := putL_of wok hi (hsh := PyData.keyHash W.w.params (W.attr i)) (t := s.toks + 1) hu h3
    obtain ⟨news', U, hk, hn⟩ := upd_news (o' := dictOf (putL (W.attr i) (PyData.keyHash W.w.params (W.attr i)) (.str (W.attr i) (s.toks + 1)) u es) (putN (W.attr i) es n)) hp (hf d _ e1 hdL hd0)
    have kk : ∀ {h' : Heap}, Fr W.h₀ env.locals h' mr → News W.h₀ env.locals h' news' → ∀ b o, b ≠ d → b ≠ env.locals → s.heap.get? b = some o → h'.get? b = some o := by
      intro h' F' N' b o q1 q2 e
      cases z : W.h₀.get? b with
      | none => exact (N' _ (hk _ (hf b o e q2 z) q1)).1
      | some o' =>
        have := F.keep b o' z
        rw [e] at this; cases this
        exact F'.keep b o z
    refine set_dict F wok.K N ⟨R.inv.sub _ _ h1, rfl, rfl, e1⟩ rfl g.sa g.over g.taker g.dict (getL_isSome h3 _) rfl U (Nat.le_trans (Nat.le_of_eq hp'.2.1) (Nat.le_trans (setF_len i y fs) (Nat.le_trans (Nat.succ_le_succ hl) (by decide)))) fun h' F' N' => ?_
    obtain ⟨S1, I1⟩ := upd_trackedL (fr := frL frs env) (tk := s.toks + 2) (x' := .flds (setF i y fs)) R.inv hm (N' _ hn).1 ⟨_, _, rfl, hp'⟩ (.inr rfl) (R.ow.off _ ok.ownL) (R.ow.offM _ ok.ownL) F.ns F'.ns (kk F' N')
    exact ⟨_, S1, I1, hq⟩
  | _ => exact h.elim

theorem setSubP.is {M : Mem} {x y z : AV} {Q : Mem → Prop} (h : setSubP M x y z Q) : ∃ a j, x = .ref a ∧ y = .int j := by
  cases x with
  | ref a => cases y with
    | int j => exact ⟨_, _, rfl, rfl⟩
    | _ => exact h.elim
  | _ => exact h.elim
theorem biP2.is {M : Mem} {f : Bi} {x y : AV} {Q : AV → Mem → Prop} (h : biP2 M f x y Q) : ∃ a b, x = .int a ∧ y = .int b := by
  cases x with
  | int a => cases y with
    | int b => exact ⟨_, _, rfl, rfl⟩
    | _ => exact h.elim
  | _ => exact h.elim
theorem rngP.is {M : Mem} {x y z : AV} {Q : AV → Mem → Prop} (h : rngP M x y z Q) : ∃ a b c, x = .int a ∧ y = .int b ∧ z = .int c := by
  cases x with
  | int a => cases y with
    | int b => cases z with
      | int c => exact ⟨_, _, _, rfl, rfl, rfl⟩
      | _ => exact h.elim
    | _ => exact h.elim
  | _ => exact h.elim
theorem appP.is {M : Mem} {x y : AV} {Q : AV → Mem → Prop} (h : appP M x y Q) : ∃ a, x = .ref a := by cases x <;> first | exact ⟨_, rfl⟩ | exact h.elim
theorem extP.is {M : Mem} {x y : AV} {Q : AV → Mem → Prop} (h : extP M x y Q) : ∃ a, x = .ref a := by cases x <;> first | exact ⟨_, rfl⟩ | exact h.elim
theorem idxP.is {M : Mem} {x y : AV} {Q : AV → Mem → Prop} (h : idxP M x y Q) : ∃ i, y = .int i := by cases y <;> first | exact ⟨_, rfl⟩ | exact h.elim
theorem cntP.is {M : Mem} {x y : AV} {Q : AV → Mem → Prop} (h : cntP M x y Q) : ∃ i, y = .int i := by cases y <;> first | exact ⟨_, rfl⟩ | exact h.elim
theorem setSub_sound (R : Rel W frs own env ρ H m M s) {o' kk : Value} (hv : VR W H o' x) (hk : VR W H kk y) (hu : VR W H w z) {Q : Mem → Prop} (h : setSubP M x y z Q) :
    wpAny (model W.prog W.w) A (setItem o' kk w) (fun _ s' => PM W (frL frs env) H M s Q s') (fun zz zz => False) s := by
  obtain ⟨a, j, rfl, rfl⟩ := setSubP.is h
  obtain rfl := hv.isRef
  obtain ⟨t, rfl⟩ := hk.isInt
  refine go1 fun G hG => ?_
  obtain ⟨xs, hm, h0, h2, hq⟩ := h
  obtain ⟨o, e1, vs, n, rfl, hb, e2⟩ := R.inv.mem _ _ hm
  refine hG ?_
  have hl : j.toNat < vs.length := e2.1 ▸ h2
  refine ki_setAt e1 h0 (by omega) (by rw [List.size_toArray]; omega) ?_
  have e3 := Heap.get?_update_self (Obj.mapSeq fun x => x.setIfInBounds j.toNat w) e1 rfl
  have e4 : ∃ n', (Obj.mapSeq (fun x => x.setIfInBounds j.toNat w) { cls := .type "list", data := .seq vs.toArray n } : Obj) = { cls := .type "list", data := .seq (vs.set j.toNat w).toArray n' } := by
    unfold Obj.mapSeq
    simp only [List.setIfInBounds_toArray]
    exact ⟨_, rfl⟩
  obtain ⟨n', e4⟩ := e4
  rw [e4] at e3
  obtain ⟨S1, I1⟩ := upd_tracked (own := none_) (fr := frL frs env) (tk := s.toks) (x' := .list (xs.set j.toNat z)) R.inv hm e3 ⟨_, _, rfl, by rw [List.length_set]; exact hb, e2.set j.toNat hu⟩ (fun b o q e => (Heap.SameBut.update ..).extBut b o q e)
  exact ⟨_, S1, I1, hq⟩

theorem rng_new (R : Rel W frs own env ρ H m M s) {a b c : Int} {t u w : Tok} {tk : Nat} (hok : okR a ∧ okR b ∧ (c = 1 ∨ c = -1)) (hq : Q (.rng a b c) M) :
    PE W (frL frs env) H M s Q (.ref s.heap.objs.size) { s with heap := s.heap.push { cls := .type "range", data := .fields #[.int a t, .int b u, .int c w] }, toks := tk } := by
  obtain ⟨x1, x2, x3⟩ := new_frozen (own := none_) (fr := frL frs env) (tk := tk) R.inv (fresh_none s.heap) (Heap.get?_push_size (o := { cls := .type "range", data := .fields #[.int a t, .int b u, .int c w] }) _ rfl) fun b o e => Heap.get?_push_of_some _ e
  exact ⟨_, M, _, x1, x2, .rng (FH.put_self _ _ _) hok, hq⟩

theorem bi1_sound (ok : EnvOK W env sc ρ own) (ha : AOK A k frs) (R : Rel W frs own env ρ H m M s) {f : Bi} (hv : VR W H v x) (h : biP1 M f x Q) :
    wpAny (model W.prog W.w) A (call (biOf f) [v]) (PE W (frL frs env) H M s Q) (fun zz zz => False) s := by
  cases f with
  | len =>
    refine go1 fun G hG => ?_
    obtain ⟨a, ws, ys, rfl, hs, hb, hr, hq⟩ := seq_at R.inv hv h
    refine hG ?_
    have e : ∀ t tk, PE W (frL frs env) H M s Q (.int ws.toArray.size t) { s with toks := tk } := fun t tk => PE.tok R.inv (.int _ _) (by rw [List.size_toArray, hr.1]; exact hq)
    have hz : (ws.toArray.size : Int) < 2 ^ 63 := by rw [List.size_toArray]; omega
    rcases hs with hs | hs
    · exact len_list hs hz (e _ _)
    · exact len_tuple hs hz (e _ _)
  | range => cases hv with
    | int b t => exact call_range_1 (rng_new R ⟨by unfold okR; decide, h.1, .inl rfl⟩ h.2)
    | _ => exact h.elim
  | abs => cases hv with
    | int b t => exact call_abs_int fun u tk => PE.tok R.inv (.int _ _) h
    | _ => exact h.elim
  | sum =>
    obtain ⟨mr, F⟩ := R.fr ok
    obtain ⟨news, N, hf, _⟩ := full_news W.h₀ s.heap env.locals
    obtain ⟨a, ws, n, ys, rfl, e1, _, e2, ns, rfl, hq⟩ := list_at R.inv hv h
    refine LSm.sum_ints F N ha.handled (isList_of e1) (ints_of e2) fun h' tk t' F' N' => ?_
    obtain ⟨S1, I1⟩ := R.after (tk := tk) ok hf F F' N' (fun p hp => hp)
    exact PE.of S1 I1 (.int _ _) hq
  | int => cases hv with
    | bool b => exact call_int_bool (PE.tok R.inv (.int _ _) h)
    | _ => exact h.elim
  | list =>
    obtain ⟨mr, F⟩ := R.fr ok
    obtain ⟨news, N, hf, _⟩ := full_news W.h₀ s.heap env.locals
    obtain ⟨a, ws, n, ys, rfl, e1, hb, e2, hq⟩ := list_at R.inv hv h
    refine list_copyK F N (isList_of e1) (fun D c h' F' N' hD => ?_) (by rw [List.size_toArray]; exact sizeLine_ge (Nat.le_trans hb (by decide)))
    have hn := N' _ (.head _)
    refine new_list (tk := s.toks) ok R F hf F' N' ?_ e2 hq
    cases e : s.heap.get? D with
    | none => rfl
    | some o =>
      cases z : W.h₀.get? D with
      | some o' => rw [hn.2.2] at z; cases z
      | none => exact absurd (hD _ (hf D o e hn.2.1 z)) (Nat.lt_irrefl _)
  | _ => exact h.elim

theorem bi2_sound (ok : EnvOK W env sc ρ own) (ha : AOK A k frs) (R : Rel W frs own env ρ H m M s) {f : Bi} (hv : VR W H v x) (hu : VR W H u y) (h : biP2 M f x y Q) :
    wpAny (model W.prog W.w) A (call (biOf f) [v, u]) (PE W (frL frs env) H M s Q) (fun zz zz => False) s := by
  obtain ⟨mr, F⟩ := R.fr ok
  obtain ⟨news, N, hf, _⟩ := full_news W.h₀ s.heap env.locals
  obtain ⟨a, b, rfl, rfl⟩ := biP2.is h
  obtain ⟨t, rfl⟩ := hv.isInt
  obtain ⟨t', rfl⟩ := hu.isInt
  cases f with
  | range => exact call_range_2 (rng_new R ⟨h.1, h.2.1, .inl rfl⟩ h.2.2)
  | min =>
    refine min_two_N ha.handled F N fun h' tk F' N' => ?_
    obtain ⟨S1, I1⟩ := R.after (tk := tk) ok hf F F' N' (fun p hp => hp)
    exact PE.of S1 I1 (.int _ _) (by rw [show (if b < a then b else a) = min a b from by rw [Int.min_def]; split <;> split <;> omega]; exact h)
  | max =>
    refine max_two_N ha.handled F N fun h' tk F' N' => ?_
    obtain ⟨S1, I1⟩ := R.after (tk := tk) ok hf F F' N' (fun p hp => hp)
    exact PE.of S1 I1 (.int _ _) (by rw [show (if b > a then b else a) = max a b from by rw [Int.max_def]; split <;> split <;> omega]; exact h)
  | _ => exact h.elim

theorem rng_sound (R : Rel W frs own env ρ H m M s) (hv : VR W H v x) (hu : VR W H u y) (hw : VR W H w z) (h : rngP M x y z Q) :
    wpAny (model W.prog W.w) A (call (.type "range") [v, u, w]) (PE W (frL frs env) H M s Q) (fun zz zz => False) s := by
  obtain ⟨a, b, c, rfl, rfl, rfl⟩ := rngP.is h
  obtain ⟨t, rfl⟩ := hv.isInt
  obtain ⟨t', rfl⟩ := hu.isInt
  obtain ⟨t'', rfl⟩ := hw.isInt
  obtain ⟨h1, h2, rfl, h3⟩ := h
  exact call_range_3 (by decide) (rng_new R ⟨h1, h2, .inr rfl⟩ h3) (.inl (by unfold Builtin.divisionGoesByPylong; rfl))

theorem me_append (R : Rel W frs own env ρ H m M s) (hv : VR W H v x) (hu : VR W H u y) (h : appP M x y Q) :
    wpAny (model W.prog W.w) A (call (.builtin (meId .append)) [v, u]) (PE W (frL frs env) H M s Q) (fun zz zz => False) s := by
  obtain ⟨a, rfl⟩ := appP.is h
  obtain rfl := hv.isRef
  obtain ⟨xs, hm, hl, hq⟩ := h
  obtain ⟨o, e1, vs, n, rfl, hb, e2⟩ := R.inv.mem _ _ hm
  refine wpAny_list_append_plain ⟨n, e1⟩ (fun h' hp hs => ?_) (by rw [List.size_toArray]; exact sizeLine_ge (Nat.le_trans hb (by decide)))
  obtain ⟨n', e3⟩ := hp
  rw [List.push_toArray] at e3
  obtain ⟨S1, I1⟩ := upd_tracked (own := none_) (fr := frL frs env) (tk := s.toks) (x' := .list (xs ++ [y])) R.inv hm e3 ⟨_, _, rfl, by rw [List.length_append, e2.1]; exact Nat.le_trans (Nat.succ_le_succ hl) (by decide), (VRs.cons hu .nil).append e2⟩ (fun b o q e => hs.extBut b o q e)
  exact ⟨H, _, _, S1, I1, .none, hq⟩
theorem me_extend (R : Rel W frs own env ρ H m M s) (hv : VR W H v x) (hu : VR W H u y) (h : extP M x y Q) :
    wpAny (model W.prog W.w) A (call (.builtin (meId .extend)) [v, u]) (PE W (frL frs env) H M s Q) (fun zz zz => False) s := by
  obtain ⟨a, rfl⟩ := extP.is h
  obtain rfl := hv.isRef
  refine go1 fun G hG => ?_
  obtain ⟨xs, hm, h⟩ := h
  obtain ⟨o, e1, vs, n, rfl, hb, e2⟩ := R.inv.mem _ _ hm
  obtain ⟨b, ws, n', ys, rfl, e3, hb', e4, hl, hq⟩ := list_at R.inv hu h
  refine hG ?_
  have h10 : vs.length + ws.length ≤ 4000000 := Nat.add_le_add hb hb'
  refine call_meets F.slot_list_extend (isList_of e1).typeIs F.entry_list_extend (F.args_list_extend_2 _ _)
    (AutoSeq1.list_extend_list_list_0 a vs.toArray n b ws.toArray n' (extend_door (by rw [List.size_toArray, List.size_toArray]; exact sizeLine_ge h10)) (by rw [List.size_toArray]; exact sizeLine_ge (Nat.le_trans hb (by decide))) (by rw [List.size_toArray, List.size_toArray]; exact Nat.le_succ_of_le (sizeLine_ge h10))) ⟨e1, e3, ?_⟩
  have e5 := Heap.get?_update_self (Obj.mapSeq fun x => x ++ ws.toArray) e1 rfl
  have e6 : ∃ c, (Obj.mapSeq (fun x => x ++ ws.toArray) { cls := .type "list", data := .seq vs.toArray n } : Obj) = { cls := .type "list", data := .seq (vs ++ ws).toArray c } := by
    unfold Obj.mapSeq
    simp only [List.append_toArray]
    exact ⟨_, rfl⟩
  obtain ⟨c, e6⟩ := e6
  rw [e6] at e5
  obtain ⟨S1, I1⟩ := upd_tracked (own := none_) (fr := frL frs env) (tk := s.toks) (x' := .list (xs ++ ys)) R.inv hm e5 ⟨_, _, rfl, by rw [List.length_append, e2.1, e4.1]; exact Nat.le_trans hl (by decide), e4.append e2⟩ (fun b o q e => (Heap.SameBut.update ..).extBut b o q e)
  exact ⟨H, _, _, S1, I1, .none, hq⟩
theorem me_index (R : Rel W frs own env ρ H m M s) (hv : VR W H v x) (hu : VR W H u y) (h : idxP M x y Q) :
    wpAny (model W.prog W.w) A (call (.builtin (meId .index)) [v, u]) (PE W (frL frs env) H M s Q) (fun zz zz => False) s := by
  obtain ⟨i, rfl⟩ := idxP.is h
  obtain ⟨t, rfl⟩ := hu.isInt
  obtain ⟨a, vs, n, xs, rfl, e1, hb, e2, ns, rfl, hk, hq⟩ := list_at R.inv hv h
  have hi := ints_of e2
  have hlen := hi.length
  have hj : ns.idxOf i < ns.length := List.idxOf_lt_length_iff.mpr hk
  refine call_meets PySem.F.slot_list_index (isList_of e1).typeIs PySem.F.entry_list_index (PySem.F.args_list_index_2 _ _)
    (MeetsSeq.list_index a vs.toArray n (.int i t) (isInt i) (fun y hy => eq_isInt i t hi y (by simpa using hy)) (ns.idxOf i) (by rw [List.size_toArray]; omega) (by omega) ?_ ?_) ⟨e1, PE.tok R.inv (.int _ _) hq⟩
  · simpa using isInt_at i hi (ns.idxOf i) (by omega) hj
  · intro q hq1 hq2
    have := isInt_at i hi q (by rw [List.size_toArray] at hq1; exact hq1) (by omega)
    rw [show (ns[q]'(by omega) == i) = false from by simpa using List.not_of_lt_findIdx (p := (· == i)) (xs := ns) (i := q) hq2] at this
    simpa using this
theorem me_count (R : Rel W frs own env ρ H m M s) (hv : VR W H v x) (hu : VR W H u y) (h : cntP M x y Q) :
    wpAny (model W.prog W.w) A (call (.builtin (meId .count)) [v, u]) (PE W (frL frs env) H M s Q) (fun zz zz => False) s := by
  obtain ⟨i, rfl⟩ := cntP.is h
  obtain ⟨t, rfl⟩ := hu.isInt
  obtain ⟨a, vs, n, xs, rfl, e1, hb, e2, ns, rfl, hq⟩ := list_at R.inv hv h
  exact count_list_ints (isList_of e1) (ints_of e2) (PE.tok R.inv (.int _ _) hq)
theorem me_sound (R : Rel W frs own env ρ H m M s) {f : Me} (hv : VR W H v x) (hu : VR W H u y) (h : meP M f x y Q) :
    wpAny (model W.prog W.w) A (call (.builtin (meId f)) [v, u]) (PE W (frL frs env) H M s Q) (fun zz zz => False) s := by
  cases f with
  | append => exact me_append R hv hu h
  | extend => exact me_extend R hv hu h
  | index => exact me_index R hv hu h
  | count => exact me_count R hv hu h

theorem pick_plain {α : Type} (vs : List α) (i j : Nat) : (vs.drop (min i vs.length)).take (min j vs.length - min i vs.length) = (vs.take j).drop i := by
  apply List.ext_getElem?
  intro q
  rw [List.drop_take, List.getElem?_take, List.getElem?_take, List.getElem?_drop, List.getElem?_drop]
  by_cases h : i ≤ vs.length
  · rw [Nat.min_eq_left h]
    by_cases h1 : q < j - i
    · rw [if_pos h1]
      split
      · rfl
      · rename_i h2; rw [List.getElem?_eq_none (Nat.le_of_not_lt fun z => h2 (Nat.lt_sub_of_add_lt (Nat.lt_min.mpr ⟨Nat.add_lt_of_lt_sub h1, by rw [Nat.add_comm]; exact z⟩)))]
    · rw [if_neg h1, if_neg fun z => h1 (Nat.lt_of_lt_of_le z (Nat.sub_le_sub_right (Nat.min_le_left _ _) _))]
  · rw [Nat.min_eq_right (by omega : vs.length ≤ i), List.getElem?_eq_none (by omega : vs.length ≤ i + q), List.getElem?_eq_none (by lia : vs.length ≤ vs.length + q)]
    split <;> split <;> rfl

theorem slice_sound (R : Rel W frs own env ρ H m M s) (hv : VR W H v x) {vl vu : Value} {lo : Option Int} {ie ve : Expr} (pl : IsPart vl lo) {j : Int} (pu : IsPart vu (some j)) {i : Int} (hlo : lo = some i ∨ (lo = none ∧ i = 0))
    (h : slP M x (.int i) (.int j) Q) :
    wpAny (model W.prog W.w) A (subscriptTail ve ie v (.ref s.heap.objs.size)) (PE W (frL frs env) H M s Q) (fun zz zz => False) { s with heap := s.heap.push { cls := .type "slice", data := .fields #[vl, vu, .none] } } := by
  obtain ⟨h0, h2, h4⟩ := h
  obtain ⟨a, vs, n, xs, rfl, e1, hb, e2, hq⟩ := list_at R.inv hv h4
  have hops : ∃ ops, subscripted ie false (.ref a) (.ref s.heap.objs.size) = operate ops (getItem (.ref a) (.ref s.heap.objs.size)) := by
    unfold subscripted
    split
    · exact ⟨_, rfl⟩
    · rename_i q; cases q
    · exact ⟨_, rfl⟩
  obtain ⟨ops, hops⟩ := hops
  have hl := (isList_of e1).push { cls := .type "slice", data := .fields #[vl, vu, .none] }
  have hpick : slicePick vs.toArray lo (some j) none = ((vs.take j.toNat).drop i.toNat).toArray := by
    rw [slicePick_plain]
    obtain ⟨i', rfl⟩ := Int.eq_ofNat_of_zero_le h0
    obtain ⟨j', rfl⟩ := Int.eq_ofNat_of_zero_le h2
    have e3 : (lo.elim 0 (clipAt vs.toArray.size)) = min i' vs.length := by
      rcases hlo with rfl | ⟨rfl, q⟩
      · simp [clipAt_nat]
      · cases q; exact (Nat.zero_min _).symm
    rw [e3, show (some (j' : Int)).elim vs.toArray.size (clipAt vs.toArray.size) = min j' vs.length from clipAt_nat _ _]
    exact congrArg _ (pick_plain vs i' j')
  refine tail_any (s := { s with heap := s.heap.push { cls := .type "slice", data := .fields #[vl, vu, .none] } }) (T := "list") (hl.typeIs (s := { s with heap := s.heap.push { cls := .type "slice", data := .fields #[vl, vu, .none] } })) slot_list_getitem.lookup
    (wpAny_getItem_list_slice (st := none) hl (Heap.IsSliceOf.new s.heap vl vu .none) pl pu .none (by simp) ?_ (by rw [List.size_toArray]; exact sizeLine_ge (Nat.le_trans hb (by decide)))) hops
  rw [hpick]
  have hf : s.heap.get? (s.heap.push { cls := .type "slice", data := .fields #[vl, vu, .none] }).objs.size = none := Heap.get?_none_of_le (by rw [Heap.size_push]; exact Nat.le_succ _)
  exact PE.newList (n := 0) R.inv hq ((e2.take _).drop _) hf (Heap.get?_push_size _ rfl) fun b o e => Heap.get?_push_of_some _ (Heap.get?_push_of_some _ e)
end
end Vg
end
section
set_option autoImplicit false
set_option linter.all false
namespace Vg
open PySem PySem.W PyProof.Rows

structure X where
  e : List AV → Mem → (AV → Mem → Prop) → Prop
  t : List AV → Mem → (Prop → Mem → Prop) → Prop
noncomputable def defd (x : AV) (Q : AV → Prop) : Prop := match x with
  | .undef => False
  | x => Q x
noncomputable def X.of (e : List AV → Mem → (AV → Mem → Prop) → Prop) : X := ⟨e, fun m M Q => e m M fun v M => truthP v fun p => Q p M⟩
noncomputable def asB (Q : AV → Mem → Prop) (p : Prop) (M : Mem) : Prop := ∀ b : Bool, (b = true ↔ p) → Q (.bool b) M
noncomputable def X.ofT (t : List AV → Mem → (Prop → Mem → Prop) → Prop) : X := ⟨fun m M Q => t m M (asB Q), t⟩
noncomputable def evs (as : List X) (m : List AV) : Mem → (List AV → Mem → Prop) → Prop := List.rec (motive := fun _ => Mem → (List AV → Mem → Prop) → Prop) (fun M Q => Q [] M) (fun a _ ih M Q => a.e m M fun x M => ih M fun xs M => Q (x :: xs) M) as
noncomputable def X.c (v : AV) : X := .of fun _ M Q => Q v M
noncomputable def X.v (i : Nat) : X := .of fun m M Q => defd (m.getD i .undef) fun v => Q v M
noncomputable def X.bin (op : Op2) (a b : X) : X := .of fun m M Q => a.e m M fun x M => b.e m M fun y M => binP M op x y Q
noncomputable def negP (x : AV) (Q : Int → Prop) : Prop := match x with
  | .int i => Q i
  | _ => False
noncomputable def X.neg (a : X) : X := .of fun m M Q => a.e m M fun x M => negP x fun i => Q (.int (-i)) M
noncomputable def X.inv (a : X) : X := .of fun m M Q => a.e m M fun x M => negP x fun i => Q (.int (Builtin.bitNot i)) M
noncomputable def X.not (a : X) : X := ⟨fun m M Q => a.e m M fun x M => truthP x fun p => asB Q (¬ p) M, fun m M Q => a.t m M fun p M => Q (¬ p) M⟩
noncomputable def X.and (a b : X) : X := ⟨fun m M Q => a.e m M fun x M => truthP x fun p => (p → b.e m M Q) ∧ (¬ p → Q x M), fun m M Q => a.t m M fun p M => (p → b.t m M Q) ∧ (¬ p → Q False M)⟩
noncomputable def X.or (a b : X) : X := ⟨fun m M Q => a.e m M fun x M => truthP x fun p => (p → Q x M) ∧ (¬ p → b.e m M Q), fun m M Q => a.t m M fun p M => (p → Q True M) ∧ (¬ p → b.t m M Q)⟩
noncomputable def X.ite (t a b : X) : X := ⟨fun m M Q => t.t m M fun p M => (p → a.e m M Q) ∧ (¬ p → b.e m M Q), fun m M Q => t.t m M fun p M => (p → a.t m M Q) ∧ (¬ p → b.t m M Q)⟩
noncomputable def X.cmp (op : Cm) (a b : X) : X := .ofT fun m M Q => a.e m M fun x M => b.e m M fun y M => cmpP M op x y fun p => Q p M
noncomputable def X.cmp2 (op op' : Cm) (a b c : X) : X := ⟨fun zz zz zz => False, fun m M Q => a.e m M fun x M => b.e m M fun y M => cmpP M op x y fun p => (p → c.e m M fun z M => cmpP M op' y z fun q => Q q M) ∧ (¬ p → Q False M)⟩
noncomputable def X.isin (a b : X) : X := .ofT fun m M Q => a.e m M fun x M => b.e m M fun y M => inP M x y fun p => Q p M
noncomputable def X.isn (neg : Bool) (a : X) : X := .ofT fun m M Q => a.e m M fun x M => Q ((neg != isNoneB x) = true) M
noncomputable def biP (M : Mem) (f : Bi) (xs : List AV) (Q : AV → Mem → Prop) : Prop := match xs with
  | [x] => biP1 M f x Q
  | [x, y] => biP2 M f x y Q
  | [x, y, z] => (match f with
    | .range => rngP M x y z Q
    | _ => False)
  | _ => False
noncomputable def X.bi (f : Bi) (as : List X) : X := .of fun m M Q => evs as m M fun xs M => biP M f xs Q
noncomputable def X.me (f : Me) (o a : X) : X := .of fun m M Q => o.e m M fun x M => listP M x (fun zz => True) ∧ a.e m M fun y M => meP M f x y Q
noncomputable def X.at (o : X) (i : Nat) : X := .of fun m M Q => o.e m M fun x M => atP M x i fun v => Q v M
noncomputable def X.sub (o i : X) : X := .of fun m M Q => o.e m M fun x M => i.e m M fun y M => subP M x y fun v => Q v M
noncomputable def X.slh (o h : X) : X := .of fun m M Q => o.e m M fun x M => h.e m M fun z M => slP M x (.int 0) z Q
noncomputable def X.slb (o l h : X) : X := .of fun m M Q => o.e m M fun x M => l.e m M fun y M => h.e m M fun z M => slP M x y z Q
noncomputable def X.lst (es : List X) : X := .of fun m M Q => evs es m M fun xs M => newL M xs Q
noncomputable def X.tup (es : List X) : X := .of fun m M Q => evs es m M fun xs M => Q (.tup xs) M
noncomputable def compP (c : X) (elt : X) (t : Nat) (v : AV) (xs : List AV) (m : List AV) (M : Mem) (Q : List AV → Mem → Prop) : Prop :=
  ∃ I : Nat → List AV → Mem → Prop, I 0 [] M ∧ (∀ i x acc M, xs[i]? = some x → I i acc M → c.t (m.set t x) M fun p M => (p → elt.e (m.set t x) M fun y M => stillP M v xs ∧ I (i + 1) (acc ++ [y]) M) ∧ (¬ p → stillP M v xs ∧ I (i + 1) acc M)) ∧
    ∀ acc M, I xs.length acc M → Q acc M
noncomputable def X.yes : X := .ofT fun _ M Q => Q True M
noncomputable def X.comp (elt : X) (t : Nat) (it c : X) : X := .of fun m M Q => it.e m M fun v M => itemsP M v fun xs => xs.length ≤ 1000000 ∧ compP c elt t v xs m M fun ys M => ∀ a, M a = none → Q (.ref a) (M.set a (.list ys))
noncomputable abbrev Fun := List AV → Mem → (AV → Mem → Prop) → Prop
noncomputable def X.call (T : Fun) (as : List X) : X := .of fun m M Q => evs as m M fun xs M => T xs M Q
noncomputable def X.new (c : Nat) (T : Fun) (as : List X) : X := .of fun m M Q => evs as m M fun xs M => ∀ d, M d = none → T (.inst c d :: xs) (M.set d (.flds [])) fun r M' => r = .none ∧ Q (.inst c d) M'
noncomputable def FSound (W : Wd) (j : Nat) (fa : Addr) (T : Fun) : Prop := ∀ xs M Q, T xs M Q → CallSpec W j fa xs M Q

noncomputable abbrev Bot {α : Type} : α → Shared → Prop := fun zz zz => False
noncomputable def PB (W : Wd) (fr : Addr → Prop) (H : FH) (M : Mem) (s : Shared) (Q : Prop → Mem → Prop) (b : Bool) (s' : Shared) : Prop :=
  ∃ H' M' p, Step none_ fr H M s H' M' s' ∧ Inv W H' M' s' ∧ (b = true ↔ p) ∧ Q p M'
noncomputable def PL (W : Wd) (fr : Addr → Prop) (H : FH) (M : Mem) (s : Shared) (Q : List AV → Mem → Prop) (vs : List Value) (s' : Shared) : Prop :=
  ∃ H' M' xs, Step none_ fr H M s H' M' s' ∧ Inv W H' M' s' ∧ VRs W H' vs xs ∧ Q xs M'
theorem PB.trans {W : Wd} {fr : Addr → Prop} {H H₁ : FH} {M M₁ : Mem} {s s₁ s' : Shared} {Q : Prop → Mem → Prop} {b : Bool} (x : Step none_ fr H M s H₁ M₁ s₁) (y : PB W fr H₁ M₁ s₁ Q b s') : PB W fr H M s Q b s' :=
  let ⟨H', M', p, h1, h2, h3, h4⟩ := y; ⟨H', M', p, x.trans h1, h2, h3, h4⟩
theorem PE.weaken {W : Wd} {fr fr' : Addr → Prop} {H : FH} {M : Mem} {s s' : Shared} {Q : AV → Mem → Prop} {v : Value} (h : ∀ b, fr b → fr' b) (y : PE W fr H M s Q v s') : PE W fr' H M s Q v s' :=
  let ⟨H', M', z, h1, h2, h3, h4⟩ := y; ⟨H', M', z, h1.weaken (fun _ _ _ q => q) (fun b _ _ _ q => h b q), h2, h3, h4⟩

section
variable {W : Wd} {A : Around} {fr : Addr → Prop} {H : FH} {M : Mem} {s : Shared} {α : Type}
theorem ev_then {Q : AV → Mem → Prop} {t : Sem Value} {R : Value → Shared → Prop} (h : wpAny (model W.prog W.w) A t (PE W fr H M s Q) Bot s)
    (k : ∀ H' M' x v s', Step none_ fr H M s H' M' s' → Inv W H' M' s' → VR W H' v x → Q x M' → R v s') : wpAny (model W.prog W.w) A t R Bot s :=
  wpAny_mono h (fun v s' ⟨H', M', x, h1, h2, h3, h4⟩ => k H' M' x v s' h1 h2 h3 h4) fun _ _ e => e
theorem evb_then {Q : Prop → Mem → Prop} {t : Sem Bool} {R : Bool → Shared → Prop} (h : wpAny (model W.prog W.w) A t (PB W fr H M s Q) Bot s)
    (k : ∀ H' M' b p s', Step none_ fr H M s H' M' s' → Inv W H' M' s' → (b = true ↔ p) → Q p M' → R b s') : wpAny (model W.prog W.w) A t R Bot s :=
  wpAny_mono h (fun b s' ⟨H', M', p, h1, h2, h3, h4⟩ => k H' M' b p s' h1 h2 h3 h4) fun _ _ e => e
theorem evl_then {Q : List AV → Mem → Prop} {t : Sem (List Value)} {R : List Value → Shared → Prop} (h : wpAny (model W.prog W.w) A t (PL W fr H M s Q) Bot s)
    (k : ∀ H' M' xs vs s', Step none_ fr H M s H' M' s' → Inv W H' M' s' → VRs W H' vs xs → Q xs M' → R vs s') : wpAny (model W.prog W.w) A t R Bot s :=
  wpAny_mono h (fun vs s' ⟨H', M', xs, h1, h2, h3, h4⟩ => k H' M' xs vs s' h1 h2 h3 h4) fun _ _ e => e
theorem PE.lift {H₁ : FH} {M₁ : Mem} {s₁ : Shared} {Q : AV → Mem → Prop} {t : Sem Value} (S : Step none_ fr H M s H₁ M₁ s₁)
    (h : wpAny (model W.prog W.w) A t (PE W fr H₁ M₁ s₁ Q) Bot s₁) : wpAny (model W.prog W.w) A t (PE W fr H M s Q) Bot s₁ :=
  wpAny_mono h (fun _ _ y => PE.trans S y) fun _ _ e => e
theorem PB.lift {H₁ : FH} {M₁ : Mem} {s₁ : Shared} {Q : Prop → Mem → Prop} {t : Sem Bool} (S : Step none_ fr H M s H₁ M₁ s₁)
    (h : wpAny (model W.prog W.w) A t (PB W fr H₁ M₁ s₁ Q) Bot s₁) : wpAny (model W.prog W.w) A t (PB W fr H M s Q) Bot s₁ :=
  wpAny_mono h (fun _ _ y => PB.trans S y) fun _ _ e => e
end

structure Cx (W : Wd) (k : Nat) (sc : List (Str × NameKind)) (ρ : Rho) (n : Nat) (A : Around) (frs : List Env) (own : Addr → Prop) (env : Env) : Prop where
  ha : AOK A k frs
  ok : EnvOK W env sc ρ own
  hρ : ∀ x i, ρ.lookup x = some i → i < n
structure Snd (W : Wd) (k : Nat) (sc : List (Str × NameKind)) (ρ : Rho) (n : Nat) (ex : Expr) (x : X) : Prop where
  e : ∀ {A : Around} {frs : List Env} {own : Addr → Prop} {env : Env} {m : List AV} {M : Mem} {Q : AV → Mem → Prop} {H : FH} {s : Shared}, Cx W k sc ρ n A frs own env → Rel W frs own env ρ H m M s → x.e m M Q →
    wpAny (model W.prog W.w) A (eval ex env) (PE W (frL frs env) H M s Q) Bot s
  t : ∀ {A : Around} {frs : List Env} {own : Addr → Prop} {env : Env} {m : List AV} {M : Mem} {Q : Prop → Mem → Prop} {H : FH} {s : Shared}, Cx W k sc ρ n A frs own env → Rel W frs own env ρ H m M s → x.t m M Q →
    wpAny (model W.prog W.w) A (PySem.isTrue ex env (eval ex env)) (PB W (frL frs env) H M s Q) Bot s

section
variable {W : Wd} {k : Nat} {sc : List (Str × NameKind)} {ρ : Rho} {n : Nat} {A : Around} {frs : List Env} {own : Addr → Prop} {env : Env} {m : List AV} {M : Mem} {Q : AV → Mem → Prop} {H : FH} {s : Shared} {pos p : Pos}

theorem Snd.of {ex : Expr} {f : List AV → Mem → (AV → Mem → Prop) → Prop} (he : ∀ env, PySem.isTrue ex env (eval ex env) = (do let v ← eval ex env; standAt ex.pos; holding [v] (truthy v)))
    (h : ∀ {A : Around} {frs : List Env} {own : Addr → Prop} {env : Env} {m : List AV} {M : Mem} {Q : AV → Mem → Prop} {H : FH} {s : Shared}, Cx W k sc ρ n A frs own env → Rel W frs own env ρ H m M s → f m M Q → wpAny (model W.prog W.w) A (eval ex env) (PE W (frL frs env) H M s Q) Bot s) : Snd W k sc ρ n ex (.of f) :=
  ⟨h, fun c R hv => wpAny_isTrue_value (ev_then (h c R hv) fun H1 M1 x v s1 S1 I1 V1 q1 => truth_sound V1 q1 fun b p hb hp => ⟨H1, M1, p, S1, I1, hb, hp⟩) (he _)⟩

theorem Cx.step {A : Around} {frs : List Env} {own : Addr → Prop} {env : Env} (c : Cx W k sc ρ n A frs own env) {H' : FH} {M' : Mem} {s' : Shared} (R : Rel W frs own env ρ H m M s) (S : Step none_ (frL frs env) H M s H' M' s') (I : Inv W H' M' s') : Rel W frs own env ρ H' m M' s' := R.step c.ok S I

theorem const_int {i : Int} {kd : Nat} : Snd W k sc ρ n (.Constant (.int i) kd pos) (.c (.int i)) := .of (fun zz => rfl) fun c R hv => wpAny_Constant_int (PE.tok R.inv (.int _ _) hv)
theorem const_bool {b : Bool} {kd : Nat} : Snd W k sc ρ n (.Constant (.bool b) kd pos) (.c (.bool b)) := .of (fun zz => rfl) fun c R hv => wpAny_Constant_bool (PE.here R.inv (.bool _) hv)
theorem const_none {kd : Nat} : Snd W k sc ρ n (.Constant .none kd pos) (.c .none) := .of (fun zz => rfl) fun c R hv => wpAny_Constant_none (PE.here R.inv .none hv)

theorem load_sound (ok : EnvOK W env sc ρ own) (R : Rel W frs own env ρ H m M s) {x : Str} {i : Nat} (hl : ρ.lookup x = some i) (hx : (x == ("__classdict__" : Str)) = false) {P : Value → Shared → Prop} {E : Value → Shared → Prop} {G : AV → Prop} (hd : defd (m.getD i .undef) G) (hP : ∀ v y, VR W H v y → G y → P v s) :
    wpAny (model W.prog W.w) A (loadName env x) P E s := by
  have hd : m.getD i .undef ≠ .undef ∧ G (m.getD i .undef) := by
    unfold defd at hd
    split at hd
    · exact hd.elim
    · exact ⟨by assumption, hd⟩
  rcases ok.kind x i hl with hk | ⟨hk, c, hc⟩
  · obtain ⟨mr, hn, hm⟩ := R.loc.ns
    obtain ⟨v, e1, e2⟩ := hm x i hl hk hd.1
    exact wpAny_loadName_local ok.fn hk hn e1 (hP v _ e2 hd.2)
  · obtain ⟨ov, h1, h2⟩ := R.loc.cell x i c hl (by rcases hk with hk | hk <;> rw [hk] <;> decide) hc
    obtain ⟨v, rfl, e2⟩ := h2 hd.1
    rcases hk with hk | hk
    · exact wpAny_loadName_cell ok.fn hk hc h1 (hP v _ e2 hd.2)
    · exact wpAny_loadName_free ok.fn hk hc h1 (hP v _ e2 hd.2) hx

theorem name_v {x : Str} {i : Nat} (h0 : (x == ("__debug__" : Str)) = false) (h1 : (x == ("__classdict__" : Str)) = false) (hl : ρ.lookup x = some i) : Snd W k sc ρ n (.Name x pos) (.v i) :=
  .of (fun zz => rfl) fun c R hv => wpAny_Name (load_sound c.ok R hl h1 hv fun v y V q => PE.here R.inv V q) h0

theorem glob_name (wok : WOK W) {x : Str} {r : Value} (hg : sc.lookup x = some .globalImplicit) (hd : (x == ("__debug__" : Str)) = false) (hr : W.mg x = some r)
    (ok : EnvOK W env sc ρ own) (R : Rel W frs own env ρ H m M s) {P : Value → Shared → Prop} {E : Value → Shared → Prop} (h : P r s) : wpAny (model W.prog W.w) A (eval (.Name x pos) env) P E s := by
  refine Calls.Name_function_global ok.fn (ok.gl x hg) (Calls.loadGlobal_global (mg := W.mg) ?_ hr h) hd
  rw [ok.glob]
  exact wok.g.keeps fun b o e => R.inv.sub b o (R.inv.base b o e)
theorem bi_name (wok : WOK W) {b : Bi} (hb : W.mg (biName b) = none) (hg : sc.lookup (biName b) = some .globalImplicit)
    (ok : EnvOK W env sc ρ own) (R : Rel W frs own env ρ H m M s) {P : Value → Shared → Prop} {E : Value → Shared → Prop} (h : P (biOf b) s) : wpAny (model W.prog W.w) A (eval (.Name (biName b) pos) env) P E s := by
  refine Calls.Name_function_global ok.fn (ok.gl _ hg) (Calls.loadGlobal_builtin (mg := W.mg) (mb := W.mb) ?_ hb ?_ ?_ h) (by cases b <;> decide)
  · rw [ok.glob]
    exact wok.g.keeps fun b o e => R.inv.sub b o (R.inv.base b o e)
  · rw [ok.bi]
    exact wok.b.keeps fun b o e => R.inv.sub b o (R.inv.base b o e)
  · rw [wok.builtins _ (by cases b <;> decide)]
    exact bi_boot b
theorem name_g (wok : WOK W) {x : Str} {v : AV} (hc : ∃ r, W.mg x = some r ∧ VR W (fun b => W.h₀.get? b) r v) (h0 : (x == ("__debug__" : Str)) = false) (hg : sc.lookup x = some .globalImplicit) : Snd W k sc ρ n (.Name x pos) (.c v) := by
  refine go1 fun G hG => ?_
  obtain ⟨r, h2, h3⟩ := hc
  refine hG ?_
  exact .of (fun zz => rfl) fun c R hv => glob_name wok hg h0 h2 c.ok R (PE.here R.inv (h3.mono R.inv.base) hv)

theorem bin_snd {l r : Expr} {op : Op2} {a b : X} (hl : Snd W k sc ρ n l a) (hr : Snd W k sc ρ n r b) : Snd W k sc ρ n (.BinOp l (opOf op) r pos) (.bin op a b) :=
  .of (fun zz => rfl) fun c R hv => wpAny_BinOp (ev_then (hl.e c R hv) fun H1 M1 x v s1 S1 I1 V1 q1 => ev_then (hr.e c (c.step R S1 I1) q1) fun H2 M2 y u s2 S2 I2 V2 q2 =>
    PE.lift (S1.trans S2) (bin_sound c.ok c.ha (c.step (c.step R S1 I1) S2 I2) (V1.mono (S2.le I1)) V2 q2))
theorem negP.is {x : AV} {Q : Int → Prop} (h : negP x Q) : ∃ i, x = .int i ∧ Q i := by
  cases x <;> first | exact ⟨_, rfl, h⟩ | exact h.elim
theorem neg_snd {x : Expr} {a : X} (h : Snd W k sc ρ n x a) : Snd W k sc ρ n (.UnaryOp .USub x pos) (.neg a) :=
  .of (fun zz => rfl) fun c R hv => wpAny_UnaryOp (ev_then (h.e c R hv) fun H1 M1 x v s1 S1 I1 V1 q1 => by
    obtain ⟨i, rfl, q1⟩ := negP.is q1
    obtain ⟨t, rfl⟩ := V1.isInt
    exact neg_int (PE.trans S1 (PE.tok I1 (.int _ _) q1)))
theorem inv_snd {x : Expr} {a : X} (h : Snd W k sc ρ n x a) : Snd W k sc ρ n (.UnaryOp .Invert x pos) (.inv a) :=
  .of (fun zz => rfl) fun c R hv => wpAny_UnaryOp (ev_then (h.e c R hv) fun H1 M1 x v s1 S1 I1 V1 q1 => by
    obtain ⟨i, rfl, q1⟩ := negP.is q1
    obtain ⟨t, rfl⟩ := V1.isInt
    exact invert_int (PE.trans S1 (PE.tok I1 (.int _ _) q1)))
theorem iff_not {b : Bool} {p : Prop} (h : b = true ↔ p) : (!b) = true ↔ ¬ p := by cases b <;> simp_all
theorem not_snd {x : Expr} {a : X} (h : Snd W k sc ρ n x a) : Snd W k sc ρ n (.UnaryOp .Not x pos) (.not a) where
  e := fun c R hv => wpAny_UnaryOp (ev_then (h.e c R hv) fun H1 M1 x v s1 S1 I1 V1 q1 => not_value (truth_sound V1 q1 fun b p hb hp => ⟨H1, M1, _, S1, I1, .bool _, hp _ (iff_not hb)⟩))
  t := fun c R hv => isTrue_not (evb_then (h.t c R hv) fun H1 M1 b p s1 S1 I1 hb q1 => ⟨H1, M1, _, S1, I1, iff_not hb, q1⟩)

theorem boolOp_cons {M : Model} {E : Value → Shared → Prop} {Q : Value → Shared → Prop} {op : BoolOp} {t u : Sem Value} {r : List (Sem Value)}
    (h : wpAny M A t (fun v s₁ => wpAny M A (truthy v) (fun b s₂ => match op, b with | .And, false => Q v s₂ | .Or, true => Q v s₂ | _, _ => wpAny M A (boolOp pos op (u :: r)) Q E s₂) E s₁) E s) :
    wpAny M A (boolOp pos op (t :: u :: r)) Q E s := by
  show wpAny M A (do
    let v ← t
    standAt pos
    let t ← holding [v] (truthy v)
    match op, t with
    | .And, false | .Or, true => pure v
    | _, _ => boolOp pos op (u :: r)) Q E s
  refine wpAny_bind (wpAny_mono h (fun v s₁ h₁ => wpAny_bind (wpAny_standAt (wpAny_bind (wpAny_holding (wpAny_mono h₁ (fun b s₂ h₂ => ?_) fun _ _ x => x))))) fun _ _ x => x)
  cases op <;> cases b <;> first | exact wpAny_pure h₂ | exact h₂

structure SndL (W : Wd) (k : Nat) (sc : List (Str × NameKind)) (ρ : Rho) (n : Nat) (op : BoolOp) (es : List Expr) (x : X) : Prop where
  e : ∀ {A : Around} {frs : List Env} {own : Addr → Prop} {env : Env} {m : List AV} {M : Mem} {Q : AV → Mem → Prop} {H : FH} {s : Shared}, Cx W k sc ρ n A frs own env → ∀ (pos : Pos), Rel W frs own env ρ H m M s → x.e m M Q →
    wpAny (model W.prog W.w) A (boolOp pos op (evalEach es env)) (PE W (frL frs env) H M s Q) Bot s
  t : ∀ {A : Around} {frs : List Env} {own : Addr → Prop} {env : Env} {m : List AV} {M : Mem} {Q : Prop → Mem → Prop} {H : FH} {s : Shared}, Cx W k sc ρ n A frs own env → Rel W frs own env ρ H m M s → x.t m M Q →
    wpAny (model W.prog W.w) A (allTrue op es env) (PB W (frL frs env) H M s Q) Bot s
theorem SndL.one {ex : Expr} {x : X} {op : BoolOp} (h : Snd W k sc ρ n ex x) : SndL W k sc ρ n op [ex] x where
  e := fun c pos R hv => h.e c R hv
  t := fun c R hv => by
    cases op
    · exact wpAny_allTrue_And_cons (wpAny_mono (h.t c R hv) (fun b s' h' => by cases b; exact h'; exact wpAny_allTrue_And_nil h') fun _ _ x => x)
    · exact wpAny_allTrue_Or_cons (wpAny_mono (h.t c R hv) (fun b s' h' => by cases b; exact wpAny_allTrue_Or_nil h'; exact h') fun _ _ x => x)
noncomputable def boolX (op : BoolOp) (a b : X) : X := match op with
  | .And => .and a b
  | .Or => .or a b
theorem SndL.cons {ex e2 : Expr} {r : List Expr} {a b : X} {op : BoolOp} (h : Snd W k sc ρ n ex a) (hr : SndL W k sc ρ n op (e2 :: r) b) : SndL W k sc ρ n op (ex :: e2 :: r) (boolX op a b) := by
  cases op
  · refine ⟨fun c pos R hv => boolOp_cons (ev_then (h.e c R hv) fun H1 M1 x v s1 S1 I1 V1 q1 => truth_sound V1 q1 fun b p hb hp => ?_), fun c R hv => wpAny_allTrue_And_cons (evb_then (h.t c R hv) fun H1 M1 b p s1 S1 I1 hb q1 => ?_)⟩
    · cases b
      · exact ⟨H1, M1, _, S1, I1, V1, hp.2 (fun q => Bool.noConfusion (hb.mpr q))⟩
      · exact PE.lift S1 (hr.e c pos (c.step R S1 I1) (hp.1 (hb.mp rfl)))
    · cases b
      · exact ⟨H1, M1, _, S1, I1, by simp, q1.2 (fun q => Bool.noConfusion (hb.mpr q))⟩
      · exact PB.lift S1 (hr.t c (c.step R S1 I1) (q1.1 (hb.mp rfl)))
  · refine ⟨fun c pos R hv => boolOp_cons (ev_then (h.e c R hv) fun H1 M1 x v s1 S1 I1 V1 q1 => truth_sound V1 q1 fun b p hb hp => ?_), fun c R hv => wpAny_allTrue_Or_cons (evb_then (h.t c R hv) fun H1 M1 b p s1 S1 I1 hb q1 => ?_)⟩
    · cases b
      · exact PE.lift S1 (hr.e c pos (c.step R S1 I1) (hp.2 (fun q => Bool.noConfusion (hb.mpr q))))
      · exact ⟨H1, M1, _, S1, I1, V1, hp.1 (hb.mp rfl)⟩
    · cases b
      · exact PB.lift S1 (hr.t c (c.step R S1 I1) (q1.2 (fun q => Bool.noConfusion (hb.mpr q))))
      · exact ⟨H1, M1, _, S1, I1, by simp, q1.1 (hb.mp rfl)⟩
theorem SndL.snd {e1 e2 : Expr} {r : List Expr} {x : X} {op : BoolOp} (h : SndL W k sc ρ n op (e1 :: e2 :: r) x) : Snd W k sc ρ n (.BoolOp op (e1 :: e2 :: r) pos) x :=
  ⟨fun c R hv => h.e c pos R hv, fun c R hv => wpAny_isTrue_BoolOp (h.t c R hv)⟩

theorem ite_snd {t a b : Expr} {t' a' b' : X} (ht : Snd W k sc ρ n t t') (ha : Snd W k sc ρ n a a') (hb : Snd W k sc ρ n b b') : Snd W k sc ρ n (.IfExp t a b pos) (.ite t' a' b') where
  e := fun c R hv => wpAny_IfExp (evb_then (ht.t c R hv) fun H1 M1 x p s1 S1 I1 hx q1 => by
    cases x
    · exact PE.lift S1 (hb.e c (c.step R S1 I1) (q1.2 (fun q => Bool.noConfusion (hx.mpr q))))
    · exact PE.lift S1 (ha.e c (c.step R S1 I1) (q1.1 (hx.mp rfl))))
  t := fun c R hv => isTrue_IfExp (evb_then (ht.t c R hv) fun H1 M1 x p s1 S1 I1 hx q1 => by
    cases x
    · exact PB.lift S1 (hb.t c (c.step R S1 I1) (q1.2 (fun q => Bool.noConfusion (hx.mpr q))))
    · exact PB.lift S1 (ha.t c (c.step R S1 I1) (q1.1 (hx.mp rfl))))

theorem cmp_of {l r : Expr} {cop : CmpOp} {f : List AV → Mem → (Prop → Mem → Prop) → Prop} (hb : behindInMarks cop r = false)
    (h : ∀ {A : Around} {frs : List Env} {own : Addr → Prop} {env : Env} {m : List AV} {M : Mem} {Q : Prop → Mem → Prop} {H : FH} {s : Shared}, Cx W k sc ρ n A frs own env → Rel W frs own env ρ H m M s → f m M Q → ∀ P : Value → Shared → Prop,
      (∀ (b : Bool) (s' : Shared), PB W (frL frs env) H M s Q b s' → P (.bool b) s') → wpAny (model W.prog W.w) A (eval l env) (fun v s1 => wpAny (model W.prog W.w) A (eval r env) (fun u s2 => wpAny (model W.prog W.w) A (compareOp cop v u) P Bot s2) Bot s1) Bot s) :
    Snd W k sc ρ n (.Compare l [cop] [r] pos) (.ofT f) where
  e := fun c R hv => wpAny_Compare1 (h c R hv _ fun b s' ⟨H', M', p, S, I, hb, hq⟩ => ⟨H', M', _, S, I, .bool _, hq b hb⟩) hb
  t := fun c R hv => wpAny_isTrue_Compare1 (h c R hv _ fun b s' y => wpAny_truthy_bool y) hb
theorem cmp_snd {l r : Expr} {op : Cm} {a b : X} (hl : Snd W k sc ρ n l a) (hr : Snd W k sc ρ n r b) (hb : behindInMarks (cmOf op) r = false) : Snd W k sc ρ n (.Compare l [cmOf op] [r] pos) (.cmp op a b) :=
  cmp_of hb fun c R hv P hP => ev_then (hl.e c R hv) fun H1 M1 x v s1 S1 I1 V1 q1 => ev_then (hr.e c (c.step R S1 I1) q1) fun H2 M2 y u s2 S2 I2 V2 q2 =>
    cmp_sound c.ha I2 (V1.mono (S2.le I1)) V2 q2 fun b p hb hp => hP b s2 ⟨H2, M2, p, S1.trans S2, I2, hb, hp⟩
theorem in_snd {l r : Expr} {a b : X} (hl : Snd W k sc ρ n l a) (hr : Snd W k sc ρ n r b) (hb : behindInMarks .In r = false) : Snd W k sc ρ n (.Compare l [.In] [r] pos) (.isin a b) :=
  cmp_of hb fun c R hv P hP => ev_then (hl.e c R hv) fun H1 M1 x v s1 S1 I1 V1 q1 => ev_then (hr.e c (c.step R S1 I1) q1) fun H2 M2 y u s2 S2 I2 V2 q2 =>
    in_sound I2 (V1.mono (S2.le I1)) V2 q2 fun b p hb hp => hP b s2 ⟨H2, M2, p, S1.trans S2, I2, hb, hp⟩
theorem isn_snd {l : Expr} {a : X} {kd : Nat} (neg : Bool) (hl : Snd W k sc ρ n l a) : Snd W k sc ρ n (.Compare l [if neg then .IsNot else .Is] [.Constant .none kd p] pos) (.isn neg a) :=
  cmp_of (by cases neg <;> rfl) fun c R hv P hP => ev_then (hl.e c R hv) fun H1 M1 x v s1 S1 I1 V1 q1 => wpAny_Constant_none (none_sound V1 neg (hP _ s1 ⟨H1, M1, _, S1, I1, .rfl, q1⟩))

theorem tchain2 {l r r' : Expr} {op op' : CmpOp} {E : Value → Shared → Prop} {P : Bool → Shared → Prop} {MM : Model} {whole : Sem Value} (hb : behindInMarks op' r' = false)
    (h : wpAny MM A (eval l env) (fun a s₁ => wpAny MM A (eval r env) (fun b s₂ => wpAny MM A (compareOp op a b) (fun c s₃ => wpAny MM A (truthy c) (fun t s₄ => match t with
      | true => wpAny MM A (eval r' env) (fun d s₅ => wpAny MM A (compareOp op' b d) (fun c' s₆ => wpAny MM A (truthy c') P E s₆) E s₅) E s₄
      | false => P false s₄) E s₃) E s₂) E s₁) E s) :
    wpAny MM A (PySem.isTrue (.Compare l [op, op'] [r, r'] pos) env whole) P E s := by
  show wpAny MM A (do testChain pos (← eval l env) [op, op'] (markedEach [op, op'] [r, r'] [eval r env, eval r' env])) P E s
  refine wpAny_bind (wpAny_mono h (fun a s₁ h₁ => ?_) fun _ _ x => x)
  rw [show markedEach [op, op'] [r, r'] [eval r env, eval r' env] = [eval r env, eval r' env] from congrArg (eval r env :: [·]) (markedBehindIn_of_false hb)]
  refine test_link (wpAny_mono h₁ (fun b s₂ h₂ => wpAny_mono h₂ (fun c s₃ h₃ => wpAny_mono h₃ (fun t s₄ h₄ => ?_) fun _ _ x => x) fun _ _ x => x) fun _ _ x => x)
  cases t
  · exact h₄
  · exact test_last h₄
theorem cmp2_snd {l r r' : Expr} {op op' : Cm} {a b d : X} (hl : Snd W k sc ρ n l a) (hr : Snd W k sc ρ n r b) (hr' : Snd W k sc ρ n r' d) (hb : behindInMarks (cmOf op') r' = false) : Snd W k sc ρ n (.Compare l [cmOf op, cmOf op'] [r, r'] pos) (.cmp2 op op' a b d) where
  e := fun c R hv => hv.elim
  t := fun c R hv => tchain2 hb (ev_then (hl.e c R hv) fun H1 M1 x v s1 S1 I1 V1 q1 => ev_then (hr.e c (c.step R S1 I1) q1) fun H2 M2 y u s2 S2 I2 V2 q2 =>
    cmp_sound c.ha I2 (V1.mono (S2.le I1)) V2 q2 fun b p hb hp => wpAny_truthy_bool (by
      cases b
      · exact ⟨H2, M2, _, S1.trans S2, I2, by simp, hp.2 (fun q => Bool.noConfusion (hb.mpr q))⟩
      · exact ev_then (hr'.e c (c.step (c.step R S1 I1) S2 I2) (hp.1 (hb.mp rfl))) fun H3 M3 z w s3 S3 I3 V3 q3 =>
          cmp_sound c.ha I3 (V2.mono (S3.le I2)) V3 q3 fun b p hb hp => wpAny_truthy_bool ⟨H3, M3, p, (S1.trans S2).trans S3, I3, hb, hp⟩))
end
end Vg
end
section
set_option autoImplicit false
set_option linter.all false
namespace Vg
open PySem PySem.W PyProof.Rows

noncomputable def notCall : Expr → Bool
  | .Call .. => false
  | _ => true
noncomputable def notStar : Expr → Bool
  | .Starred .. => false
  | _ => true
theorem attrBase {o : Expr} {attr : Str} {env : Env} {whole : Sem Value} (h : notCall o = true) : attributeBase o attr env whole = whole := by
  cases o <;> first | rfl | cases h
theorem starEach_cons {e : Expr} (h : notStar e = true) (r : List Expr) (env : Env) : starEach (e :: r) env = (false, eval e env) :: starEach r env := by
  cases e <;> first | rfl | cases h
theorem AOK.mono {A : Around} {k j : Nat} {frs : List Env} (ha : AOK A k frs) (h : j ≤ k) : AOK A j frs := ⟨ha.handled, by have := ha.depth; omega, by have := ha.units; omega, ha.frames⟩
theorem AOK.make {A : Around} {k j : Nat} {frs : List Env} {C : Addr} {pos : List Value} (ha : AOK A k frs) (h : j < k) : AOK (A.under (.builtin "type.__call__" ⟨.ref C :: pos, []⟩)) j frs :=
  ⟨ha.handled, by show A.depth + 1 + j + 120 < _; have := ha.depth; omega, by show A.units + 1 + 8 * j + 200 < _; have := ha.units; omega, ha.frames⟩

inductive Snds (W : Wd) (k : Nat) (sc : List (Str × NameKind)) (ρ : Rho) (n : Nat) : List Expr → List X → Prop
  | nil : Snds W k sc ρ n [] []
  | cons {e : Expr} {es : List Expr} {x : X} {xs : List X} : notStar e = true → Snd W k sc ρ n e x → Snds W k sc ρ n es xs → Snds W k sc ρ n (e :: es) (x :: xs)

section
variable {W : Wd} {k : Nat} {sc : List (Str × NameKind)} {ρ : Rho} {n : Nat} {A : Around} {frs : List Env} {own : Addr → Prop} {env : Env} {m : List AV} {M : Mem} {Q : AV → Mem → Prop} {H : FH} {s : Shared} {pos p : Pos} {es : List Expr} {xs : List X}

theorem args_sound (h : Snds W k sc ρ n es xs) (c : Cx W k sc ρ n A frs own env) : ∀ {M : Mem} {Q : List AV → Mem → Prop} {H : FH} {s : Shared}, Rel W frs own env ρ H m M s → evs xs m M Q →
    wpAny (model W.prog W.w) A (spliced (backTo pos (starEach es env))) (PL W (frL frs env) H M s fun ys M => ys.length = es.length ∧ Q ys M) Bot s := by
  induction h with
  | nil => exact fun R hv => args_nil ⟨_, _, [], Step.refl, R.inv, .nil, rfl, hv⟩
  | cons hs he _ ih => exact fun R hv => args_cons (ev_then (he.e c R hv) fun H' M' x v s' S1 I1 V1 hq => evl_then (ih (c.step R S1 I1) hq) fun H'' M'' xs vs s'' S2 I2 V2 hq2 =>
      ⟨H'', M'', x :: xs, S1.trans S2, I2, .cons (V1.mono (S2.le I1)) V2, congrArg Nat.succ hq2.1, hq2.2⟩) (starEach_cons hs _ env)
theorem Snds.star (h : Snds W k sc ρ n es xs) : (backTo pos (starEach es env)).any (·.1) = false := by
  induction h with
  | nil => rfl
  | cons hs _ _ ih => rw [starEach_cons hs]; exact ih
theorem evalArgs_sound (h : Snds W k sc ρ n es xs) {fv : Value} {Q : Args → Shared → Prop} {E : Value → Shared → Prop} (hw : wpAny (model W.prog W.w) A (spliced (backTo pos (starEach es env))) (fun vs s' => Q ⟨vs, []⟩ s') E s) :
    wpAny (model W.prog W.w) A (evalArgs fv true (backTo pos (starEach es env)) []) Q E s := by
  cases h with
  | nil =>
    unfold evalArgs
    show wpAny _ _ (spliced (backTo pos (starEach [] env)) >>= _) Q E s
    refine wpAny_bind (wpAny_mono hw (fun vs s' h' => wpAny_holding ?_) fun _ _ x => x)
    exact wpAny_bind (wpAny_pure (wpAny_bind (wpAny_pure (wpAny_pure h'))))
  | cons hs _ _ =>
    rw [starEach_cons hs] at hw ⊢
    exact Calls.evalArgs_plain hw

theorem call_snd (wok : WOK W) {x : Str} {xp : Pos} {fa : Addr} {T : Fun} {j : Nat} (hf : W.mg x = some (.ref fa) ∧ ∃ o fd, W.h₀.get? fa = some o ∧ o.data = .func fd) (hj : j < k) (hT : FSound W j fa T) (hd : (x == ("__debug__" : Str)) = false) (hg : sc.lookup x = some .globalImplicit) (hs : Snds W k sc ρ n es xs) :
    Snd W k sc ρ n (.Call (.Name x xp) es [] pos) (.call T xs) := by
  refine go1 fun G hG => ?_
  obtain ⟨t1, o, fd, t2, t3⟩ := hf
  refine hG ?_
  refine .of (fun zz => rfl) fun c R hv => Call_ (glob_name wok hg hd t1 c.ok R (Calls.callWith_function (o := o) (fd := fd) (evalArgs_sound hs ?_)))
  refine evl_then (args_sound hs c R hv) fun H1 M1 xs vs s1 S1 I1 V1 q1 => ⟨⟨I1.sub _ _ (I1.base _ _ t2), t3⟩, ?_⟩
  have q := hT _ _ _ q1.2
  refine wpAny_call (codeAny_mono (q _ _ (c.ha.mono (Nat.le_of_lt hj)) H1 s1 vs I1 (c.step R S1 I1).fi V1) fun r s' hr => ?_)
  cases r with
  | error e => exact hr
  | ok fl => cases fl with
    | ret v => exact PE.trans S1 (PE.weaken (fun b hb => .inl hb) hr)
    | _ => exact hr

theorem bi_sound (ok : EnvOK W env sc ρ own) (ha : AOK A k frs) (R : Rel W frs own env ρ H m M s) {f : Bi} {vs : List Value} {ys : List AV} (hv : VRs W H vs ys) (h : biP M f ys Q) :
    wpAny (model W.prog W.w) A (call (biOf f) vs) (PE W (frL frs env) H M s Q) (fun zz zz => False) s := by
  unfold biP at h
  split at h
  · refine go1 fun G hG => ?_
    obtain ⟨v, ws, rfl, V, V'⟩ := hv.inv
    refine hG ?_
    rw [V'.inv0]
    exact bi1_sound ok ha R V h
  · obtain ⟨v, ws, rfl, V, V'⟩ := hv.inv
    obtain ⟨u, ws, rfl, U, U'⟩ := V'.inv
    rw [U'.inv0]
    exact bi2_sound ok ha R V U h
  · obtain ⟨v, ws, rfl, V, V'⟩ := hv.inv
    obtain ⟨u, ws, rfl, U, U'⟩ := V'.inv
    obtain ⟨w, ws, rfl, Z, Z'⟩ := U'.inv
    rw [Z'.inv0]
    split at h
    · exact rng_sound R V U Z h
    · exact h.elim
  · exact h.elim
theorem bi_snd (wok : WOK W) {b : Bi} (hb : W.mg (biName b) = none) {xp : Pos} (hg : sc.lookup (biName b) = some .globalImplicit) (hs : Snds W k sc ρ n es xs) : Snd W k sc ρ n (.Call (.Name (biName b) xp) es [] pos) (.bi b xs) :=
  .of (fun zz => rfl) fun c R hv => Call_ (bi_name wok hb hg c.ok R (callWith_of (P := fun zz => True) (by rw [hs.star]; rfl) (fun h _ => ⟨.machine, .inr (.inl rfl), by cases b <;> exact Looks.of_pure rfl⟩) (evalArgs_sound hs
    (evl_then (args_sound hs c R hv) fun H1 M1 xs vs s1 S1 I1 V1 q1 => ⟨trivial, PE.lift S1 (bi_sound c.ok c.ha (c.step R S1 I1) V1 q1.2)⟩))))

theorem Inv.freeze {x : Addr} {o : Obj} (I : Inv W H M s) (hx : s.heap.get? x = some o) (hH : H x = none) (hM : M x = none) : Inv W (H.put x o) M s := by
  have hle := FH.le_put (o := o) hH
  refine ⟨fun b o' e => ?_, fun b o' e => hle b o' (I.base b o' e), fun b y e => let ⟨o', e1, e2⟩ := I.mem b y e; ⟨o', e1, e2.mono hle⟩, fun b y e => ?_⟩
  · unfold FH.put at e
    split at e
    · rename_i q; cases e; rw [q]; exact hx
    · exact I.sub b o' e
  · unfold FH.put
    rw [if_neg]
    · exact I.disj b y e
    · rintro rfl; rw [hM] at e; cases e

structure ClsOK (W : Wd) (x : Str) (c : Nat) (fi : Addr) : Prop where
  g : W.mg x = some (.ref (W.cls c))
  keep : keepIn W.K (.ref (W.cls c)) = true
  makes : makesIn W.K (W.cls c) = true
  init : findIn W.K (.ref (W.cls c)) "__init__" = some (some (.ref fi))
  fn : isFn W.K (.ref fi) = true
  lt : c < W.nc
theorem new_snd (wok : WOK W) {x : Str} {xp : Pos} {cl : Nat} {fi : Addr} {T : Fun} {j : Nat} (t : ClsOK W x cl fi) (hj : j < k) (hT : FSound W j fi T) (hd : (x == ("__debug__" : Str)) = false) (hg : sc.lookup x = some .globalImplicit) (hs : Snds W k sc ρ n es xs) :
    Snd W k sc ρ n (.Call (.Name x xp) es [] pos) (.new cl T xs) := by
  refine .of (fun zz => rfl) fun {A frs own env m M Q H s} c R hv => Call_ (glob_name wok hg hd t.g c.ok R (callWith_of (P := fun h => W.K.In h) (by rw [hs.star]; rfl) (keeps_K t.keep) (evalArgs_sound hs ?_)))
  refine evl_then (args_sound hs c R hv) fun H1 M1 xs vs s1 S1 I1 V1 q1 => ?_
  have R1 := c.step R S1 I1
  have ok := c.ok
  obtain ⟨mr, Fm⟩ := R1.fr ok
  refine ⟨wok.K.keeps Fm.keep, ?_⟩
  have q := q1.2
  obtain ⟨news, N, hf, _⟩ := full_news W.h₀ s1.heap env.locals
  refine call_cls Fm wok.K N t.makes t.init t.fn fun y dy h' F' N' l1 l2 => ?_
  have hy := N' _ (.head _)
  have hdy := N' _ (.tail _ (.head _))
  have dead : ∀ b, dy ≤ b → W.h₀.get? b = none → b ≠ env.locals → s1.heap.get? b = none := by
    intro b hb h0 hL
    cases e : s1.heap.get? b with
    | none => rfl
    | some o => exact absurd (l1 _ (hf b o e hL h0)) (Nat.not_lt.mpr hb)
  have d2 := dead y (Nat.le_of_lt l2) hy.2.2 hy.2.1
  obtain ⟨S2, I2, m2⟩ := new_trackedL (fr := frL frs env) (tk := s1.toks) (x := .flds []) I1 (dead dy (Nat.le_refl _) hdy.2.2 hdy.2.1) hdy.1 ⟨[], 0, rfl, .nil⟩ (.inr rfl) (R1.ow.off _ ok.ownL) (R1.ow.offM _ ok.ownL) Fm.ns F'.ns (fr_keeps hf Fm F' N' (fun p hp => .tail _ (.tail _ hp)))
  have dH := (I1.dead d2).1
  have I3 := I2.freeze hy.1 dH (by rw [Mem.set_ne _ _ (Nat.ne_of_gt l2)]; exact (I1.dead d2).2)
  have hle := FH.le_put (o := instObj (W.cls cl) dy) dH
  have S3 : Step none_ (frL frs env) H1 M1 s1 (H1.put y (instObj (W.cls cl) dy)) (M1.set dy (.flds [])) { s1 with heap := h', toks := s1.toks } :=
    ⟨S2.alive, S2.keep, S2.keepF, fun b o e => if_neg (fun q => by rw [q, d2] at e; cases e), S2.mem, S2.gens, S2.os⟩
  refine codeAny_mono (hT _ _ _ (q dy m2) _ frs (c.ha.make hj) _ _ (.ref y :: vs) I3 (c.step R1 S3 I3).fi (.cons (.inst (FH.put_self _ _ _) t.lt) (V1.mono hle))) fun r s' hr => ?_
  cases r with
  | error e => exact hr.elim
  | ok fl => cases fl with
    | ret v =>
      obtain ⟨H4, M4, z, S4, I4, V4, rfl, q4⟩ := hr
      cases V4
      exact ⟨rfl, H4, M4, _, (S1.trans S3).trans (S4.weaken (fun _ _ _ q => q) (fun b _ _ _ q => .inl q)), I4, .inst (S4.le I3 _ _ (FH.put_self _ _ _)) t.lt, q4⟩
    | _ => exact hr.elim

theorem at_snd (wok : WOK W) (gok : ∀ c i, c < W.nc → i < W.na → GetOK W c i) {o : Expr} {a : X} {i : Nat} (hn : notCall o = true) (hi : i < W.na) (h : Snd W k sc ρ n o a) : Snd W k sc ρ n (.Attribute o (W.attr i) pos) (.at a i) :=
  .of (fun zz => rfl) fun {A frs own env m M Q H s} c R hv => Attribute_any_ (ev_then (h.e c R hv) fun H1 M1 x v s1 S1 I1 V1 q1 => PE.lift S1 (at_sound wok gok c.ok (c.step R S1 I1) V1 hi q1)) (by
    show (do
      let x ← attributeBase o (W.attr i) env (eval o env)
      standAt pos.atName
      let r ← holding [x] (getAttr x (W.attr i) true)
      letTemporaryGo o x r
      pure r) = _
    rw [attrBase hn])

theorem slot_me (g : Me) : Slot "list" (meName g) (meId g) ∧ typeOf (.builtin (meId g)) = pure (.type "method_descriptor") := by
  cases g
  · exact ⟨F.slot_list_append, F.type_list_append⟩
  · exact ⟨F.slot_list_extend, F.type_list_extend⟩
  · exact ⟨F.slot_list_index, F.type_list_index⟩
  · exact ⟨F.slot_list_count, F.type_list_count⟩
theorem me_snd {o e : Expr} {a b : X} {g : Me} {ap : Pos} (h1 : notCall o = true) (h2 : notStar e = true) (h3 : (ap.endLine == pos.line) = true) (ho : Snd W k sc ρ n o a) (he : Snd W k sc ρ n e b) :
    Snd W k sc ρ n (.Call (.Attribute o (meName g) ap) [e] [] pos) (.me g a b) := by
  have hs : Snds W k sc ρ n [e] [b] := .cons h2 he .nil
  refine .of (fun zz => rfl) fun {A frs own env m M Q H s} c R hv => ?_
  have hst := starEach_cons h2 [] env
  have heq : eval (.Call (.Attribute o (meName g) ap) [e] [] pos) env = (do
      let ov ← eval o env
      standAt ap.atName
      let fx ← holding [ov] (getMethod ov (meName g) (do return (← importBound o env).getD true))
      callWith pos fx.1 fx.2 (backTo pos (starEach [e] env)) []) := by
    show (do
      let ov ← attributeBase o (meName g) env (eval o env)
      standAt ap.atName
      methodCall o (meName g) ap pos env ov 1 (backTo pos (starEach [e] env)) []) = _
    rw [attrBase h1]
    unfold methodCall
    rw [show methodCallForm 1 (backTo pos (starEach [e] env)) [] = true from by rw [hst]; rfl]
    unfold calleeOf methodCallPos
    simp only [h3, Bool.not_true, Bool.false_or, if_true]
    rfl
  rw [heq]
  refine wpAny_bind (ev_then (ho.e c R hv) fun H1 M1 x v s1 S1 I1 V1 q1 => ?_)
  refine wpAny_bind (wpAny_standAt (wpAny_bind (wpAny_holding ?_)))
  refine go1 fun G hG => ?_
  obtain ⟨l, vs, n', xs, rfl, e1, _⟩ := list_at I1 V1 q1.1
  obtain ⟨sl, ty⟩ := slot_me g
  refine hG ?_
  have R1 := c.step R S1 I1
  refine getMethod_list_of sl ty (isList_of e1) ⟨_, e1, rfl⟩ (Calls.callWith_builtin hs.star (evalArgs_sound hs ?_))
  rw [hst]
  show wpAny _ _ (spliced ((false, eval e env) :: [])) _ _ _
  exact Calls.spliced_cons (ev_then (he.e c R1 q1.2) fun H2 M2 y u s2 S2 I2 V2 q2 => Calls.spliced_nil (PE.lift (S1.trans S2) (me_sound (c.step R1 S2 I2) (V1.mono (S2.le I1)) V2 q2)))

theorem sub_snd {o i : Expr} {a b : X} (ho : Snd W k sc ρ n o a) (hi : Snd W k sc ρ n i b) : Snd W k sc ρ n (.Subscript o i pos) (.sub a b) :=
  .of (fun zz => rfl) fun c R hv => Subscript_ (ev_then (ho.e c R hv) fun H1 M1 x v s1 S1 I1 V1 q1 => ev_then (hi.e c (c.step R S1 I1) q1) fun H2 M2 y u s2 S2 I2 V2 q2 =>
    PE.lift (S1.trans S2) (sub_sound (c.step (c.step R S1 I1) S2 I2) (V1.mono (S2.le I1)) V2 q2))
theorem slP_ints {x y z : AV} (h : slP M x y z Q) : (∃ i, y = .int i) ∧ ∃ j, z = .int j := by
  unfold slP at h
  split at h
  · split at h
    · exact ⟨⟨_, rfl⟩, _, rfl⟩
    · exact h.elim
  · exact h.elim
theorem slh_snd {o hi : Expr} {a b : X} (ho : Snd W k sc ρ n o a) (hh : Snd W k sc ρ n hi b) : Snd W k sc ρ n (.Subscript o (.Slice none (some hi) none p) pos) (.slh a b) :=
  .of (fun zz => rfl) fun c R hv => Subscript_ (ev_then (ho.e c R hv) fun H1 M1 x v s1 S1 I1 V1 q1 => wpAny_Slice (wpAny_evalPart_none (wpAny_evalPart_some (ev_then (hh.e c (c.step R S1 I1) q1) fun H2 M2 y u s2 S2 I2 V2 q2 => wpAny_evalPart_none (by
    obtain ⟨_, j, rfl⟩ := slP_ints q2
    obtain ⟨t, rfl⟩ := V2.isInt
    exact wpAny_mono (slice_sound (c.step (c.step R S1 I1) S2 I2) (V1.mono (S2.le I1)) .none (.int j t) (.inr ⟨rfl, rfl⟩) q2) (fun _ _ y => PE.trans (S1.trans S2) y) fun _ _ e => e)))))
theorem slb_snd {o lo hi : Expr} {a l b : X} (ho : Snd W k sc ρ n o a) (hl : Snd W k sc ρ n lo l) (hh : Snd W k sc ρ n hi b) : Snd W k sc ρ n (.Subscript o (.Slice (some lo) (some hi) none p) pos) (.slb a l b) :=
  .of (fun zz => rfl) fun c R hv => Subscript_ (ev_then (ho.e c R hv) fun H1 M1 x v s1 S1 I1 V1 q1 => wpAny_Slice (wpAny_evalPart_some (ev_then (hl.e c (c.step R S1 I1) q1) fun H2 M2 y u s2 S2 I2 V2 q2 =>
    wpAny_evalPart_some (ev_then (hh.e c (c.step (c.step R S1 I1) S2 I2) q2) fun H3 M3 z w s3 S3 I3 V3 q3 => wpAny_evalPart_none (by
      obtain ⟨⟨i, rfl⟩, j, rfl⟩ := slP_ints q3
      obtain ⟨t, rfl⟩ := V3.isInt
      obtain ⟨t2, rfl⟩ := V2.isInt
      exact wpAny_mono (slice_sound (c.step (c.step (c.step R S1 I1) S2 I2) S3 I3) ((V1.mono (S2.le I1)).mono (S3.le I2)) (.int i t2) (.int j t) (.inl rfl) q3) (fun _ _ y => PE.trans ((S1.trans S2).trans S3) y) fun _ _ e => e)))))
theorem list_snd (hs : Snds W k sc ρ n es xs) : Snd W k sc ρ n (.List es pos) (.lst xs) :=
  .of (fun zz => rfl) fun c R hv => List_ (evl_then (args_sound hs c R hv) fun H1 M1 xs vs s1 S1 I1 V1 q1 =>
    wpAny_newObj_type (PE.trans S1 (PE.newList (n := 0) I1 q1.2 V1 (fresh_none _) (Heap.get?_push_size _ rfl) fun b o e => Heap.get?_push_of_some _ e)) (by show vs.toArray.size ≤ sizeLine; rw [List.size_toArray, V1.1]; exact sizeLine_ge (Nat.le_trans q1.2.1 (by decide))))
theorem tup_snd (hl : es.length ≤ 2000000) (hs : Snds W k sc ρ n es xs) {kd : Nat} : Snd W k sc ρ n (.Tuple es kd pos) (.tup xs) :=
  .of (fun zz => rfl) fun c R hv => Tuple_ (evl_then (args_sound hs c R hv) fun H1 M1 xs vs s1 S1 I1 V1 q1 => by
    have hz : vs.length ≤ 2000000 := V1.1 ▸ q1.1 ▸ hl
    obtain ⟨x1, x2, x3⟩ := new_frozen (own := none_) (fr := frL _ _) (tk := s1.toks) I1 (fresh_none s1.heap) (Heap.get?_push_size (o := { cls := .type "tuple", data := .seq vs.toArray }) _ rfl) fun b o e => Heap.get?_push_of_some _ e
    exact wpAny_newObj_type ⟨_, M1, _, S1.trans x1, x2, .tup (FH.put_self _ _ _) rfl rfl hz V1.1 (V1.mono x3).2, q1.2⟩ (by show vs.toArray.size ≤ sizeLine; rw [List.size_toArray]; exact sizeLine_ge (Nat.le_trans hz (by decide))))
end
end Vg
end
section
set_option autoImplicit false
set_option linter.all false
namespace Vg
open PySem PySem.W PyProof.Rows

noncomputable def ItAt (h : Heap) (w : Value) (It : Addr) (i : Nat) (x : AV) : Prop := match x with
  | .rng a b c => (c = 1 ∨ c = -1) ∧ IsRangeIter h It (a + (i : Int) * c) (((rngL a b c).length : Int) - i) c
  | .tup _ => ∃ l, w = .ref l ∧ h.IsTupleIter It l i
  | _ => ∃ l, w = .ref l ∧ h.IsListIter It l i

theorem ItAt.at {h h' : Heap} {w : Value} {It : Addr} {i : Nat} {x : AV} (H : ItAt h w It i x) (k : ∀ o, h.get? It = some o → h'.get? It = some o) : ItAt h' w It i x := by
  unfold ItAt at H ⊢
  split at H
  · exact ⟨H.1, k _ H.2⟩
  · obtain ⟨l, e, o, h1, r⟩ := H; exact ⟨l, e, o, k o h1, r⟩
  · obtain ⟨l, e, hl⟩ := H; exact ⟨l, e, hl.at k⟩
theorem ItAt.alive {h : Heap} {w : Value} {It : Addr} {i : Nat} {x : AV} (H : ItAt h w It i x) : ∃ o, h.get? It = some o := by
  unfold ItAt at H
  split at H
  · exact ⟨_, H.2⟩
  · obtain ⟨l, e, o, h1, r⟩ := H; exact ⟨o, h1⟩
  · obtain ⟨l, e, o, h1, r⟩ := H; exact ⟨o, h1⟩

theorem rngL_len {a b c : Int} (hc : c = 1 ∨ c = -1) : ((rngL a b c).length : Int) = ((b - a) * c).toNat := by
  unfold rngL
  rcases hc with rfl | rfl
  · rw [if_pos rfl, List.length_map, List.length_range, Int.mul_one]
  · rw [if_neg (by decide), List.length_map, List.length_range, Int.mul_neg_one, Int.neg_sub]
theorem rngL_get {a b c : Int} (hc : c = 1 ∨ c = -1) {i : Nat} (h : i < (rngL a b c).length) : (rngL a b c)[i]? = some (.int (a + (i : Int) * c)) := by
  unfold rngL at h ⊢
  rcases hc with rfl | rfl
  · rw [if_pos rfl, List.length_map, List.length_range] at h
    rw [if_pos rfl, List.getElem?_map, List.getElem?_range h, Int.mul_one]; rfl
  · rw [if_neg (by decide), List.length_map, List.length_range] at h
    rw [if_neg (by decide), List.getElem?_map, List.getElem?_range h, Int.mul_neg_one]; rfl

theorem fits {x : Int} (h : -10000000 ≤ x ∧ x ≤ 10000000) : Builtin.Range.rangeFitsLong x = true := by
  unfold Builtin.Range.rangeFitsLong
  rw [Bool.and_eq_true, decide_eq_true_eq, decide_eq_true_eq]
  omega
theorem fitsW {x a b : Int} (h : a ≤ x ∧ x ≤ b) (k : decide (-10000000 ≤ a ∧ b ≤ 10000000) = true) : Builtin.Range.rangeFitsLong x = true := fits ⟨Int.le_trans (of_decide_eq_true k).1 h.1, Int.le_trans h.2 (of_decide_eq_true k).2⟩
theorem rng_small {a b c : Int} (ha : okR a) (hb : okR b) (hc : c = 1 ∨ c = -1) : Builtin.Range.rangeSize a b c = ((rngL a b c).length : Int) ∧ Builtin.Range.small a b c = true := by
  unfold okR at ha hb
  have hlen : Builtin.Range.rangeSize a b c = ((rngL a b c).length : Int) := by
    rw [rngL_len hc]
    rcases hc with rfl | rfl
    · rw [rangeSize_one]; split <;> omega
    · unfold Builtin.Range.rangeSize
      simp only [show ¬ ((-1 : Int) > 0) by decide, if_false, Int.neg_neg, Int.ediv_one]
      split <;> omega
  refine ⟨hlen, ?_⟩
  have h0 : 0 ≤ ((rngL a b c).length : Int) ∧ ((rngL a b c).length : Int) ≤ 4000000 := by
    rw [rngL_len hc]; rcases hc with rfl | rfl <;> omega
  unfold Builtin.Range.small
  rw [hlen]
  generalize ((rngL a b c).length : Int) = z at h0
  have hc' : -1 ≤ c ∧ c ≤ 1 := by rcases hc with rfl | rfl <;> decide
  clear hlen hc
  rw [fitsW ha rfl, fitsW hb rfl, fitsW h0 rfl, fitsW hc' rfl, fitsW ⟨Int.add_le_add hb.1 (Int.sub_le_sub_right hc'.1 1), Int.add_le_add hb.2 (Int.sub_le_sub_right hc'.2 1)⟩ rfl, fitsW ⟨Int.add_le_add hb.1 (Int.add_le_add_right hc'.1 1), Int.add_le_add hb.2 (Int.add_le_add_right hc'.2 1)⟩ rfl]
  simp

theorem items_ex {M : Mem} {x : AV} {P : List AV → Prop} (h : itemsP M x P) : ∃ xs, itemsP M x (fun ys => ys = xs) ∧ P xs := by
  cases x with
  | lst xs => exact ⟨xs, rfl, h⟩
  | tup xs => exact ⟨xs, rfl, h⟩
  | ref a => obtain ⟨xs, e, h⟩ := h; exact ⟨xs, ⟨xs, e, rfl⟩, h⟩
  | rng a b c => exact ⟨_, rfl, h⟩
  | _ => exact h.elim
theorem items_still {M M' : Mem} {x : AV} {xs : List AV} (h : itemsP M x fun ys => ys = xs) (h' : stillP M' x xs) : itemsP M' x fun ys => ys = xs := by
  cases x with
  | ref a => exact ⟨xs, h', rfl⟩
  | _ => exact h
theorem still_items {M : Mem} {x : AV} {xs : List AV} (h : itemsP M x fun ys => ys = xs) : stillP M x xs := by
  cases x with
  | ref a => obtain ⟨ys, e, rfl⟩ := h; exact e
  | _ => trivial

section
variable {W : Wd} {H : FH} {M : Mem} {s : Shared} {A : Around} {w : Value} {x : AV} {xs : List AV} {It : Addr}

theorem items_at (I : Inv W H M s) (hw : VR W H w x) (hx : itemsP M x fun ys => ys = xs) :
    (∃ a vs, w = .ref a ∧ s.heap.IsList a vs.toArray ∧ VRs W H vs xs ∧ ∀ h It i, ItAt h w It i x ↔ h.IsListIter It a i) ∨ (∃ a vs, w = .ref a ∧ IsTup s.heap a vs.toArray ∧ VRs W H vs xs ∧ ∀ h It i, ItAt h w It i x ↔ h.IsTupleIter It a i) ∨
    (∃ a b c r t u v, x = .rng a b c ∧ w = .ref r ∧ s.heap.get? r = some { cls := .type "range", dict := Option.none, data := .fields #[.int a t, .int b u, .int c v], slots := #[] } ∧ okR a ∧ okR b ∧ (c = 1 ∨ c = -1) ∧ xs = rngL a b c) := by
  have li : ∀ {a : Addr} {h : Heap} {It : Addr} {i : Nat}, (∃ l, Value.ref a = .ref l ∧ h.IsListIter It l i) ↔ h.IsListIter It a i := ⟨fun ⟨l, e, q⟩ => by cases e; exact q, fun q => ⟨_, rfl, q⟩⟩
  cases hw with
  | lst h1 hb hl h2 => cases hx; exact .inl ⟨_, _, rfl, isList_of (I.sub _ _ h1), ⟨hl, h2⟩, fun zz zz zz => li⟩
  | ref b =>
    refine go1 fun G hG => ?_
    obtain ⟨ys, hm, rfl⟩ := hx
    obtain ⟨o, h1, vs, n, rfl, hb, h2⟩ := I.mem _ _ hm
    refine hG ?_
    exact .inl ⟨_, _, rfl, isList_of h1, h2, fun zz zz zz => li⟩
  | tup h1 h2 h3 hb hl h4 => cases hx; exact .inr (.inl ⟨_, _, rfl, ⟨_, I.sub _ _ h1, h2, _, h3⟩, ⟨hl, h4⟩, fun zz zz zz => ⟨fun ⟨l, e, q⟩ => by cases e; exact q, fun q => ⟨_, rfl, q⟩⟩⟩)
  | rng h1 h2 => cases hx; exact .inr (.inr ⟨_, _, _, _, _, _, _, rfl, rfl, I.sub _ _ h1, h2.1, h2.2.1, h2.2.2, rfl⟩)
  | _ => exact hx.elim

theorem iter_start (I : Inv W H M s) (hw : VR W H w x) (hx : itemsP M x fun ys => ys = xs) {Q : Value → Shared → Prop} {E : Value → Shared → Prop}
    (h : ∀ o, o.isFreed = false → ItAt (s.heap.push o) w s.heap.objs.size 0 x → Q (.ref s.heap.objs.size) { s with heap := s.heap.push o }) :
    wpAny (model W.prog W.w) A (pyIter w) Q E s := by
  rcases items_at I hw hx with ⟨a, vs, rfl, e1, e2, e3⟩ | ⟨a, vs, rfl, e1, e2, e3⟩ | ⟨a, b, c, r, t, u, v, rfl, rfl, e1, ha, hb, hc, rfl⟩
  · exact wpAny_pyIter_list e1 (h _ rfl ((e3 _ _ _).mpr ⟨_, Heap.get?_push_size _ rfl, rfl, rfl⟩))
  · exact wpAny_pyIter_tuple e1 (h _ rfl ((e3 _ _ _).mpr ⟨_, Heap.get?_push_size _ rfl, rfl, rfl⟩))
  · obtain ⟨hlen, hsm⟩ := rng_small ha hb hc
    refine wpAny_pyIter_range e1 hsm (h _ rfl ⟨hc, ?_⟩)
    have := Heap.get?_push_size s.heap (o := { cls := .type "range_iterator", data := .fields #[rawInt a, rawInt (Builtin.Range.rangeSize a b c), rawInt c] }) rfl
    rw [hlen] at this ⊢
    simpa using this

theorem iter_item (I : Inv W H M s) (hw : VR W H w x) (hx : itemsP M x fun ys => ys = xs) {i : Nat} (hi : i < xs.length) (hit : ItAt s.heap w It i x) {Q : Option Value → Shared → Prop} {E : Value → Shared → Prop}
    (h : ∀ u y h' tk, xs[i]? = some y → VR W H u y → ItAt h' w It (i + 1) x → Heap.SameBut It s.heap h' → Q (some u) { s with heap := h', toks := tk }) :
    wpAny (model W.prog W.w) A (pyNext (.ref It)) Q E s := by
  have hy : xs[i]? = some xs[i] := List.getElem?_eq_getElem hi
  rcases items_at I hw hx with ⟨a, vs, rfl, e1, e2, e3⟩ | ⟨a, vs, rfl, e1, e2, e3⟩ | ⟨a, b, c, r, t, u, v, rfl, rfl, e1, ha, hb, hc, rfl⟩
  · obtain ⟨u, hu, hv⟩ := e2.get hy
    exact wpAny_pyNext_list_item ((e3 _ _ _).mp hit) e1 (by simpa using hu) fun h' h1 h2 => h u _ h' s.toks hy hv ((e3 _ _ _).mpr h1) h2
  · obtain ⟨u, hu, hv⟩ := e2.get hy
    exact wpAny_pyNext_tuple_item ((e3 _ _ _).mp hit) e1 (by simpa using hu) fun h' h1 h2 => h u _ h' s.toks hy hv ((e3 _ _ _).mpr h1) h2
  · refine wpAny_pyNext_range_item hit.2 (by omega) fun h' g1 g2 => h _ _ h' _ (rngL_get hc hi) (.int _ _) ⟨hc, ?_⟩ g2
    rw [show a + (i : Int) * c + c = a + ((i + 1 : Nat) : Int) * c from by rcases hc with rfl | rfl <;> (push_cast; lia), show ((rngL a b c).length : Int) - i - 1 = ((rngL a b c).length : Int) - ((i + 1 : Nat) : Int) from by push_cast; lia] at g1
    exact g1

theorem iter_done (hA : A.handled = none) (I : Inv W H M s) (hw : VR W H w x) (hx : itemsP M x fun ys => ys = xs) (hit : ItAt s.heap w It xs.length x) {Q : Option Value → Shared → Prop} {E : Value → Shared → Prop}
    (h : ∀ h', Heap.ExtBut It s.heap h' → Q none { s with heap := h' }) :
    wpAny (model W.prog W.w) A (pyNext (.ref It)) Q E s := by
  rcases items_at I hw hx with ⟨a, vs, rfl, e1, e2, e3⟩ | ⟨a, vs, rfl, e1, e2, e3⟩ | ⟨a, b, c, r, t, u, v, rfl, rfl, e1, ha, hb, hc, rfl⟩
  · exact wpAny_pyNext_list_end hA ((e3 _ _ _).mp hit) e1 (by simp [e2.1]) h
  · exact wpAny_pyNext_tuple_end hA ((e3 _ _ _).mp hit) e1 (by simp [e2.1]) h
  · exact wpAny_pyNext_range_end hA hit.2 (by lia) h
theorem iter_self (hit : ItAt s.heap w It 0 x) {Q : Value → Shared → Prop} {E : Value → Shared → Prop} (h : Q (.ref It) s) : wpAny (model W.prog W.w) A (pyIter (.ref It)) Q E s := by
  unfold ItAt at hit
  split at hit
  · exact wpAny_pyIter_rangeiter hit.2 h
  · obtain ⟨l, e, hl⟩ := hit; exact wpAny_pyIter_tupleiter hl h
  · obtain ⟨l, e, hl⟩ := hit; exact wpAny_pyIter_listiter hl h
end

section
variable {W : Wd} {own fr fr' : Addr → Prop} {H H' H'' : FH} {M M' M'' : Mem} {s s' s'' : Shared}

theorem Step.trans_new {own' : Addr → Prop} (x : Step own fr H M s H' M' s') (y : Step own' fr' H' M' s' H'' M'' s'') (h : ∀ b o, s.heap.get? b = some o → ¬ own b → (own' b ∨ fr' b) → fr b)
    (h2 : ∀ b m, s.heap.Ns b m → ¬ own b → ¬ own' b) : Step own fr H M s H'' M'' s'' where
  alive := fun b o e => let ⟨o', e'⟩ := x.alive b o e; y.alive b o' e'
  keep := fun b o e hM ho hf => y.keep b o (x.keep b o e hM ho hf) (x.mem b o e hM) (fun q => hf (h b o e ho (.inl q))) (fun q => hf (h b o e ho (.inr q)))
  keepF := fun b m e hM ho => y.keepF b m (x.keepF b m e hM ho) (by obtain ⟨o, _, _, h1, _⟩ := e; exact x.mem b o h1 hM) (h2 b m e ho)
  agr := fun b o e => let ⟨o', e'⟩ := x.alive b o e; (y.agr b o' e').trans (x.agr b o e)
  mem := fun b o e hM => let ⟨o', e'⟩ := x.alive b o e; y.mem b o' e' (x.mem b o e hM)
  gens := y.gens.trans x.gens
  os := y.os.trans x.os

theorem Step.dead {a : Addr} {h' : Heap} {tk : Nat} (x : Step own fr H M s H' M' s') (ha : s.heap.get? a = none) (k : ∀ b o, b ≠ a → s'.heap.get? b = some o → h'.get? b = some o) : Step own fr H M s H' M' { s' with heap := h', toks := tk } where
  alive := fun b o e => let ⟨o', e'⟩ := x.alive b o e; ⟨o', k b o' (by rintro rfl; rw [ha] at e; cases e) e'⟩
  keep := fun b o e hM ho hf => k b o (by rintro rfl; rw [ha] at e; cases e) (x.keep b o e hM ho hf)
  keepF := fun b m e hM ho => (x.keepF b m e hM ho).at' fun o' e' => k b o' (by rintro rfl; obtain ⟨o, _, _, h1, _⟩ := e; rw [ha] at h1; cases h1) e'
  agr := x.agr
  mem := x.mem
  gens := x.gens
  os := x.os
theorem Inv.but {a : Addr} {h' : Heap} {tk : Nat} (I : Inv W H M s) (hH : H a = none) (hM : M a = none) (k : ∀ b o, b ≠ a → s.heap.get? b = some o → h'.get? b = some o) : Inv W H M { s with heap := h', toks := tk } where
  sub := fun b o e => k b o (by rintro rfl; rw [hH] at e; cases e) (I.sub b o e)
  base := I.base
  mem := fun b x e => let ⟨o, e1, e2⟩ := I.mem b x e; ⟨o, k b o (by rintro rfl; rw [hM] at e; cases e) e1, e2⟩
  disj := I.disj

theorem Step.one {a : Addr} {h' : Heap} {tk : Nat} (ha : own a) (hal : ∃ o, h'.get? a = some o) (k : ∀ b o, b ≠ a → s.heap.get? b = some o → h'.get? b = some o) : Step own fr H M s H M { s with heap := h', toks := tk } where
  alive := fun b o e => by
    by_cases q : b = a
    · subst q; exact hal
    · exact ⟨o, k b o q e⟩
  keep := fun b o e _ ho _ => k b o (by rintro rfl; exact ho ha) e
  keepF := fun b m e _ ho => e.at' fun o' e' => k b o' (by rintro rfl; exact ho ha) e'
  agr := fun zz zz zz => rfl
  mem := fun _ _ _ e => e
  gens := rfl
  os := rfl
end


section
variable {W : Wd} {frs : List Env} {own : Addr → Prop} {env : Env} {sc : List (Str × NameKind)} {ρ : Rho} {H : FH} {m : List AV} {M : Mem} {s : Shared}

theorem Rel.but {a : Addr} {h' : Heap} {tk : Nat} (ok : EnvOK W env sc ρ own) (R : Rel W frs own env ρ H m M s) (hH : H a = none) (hM : M a = none) (hO : ¬ own a) (hF : ¬ frOf frs a) (k : ∀ b o, b ≠ a → s.heap.get? b = some o → h'.get? b = some o) :
    Rel W frs own env ρ H m M { s with heap := h', toks := tk } where
  inv := R.inv.but hH hM k
  loc := by
    refine ⟨?_, fun x i c h1 h2 h3 => ?_⟩
    · obtain ⟨mr, hn, hv⟩ := R.loc.ns
      exact ⟨mr, hn.at' fun o e => k _ o (by rintro q; exact hO (q ▸ ok.ownL)) e, hv⟩
    · refine go1 fun G hG => ?_
      obtain ⟨ov, ⟨o, e1, e2⟩, hv⟩ := R.loc.cell x i c h1 h2 h3
      refine hG ?_
      exact ⟨ov, ⟨o, k _ o (by rintro q; exact hO (q ▸ ok.ownC x c h3)) e1, e2⟩, hv⟩
  ow := ⟨fun b hb => let ⟨o, e⟩ := R.ow.alive b hb; ⟨o, k b o (by rintro rfl; exact hO hb) e⟩, R.ow.off, R.ow.offM⟩
  fi := ⟨fun e he => by
    refine go1 fun G hG => ?_
    obtain ⟨h0, L, h1, h2, mm, h3⟩ := R.fi.fun_ e he
    refine hG ?_
    exact ⟨h0, L, h1, h2, mm, h3.at' fun o e' => k _ o (by rintro rfl; exact hF ⟨e, he, h1⟩) e'⟩, R.fi.off, R.fi.offM⟩
  cf := R.cf

theorem getD_ne {m : List AV} {i j : Nat} {x d : AV} (h : j ≠ i) : (m.set i x).getD j d = m.getD j d := by
  rw [List.getD_eq_getElem?_getD, List.getD_eq_getElem?_getD, List.getElem?_set_ne (Ne.symm h)]
theorem getD_at {m : List AV} {i : Nat} {x : AV} (h : (m.set i x).getD i .undef ≠ .undef) : (m.set i x).getD i .undef = x := by
  rw [List.getD_eq_getElem?_getD, List.getElem?_set_self'] at h ⊢
  cases q : m[i]? with
  | none => rw [q] at h; exact absurd rfl h
  | some _ => rfl

theorem store_sound {A : Around} {x : Str} {i : Nat} {v : Value} {y : AV} (ok : EnvOK W env sc ρ own) (R : Rel W frs own env ρ H m M s) (hx : ρ.lookup x = some i) (hk : env.kindOf x = some .local ∨ env.kindOf x = some .cell) (hv : VR W H v y)
    {Q : Unit → Shared → Prop} {E : Value → Shared → Prop}
    (h : ∀ a h' tk, own a → (a = env.locals ∨ (env.cells.lookup x = some a ∧ ¬ frOf frs a)) → (∃ o, h'.get? a = some o) → (∀ b o, b ≠ a → s.heap.get? b = some o → h'.get? b = some o) → Rel W frs own env ρ H (m.set i y) M { s with heap := h', toks := tk } → Q () { s with heap := h', toks := tk }) :
    wpAny (model W.prog W.w) A (storeName env x v) Q E s := by
  have hH : ∀ a, own a → H a = none := R.ow.off
  have hM : ∀ a, own a → M a = none := R.ow.offM
  -- what every change has in common
  have common : ∀ a h' tk, own a → (∃ o, h'.get? a = some o) → (∀ b o, b ≠ a → s.heap.get? b = some o → h'.get? b = some o) → (∀ b, frOf frs b → b = a → ∃ mm, h'.Ns b mm) → Loc W H env ρ (m.set i y) h' →
      Rel W frs own env ρ H (m.set i y) M { s with heap := h', toks := tk } := by
    intro a h' tk ha hal k hns hl
    refine ⟨R.inv.but (hH a ha) (hM a ha) k, hl, ⟨fun b hb => ?_, R.ow.off, R.ow.offM⟩, ⟨fun e he => ?_, R.fi.off, R.fi.offM⟩, R.cf⟩
    · by_cases q : b = a
      · subst q; exact hal
      · obtain ⟨o, e⟩ := R.ow.alive b hb; exact ⟨o, k b o q e⟩
    · refine go1 fun G hG => ?_
      obtain ⟨h0, L, h1, h2, mm, h3⟩ := R.fi.fun_ e he
      refine hG ?_
      by_cases q : L = a
      · exact ⟨h0, L, h1, h2, hns L ⟨e, he, h1⟩ q⟩
      · exact ⟨h0, L, h1, h2, mm, h3.at' fun o e' => k _ o q e'⟩
  rcases hk with hk | hk
  · obtain ⟨mr, hn, hvs⟩ := R.loc.ns
    refine wpAny_storeName_local hk hn (fun h' hn' hs' => ?_) (by rw [ok.fn]; rfl)
    have k : ∀ b o, b ≠ env.locals → s.heap.get? b = some o → h'.get? b = some o := fun b o q e => hs'.extBut b o q e
    have hal : ∃ o, h'.get? env.locals = some o := by obtain ⟨o, _, _, e, _⟩ := id hn'; exact ⟨o, e⟩
    refine h env.locals h' _ ok.ownL (.inl rfl) hal k (common env.locals h' _ ok.ownL hal k (fun b _ q => ⟨_, q ▸ hn'⟩) ⟨⟨_, hn', fun z j h1 h2 h3 => ?_⟩, fun z j c h1 h2 h3 => ?_⟩)
    · by_cases q : z = x
      · subst q
        rw [hx] at h1; cases h1
        exact ⟨v, if_pos rfl, by rw [getD_at h3]; exact hv⟩
      · have q' : j ≠ i := fun e => q (ok.inj z x i (e ▸ h1) hx)
        rw [getD_ne q'] at h3 ⊢
        rw [if_neg q]
        exact hvs z j h1 h2 h3
    · have q : z ≠ x := fun e => h2 (e ▸ hk)
      have q' : j ≠ i := fun e => q (ok.inj z x i (e ▸ h1) hx)
      obtain ⟨ov, ⟨o, e1, e2⟩, e3⟩ := R.loc.cell z j c h1 h2 h3
      refine ⟨ov, ⟨o, k c o (ok.cne z c h3) e1, e2⟩, fun h4 => ?_⟩
      rw [getD_ne q'] at h4 ⊢
      exact e3 h4
  · have hnl : env.kindOf x ≠ some .local := by rw [hk]; decide
    obtain ⟨c, hc⟩ : ∃ c, env.cells.lookup x = some c := by
      rcases ok.kind x i hx with q | ⟨_, q⟩
      · exact absurd q hnl
      · exact q
    obtain ⟨ov, hcell, _⟩ := R.loc.cell x i c hx hnl hc
    refine wpAny_storeName_cell ok.fn hk hc hcell fun h' hc' hs' => ?_
    have k : ∀ b o, b ≠ c → s.heap.get? b = some o → h'.get? b = some o := fun b o q e => hs'.extBut b o q e
    have hal : ∃ o, h'.get? c = some o := by obtain ⟨o, e, _⟩ := hc'; exact ⟨o, e⟩
    refine h c h' s.toks (ok.ownC x c hc) (.inr ⟨hc, R.cf x c hc⟩) hal k (common c h' s.toks (ok.ownC x c hc) hal k (fun b hb q => absurd (q ▸ hb) (R.cf x c hc)) ⟨?_, fun z j c' h1 h2 h3 => ?_⟩)
    · obtain ⟨mr, hn, hvs⟩ := R.loc.ns
      refine ⟨mr, hn.at' fun o e => k _ o (Ne.symm (ok.cne x c hc)) e, fun z j h1 h2 h3 => ?_⟩
      have q : z ≠ x := fun e => hnl (e ▸ h2)
      have q' : j ≠ i := fun e => q (ok.inj z x i (e ▸ h1) hx)
      rw [getD_ne q'] at h3 ⊢
      exact hvs z j h1 h2 h3
    · by_cases q : z = x
      · subst q
        rw [hx] at h1; cases h1
        rw [hc] at h3; cases h3
        exact ⟨some v, hc', fun h4 => ⟨v, rfl, by rw [getD_at h4]; exact hv⟩⟩
      · have q' : j ≠ i := fun e => q (ok.inj z x i (e ▸ h1) hx)
        obtain ⟨ov', ⟨o, e1, e2⟩, e3⟩ := R.loc.cell z j c' h1 h2 h3
        refine ⟨ov', ⟨o, k c' o (fun e => q (ok.cinj z x c' h3 (e ▸ hc))) e1, e2⟩, fun h4 => ?_⟩
        rw [getD_ne q'] at h4 ⊢
        exact e3 h4
end

theorem cells_one {x : Str} : ∀ (names : List (Str × NameKind)), (∀ p, p ∈ names → p.2 = .cell → p.1 = x) → (names.map (·.1)).Nodup → ∀ (n : Nat) (acc : List (Str × Addr)) (h : Heap),
    (names.lookup x = some .cell ∧ cellsFrom n names acc = (x, n) :: acc ∧ pushCells h names = h.push { cls := .type "cell", data := .cell none }) ∨
    (names.lookup x ≠ some .cell ∧ cellsFrom n names acc = acc ∧ pushCells h names = h) := by
  have nocell : ∀ (names : List (Str × NameKind)), (∀ p, p ∈ names → p.2 ≠ .cell) → ∀ (n : Nat) (acc : List (Str × Addr)) (h : Heap), cellsFrom n names acc = acc ∧ pushCells h names = h := by
    intro names
    induction names with
    | nil => intro _ n acc h; exact ⟨rfl, rfl⟩
    | cons p r ih =>
      obtain ⟨y, kd⟩ := p
      intro hk n acc h
      have : (kd == NameKind.cell) = false := by have := hk (y, kd) (.head _); cases kd <;> first | rfl | exact absurd rfl this
      unfold cellsFrom pushCells
      rw [this]
      simp only [Bool.false_eq_true, if_false]
      exact ih (fun p hp => hk p (.tail _ hp)) n acc h
  intro names
  induction names with
  | nil => intro _ _ n acc h; right; exact ⟨by simp, rfl, rfl⟩
  | cons p r ih =>
    obtain ⟨y, kd⟩ := p
    intro hk hnd n acc h
    rw [List.map_cons, List.nodup_cons] at hnd
    by_cases q : kd = .cell
    · subst q
      have hy : y = x := hk (y, .cell) (.head _) rfl
      subst hy
      left
      obtain ⟨e1, e2⟩ := nocell r (fun p hp hc => hnd.1 (List.mem_map.mpr ⟨p, hp, hk p (.tail _ hp) hc⟩)) (n + 1) ((y, n) :: acc) (h.push { cls := .type "cell", data := .cell none })
      refine ⟨by simp, ?_, ?_⟩
      · unfold cellsFrom; simp only [beq_self_eq_true, if_true]; exact e1
      · unfold pushCells; simp only [beq_self_eq_true, if_true]; exact e2
    · have hb : (kd == NameKind.cell) = false := by cases kd <;> first | rfl | exact absurd rfl q
      unfold cellsFrom pushCells
      rw [hb]
      simp only [Bool.false_eq_true, if_false]
      rw [List.lookup_cons]
      by_cases qx : x = y
      · subst qx
        right
        obtain ⟨e1, e2⟩ := nocell r (fun p hp hc => hnd.1 (List.mem_map.mpr ⟨p, hp, hk p (.tail _ hp) hc⟩)) n acc h
        refine ⟨by simp [q], e1, e2⟩
      · have : (x == y) = false := by simpa using qx
        rw [this]
        exact ih (fun p hp => hk p (.tail _ hp)) hnd.2 n acc h

theorem closure_any {env : Env} : ∀ (names : List (Str × NameKind)), (∀ p, p ∈ names → p.2 = .free → ∃ c, env.cells.lookup p.1 = some c) → ∀ (acc : List (Str × Addr)),
    ∃ cl, (forIn names acc (fun p cs => if p.2 == .free then cellOf env p.1 >>= fun c => pure (ForInStep.yield ((p.1, c) :: cs)) else pure (ForInStep.yield cs)) : Sem (List (Str × Addr))) = pure cl ∧
      (∀ y c, cl.lookup y = some c → (acc.lookup y = some c ∨ ((y, NameKind.free) ∈ names ∧ env.cells.lookup y = some c))) ∧
      ∀ y, ((y, NameKind.free) ∈ names ∨ ∃ c, acc.lookup y = some c) → ∃ c, cl.lookup y = some c := by
  intro names
  induction names with
  | nil => intro _ acc; exact ⟨acc, rfl, fun y c h => .inl h, fun y h => h.elim (fun q => nomatch q) id⟩
  | cons p r ih =>
    obtain ⟨z, kd⟩ := p
    intro hk acc
    by_cases q : kd = .free
    · subst q
      obtain ⟨c, hc⟩ := hk (z, .free) (.head _) rfl
      obtain ⟨cl, e, h, hc2⟩ := ih (fun p hp => hk p (.tail _ hp)) ((z, c) :: acc)
      refine ⟨cl, ?_, fun y c' h' => ?_, fun y hy => hc2 y ?_⟩
      · rw [List.forIn_cons]
        simp only [beq_self_eq_true, if_true]
        have hco : cellOf env z = pure c := by unfold cellOf; rw [hc]
        rw [hco]
        exact e
      · rcases h y c' h' with h1 | ⟨h1, h2⟩
        · rw [List.lookup_cons] at h1
          by_cases qy : y = z
          · subst qy
            simp at h1; subst h1
            exact .inr ⟨.head _, hc⟩
          · rw [show (y == z) = false by simpa using qy] at h1
            exact .inl h1
        · exact .inr ⟨.tail _ h1, h2⟩
      · by_cases qy : y = z
        · subst qy; exact .inr ⟨c, by simp⟩
        · rcases hy with hy | ⟨c', hy⟩
          · rcases List.mem_cons.mp hy with e | e
            · cases e; exact absurd rfl qy
            · exact .inl e
          · exact .inr ⟨c', by rw [List.lookup_cons, show (y == z) = false by simpa using qy]; exact hy⟩
    · obtain ⟨cl, e, h, hc2⟩ := ih (fun p hp => hk p (.tail _ hp)) acc
      have hb : (kd == NameKind.free) = false := by cases kd <;> first | rfl | exact absurd rfl q
      refine ⟨cl, ?_, fun y c' h' => ?_, fun y hy => hc2 y ?_⟩
      · rw [List.forIn_cons]
        simp only [hb, Bool.false_eq_true, if_false]
        exact e
      · rcases h y c' h' with h1 | ⟨h1, h2⟩
        · exact .inl h1
        · exact .inr ⟨.tail _ h1, h2⟩
      · rcases hy with hy | hy
        · rcases List.mem_cons.mp hy with e | e
          · cases e; exact absurd rfl q
          · exact .inl e
        · exact .inr hy
noncomputable def compRho (ρ : Rho) (names : List (Str × NameKind)) (x : Str) (n : Nat) : Rho :=
  (x, n) :: names.filterMap fun p => if p.2 = .free then (ρ.lookup p.1).map fun i => (p.1, i) else none
noncomputable def compOK (ρ : Rho) (sc : List (Str × NameKind)) (scope : Scope) (x : Str) : Bool :=
  (scope.kind == .function) && ((scope.names.lookup x == some .local) || (scope.names.lookup x == some .cell)) &&
  (scope.names.all fun p => (p.2 == .local && (p.1 == x || p.1 == (".0" : Str))) || (p.2 == .cell && p.1 == x) || (p.2 == .free && p.1 != x && (ρ.lookup p.1).isSome && (sc.lookup p.1 == some .cell || sc.lookup p.1 == some .free)) || (p.2 == .globalImplicit && p.1 != x)) &&
  ((scope.names.all fun p => p.2 != .cell) || (scope.names.all fun p => p.2 != .free)) && decide ((scope.names.map (·.1)).Nodup) && x != (".0" : Str)
theorem lookup_of_mem {α : Type} {y : Str} {kd : α} : ∀ {names : List (Str × α)}, (names.map (·.1)).Nodup → (y, kd) ∈ names → names.lookup y = some kd
  | [], _, h => nomatch h
  | (z, k') :: r, hn, h => by
    rw [List.map_cons, List.nodup_cons] at hn
    rw [List.lookup_cons]
    rcases List.mem_cons.mp h with e | e
    · cases e; simp
    · have : y ≠ z := by rintro rfl; exact hn.1 (List.mem_map.mpr ⟨_, e, rfl⟩)
      rw [show (y == z) = false by simpa using this]
      exact lookup_of_mem hn.2 e

theorem relabel_lookup {scope : Scope} {env : Env} {y : Str} {kd : NameKind} (h : scope.names.lookup y = some kd) : (relabel scope env).names.lookup y = some kd ∨ (kd = .free ∧ (relabel scope env).names.lookup y = some .cell) := by
  unfold relabel
  dsimp only
  revert h
  generalize scope.names = names
  induction names with
  | nil => intro h; simp at h
  | cons p r ih =>
    obtain ⟨z, k'⟩ := p
    intro h
    rw [List.map_cons]
    rw [List.lookup_cons] at h
    cases q : y == z with
    | true =>
      rw [q] at h
      simp only [Option.some.injEq] at h
      subst h
      by_cases c : (k' == NameKind.free && env.scope.kind == ScopeKind.function && env.kindOf z == some NameKind.cell) = true
      · rw [if_pos c]
        right
        simp only [Bool.and_eq_true, beq_iff_eq] at c
        exact ⟨c.1.1, by rw [List.lookup_cons, q]⟩
      · rw [if_neg c]
        left
        rw [List.lookup_cons, q]
    | false =>
      rw [q] at h
      have h' := ih h
      by_cases c : (k' == NameKind.free && env.scope.kind == ScopeKind.function && env.kindOf z == some NameKind.cell) = true
      · rw [if_pos c, List.lookup_cons, q]; exact h'
      · rw [if_neg c, List.lookup_cons, q]; exact h'

theorem compRho_lookup {ρ : Rho} {names : List (Str × NameKind)} {x y : Str} {n i : Nat} (h : (compRho ρ names x n).lookup y = some i) : (y = x ∧ i = n) ∨ (y ≠ x ∧ (y, NameKind.free) ∈ names ∧ ρ.lookup y = some i) := by
  unfold compRho at h
  rw [List.lookup_cons] at h
  by_cases q : y = x
  · subst q
    simp at h
    exact .inl ⟨rfl, h.symm⟩
  · rw [show (y == x) = false by simpa using q] at h
    right
    have hm := mem_of_lookup h
    obtain ⟨p, hp, hf⟩ := List.mem_filterMap.mp hm
    split at hf
    · rename_i hfree
      obtain ⟨j, hj, e⟩ := Option.map_eq_some_iff.mp hf
      cases e
      exact ⟨q, by obtain ⟨a, b⟩ := p; simp at hfree; subst hfree; exact hp, hj⟩
    · cases hf

structure CompFacts (ρ : Rho) (sc : List (Str × NameKind)) (scope : Scope) (x : Str) : Prop where
  fn : scope.kind = .function
  kx : scope.names.lookup x = some .local ∨ scope.names.lookup x = some .cell
  cellx : ∀ p, p ∈ scope.names → p.2 = .cell → p.1 = x
  free : ∀ y, (y, NameKind.free) ∈ scope.names → y ≠ x ∧ (∃ i, ρ.lookup y = some i) ∧ (sc.lookup y = some .cell ∨ sc.lookup y = some .free)
  nd : (scope.names.map (·.1)).Nodup
theorem compOK_facts {ρ : Rho} {sc : List (Str × NameKind)} {scope : Scope} {x : Str} (h : compOK ρ sc scope x = true) : CompFacts ρ sc scope x := by
  unfold compOK at h
  simp only [Bool.and_eq_true, beq_iff_eq, decide_eq_true_eq, Bool.or_eq_true, List.all_eq_true] at h
  obtain ⟨⟨⟨⟨⟨h1, h2⟩, h3⟩, h4⟩, h5⟩, h6⟩ := h
  refine ⟨h1, h2, fun p hp hc => ?_, fun y hy => ?_, h5⟩
  · have := h3 p hp
    rw [hc] at this
    simp at this
    exact this
  · rcases h3 _ hy with ((⟨q, _⟩ | ⟨q, _⟩) | ⟨⟨⟨_, a⟩, b⟩, c⟩) | ⟨q, _⟩
    · cases q
    · cases q
    · exact ⟨by simpa using a, Option.isSome_iff_exists.mp b, c⟩
    · cases q

section
variable {W : Wd} {frs : List Env} {own : Addr → Prop} {env : Env} {sc : List (Str × NameKind)} {ρ : Rho} {H : FH} {m : List AV} {M : Mem} {s : Shared} {scope : Scope} {x : Str} {C C1 : Addr} {cs : List (Str × Addr)} {n : Nat}

noncomputable def ownX (own : Addr → Prop) (scope : Scope) (x : Str) (C C1 : Addr) (b : Addr) : Prop := own b ∨ b = C ∨ (scope.names.lookup x = some .cell ∧ b = C1)
structure CellsX (env : Env) (scope : Scope) (x : Str) (C1 : Addr) (cs : List (Str × Addr)) : Prop where
  of : ∀ y c, cs.lookup y = some c → (y = x ∧ c = C1 ∧ scope.names.lookup x = some .cell) ∨ (y ≠ x ∧ (y, NameKind.free) ∈ scope.names ∧ env.cells.lookup y = some c)
  ex : ∀ y, (y, NameKind.free) ∈ scope.names → ∃ c, cs.lookup y = some c
  exx : scope.names.lookup x = some .cell → ∃ c, cs.lookup x = some c

theorem comp_env (ok : EnvOK W env sc ρ own) (cf : CompFacts ρ sc scope x) (hρ : ∀ y i, ρ.lookup y = some i → i < n) (hcs : CellsX env scope x C1 cs) (hC : W.h₀.objs.size ≤ C) (hne : C1 ≠ C) (hown : ∀ b, own b → b ≠ C ∧ b ≠ C1) :
    EnvOK W (compEnvC scope cs C env) scope.names (compRho ρ scope.names x n) (ownX own scope x C C1) where
  fn := cf.fn
  glob := ok.glob
  bi := ok.bi
  above := hC
  ownL := .inr (.inl rfl)
  ownC := fun y c h => by
    rcases hcs.of y c h with ⟨_, rfl, hl⟩ | ⟨_, _, e⟩
    · exact .inr (.inr ⟨hl, rfl⟩)
    · exact .inl (ok.ownC y c e)
  gl := fun y h => by
    rcases relabel_lookup (env := env) h with e | ⟨e, _⟩
    · exact e
    · cases e
  same := fun y kd h => relabel_lookup h
  inj := fun y z i h1 h2 => by
    rcases compRho_lookup h1 with ⟨rfl, rfl⟩ | ⟨_, _, e1⟩ <;> rcases compRho_lookup h2 with ⟨rfl, e⟩ | ⟨_, _, e2⟩
    · rfl
    · exact absurd (hρ _ _ e2) (Nat.lt_irrefl _)
    · subst e; exact absurd (hρ _ _ e1) (Nat.lt_irrefl _)
    · exact ok.inj _ _ _ e1 e2
  kind := fun y i h => by
    rcases compRho_lookup h with ⟨rfl, rfl⟩ | ⟨hy, hm, e⟩
    · rcases cf.kx with hk | hk
      · rcases relabel_lookup (env := env) hk with e | ⟨e, _⟩
        · exact .inl e
        · cases e
      · rcases relabel_lookup (env := env) hk with e | ⟨e, _⟩
        · exact .inr ⟨.inl e, hcs.exx hk⟩
        · cases e
    · rcases relabel_lookup (env := env) (lookup_of_mem cf.nd hm) with e | ⟨_, e⟩
      · exact .inr ⟨.inr e, hcs.ex y hm⟩
      · exact .inr ⟨.inl e, hcs.ex y hm⟩
  cne := fun y c h => by
    rcases hcs.of y c h with ⟨_, rfl, hl⟩ | ⟨_, _, e⟩
    · exact hne
    · exact (hown c (ok.ownC y c e)).1
  cinj := fun y z c h1 h2 => by
    rcases hcs.of y c h1 with ⟨rfl, e1, _⟩ | ⟨_, _, e1⟩ <;> rcases hcs.of z c h2 with ⟨rfl, e2, _⟩ | ⟨_, _, e2⟩
    · rfl
    · exact absurd e1 (hown c (ok.ownC z c e2)).2
    · exact absurd e2 (hown c (ok.ownC y c e1)).2
    · exact ok.cinj _ _ _ e1 e2

theorem comp_rel {h' : Heap} {tk : Nat} (ok : EnvOK W env sc ρ own) (cf : CompFacts ρ sc scope x) (hρ : ∀ y i, ρ.lookup y = some i → i < n) (hcs : CellsX env scope x C1 cs) (R : Rel W frs own env ρ H m M s)
    (k : ∀ b o, s.heap.get? b = some o → h'.get? b = some o) (hC : s.heap.get? C = none) (hC1 : s.heap.get? C1 = none) (hns : h'.Ns C fun zz => none) (hcl : scope.names.lookup x = some .cell → h'.IsCell C1 none) :
    Rel W frs (ownX own scope x C C1) (compEnvC scope cs C env) (compRho ρ scope.names x n) H (m.set n .undef) M { s with heap := h', toks := tk } := by
  have d := R.inv.dead hC
  have d1 := R.inv.dead hC1
  refine ⟨R.inv.ext k, ⟨⟨_, hns, fun y i h1 h2 h3 => ?_⟩, fun y i c h1 h2 h3 => ?_⟩, ⟨fun b hb => ?_, fun b hb => ?_, fun b hb => ?_⟩, ⟨fun e he => ?_, R.fi.off, R.fi.offM⟩, fun y c h => ?_⟩
  · rcases compRho_lookup h1 with ⟨rfl, rfl⟩ | ⟨hy, hm, e⟩
    · exact absurd (getD_at h3) h3
    · have h2' : (relabel scope env).names.lookup y = some .local := h2
      rcases relabel_lookup (env := env) (lookup_of_mem cf.nd hm) with e | ⟨_, e⟩ <;> (rw [e] at h2'; cases h2')
  · rcases hcs.of y c h3 with ⟨rfl, rfl, hl⟩ | ⟨hy, hm, e⟩
    · refine ⟨none, hcl hl, fun q => ?_⟩
      rcases compRho_lookup h1 with ⟨_, rfl⟩ | ⟨hy, _⟩
      · exact absurd (getD_at q) q
      · exact absurd rfl hy
    · rcases compRho_lookup h1 with ⟨e', _⟩ | ⟨_, _, hi⟩
      · exact absurd e' hy
      · have hnl : env.kindOf y ≠ some .local := by
          rcases (cf.free y hm).2.2 with q | q <;> rcases ok.same y _ q with q' | ⟨_, q'⟩ <;> rw [q'] <;> decide
        obtain ⟨ov, hcell, hv⟩ := R.loc.cell y i c hi hnl e
        refine ⟨ov, hcell.keeps k, fun q => ?_⟩
        have : i ≠ n := Nat.ne_of_lt (hρ _ _ hi)
        rw [getD_ne this] at q ⊢
        exact hv q
  · rcases hb with hb | rfl | ⟨hl, rfl⟩
    · obtain ⟨o, e⟩ := R.ow.alive b hb; exact ⟨o, k b o e⟩
    · obtain ⟨o, _, _, e, _⟩ := hns; exact ⟨o, e⟩
    · obtain ⟨o, e, _⟩ := hcl hl; exact ⟨o, e⟩
  · rcases hb with hb | rfl | ⟨hl, rfl⟩
    · exact R.ow.off b hb
    · exact d.1
    · exact d1.1
  · rcases hb with hb | rfl | ⟨hl, rfl⟩
    · exact R.ow.offM b hb
    · exact d.2
    · exact d1.2
  · refine go1 fun G hG => ?_
    obtain ⟨h0, L, h1, h2, mm, h3⟩ := R.fi.fun_ e he
    refine hG ?_
    exact ⟨h0, L, h1, h2, mm, h3.keeps k⟩
  · rcases hcs.of y c h with ⟨rfl, rfl, hl⟩ | ⟨hy, hm, e⟩
    · intro q
      obtain ⟨o, _, e, _⟩ := R.fi.alive q
      rw [hC1] at e; cases e
    · exact R.cf y c e
end

theorem closureFor_any {env : Env} {scope : Scope} (h : ∀ p, p ∈ scope.names → p.2 = .free → ∃ c, env.cells.lookup p.1 = some c) :
    ∃ cl, closureFor scope env = pure cl ∧ (∀ y c, cl.lookup y = some c → (y, NameKind.free) ∈ scope.names ∧ env.cells.lookup y = some c) ∧ ∀ y, (y, NameKind.free) ∈ scope.names → ∃ c, cl.lookup y = some c := by
  refine go1 fun G hG => ?_
  obtain ⟨cl, h1, h2, h3⟩ := closure_any scope.names h []
  refine hG ?_
  refine ⟨cl, ?_, fun y c e => (h2 y c e).elim (fun q => by simp at q) id, fun y e => h3 y (.inl e)⟩
  have e : closureFor scope env = (forIn scope.names [] (fun p cs => if p.2 == .free then cellOf env p.1 >>= fun c => pure (ForInStep.yield ((p.1, c) :: cs)) else pure (ForInStep.yield cs)) : Sem (List (Str × Addr))) >>= pure := rfl
  rw [e, h1]
  rfl

theorem wpAny_newCompEnv {M : Model} {A : Around} {E : Value → Shared → Prop} {s : Shared} {scope : Scope} {cl : List (Str × Addr)} {env : Env} {Q : Env → Shared → Prop}
    (h : Q { scope, locals := s.heap.objs.size, globals := env.globals, cells := cellsFrom (s.heap.objs.size + 1) scope.names cl, qual := env.qual, func := none, code := env.code, frame := env.frame, builtins := env.builtins }
      { s with heap := pushCells (s.heap.push { cls := .type "dict", data := .dict #[] }) scope.names }) :
    wpAny M A (newFunctionEnv scope env.globals cl [] env.qual none .none (some env)) Q E s := by
  simp only [newFunctionEnv, Option.isSome_some, if_true]
  refine wpAny_bind (wpAny_alloc ?_)
  refine wpAny_bind (wpAny_layCells _ (fun name kind cells => by cases hkc : kind == NameKind.cell <;> simp [hkc]) _ _ _ _ ?_)
  rw [show ({ s with heap := s.heap.push { cls := .type "dict", data := .dict #[] } } : Shared).heap.objs.size = s.heap.objs.size + 1 from Heap.size_push ..]
  rw [List.forIn_nil]
  exact wpAny_bind (wpAny_pure (wpAny_pure h))
end Vg
end
section
set_option autoImplicit false
set_option linter.all false
namespace Vg
open PySem PySem.W PyProof.Rows

noncomputable def notSet : Expr → Bool
  | .Set .. => false
  | _ => true
theorem folded {it : Expr} (h : notSet it = true) (env : Env) (v : Value) : foldedSetIterable it env v = pure v := by
  unfold foldedSetIterable
  cases it <;> first | rfl | cases h
theorem Inv.track {W : Wd} {H : FH} {M : Mem} {s : Shared} {a : Addr} {o : Obj} {x : AO} (I : Inv W H M s) (hH : H a = none) (hg : s.heap.get? a = some o) (hr : OR W H o x) : Inv W H (M.set a x) s where
  sub := I.sub
  base := I.base
  mem := fun b y e => by
    unfold Mem.set at e
    split at e
    · rename_i q; subst q; cases e; exact ⟨o, hg, hr⟩
    · exact I.mem b y e
  disj := fun b y e => by
    unfold Mem.set at e
    split at e
    · rename_i q; subst q; exact hH
    · exact I.disj b y e
theorem Step.track {own fr : Addr → Prop} {H H' : FH} {M M' : Mem} {s s' : Shared} {a : Addr} {x : AO} (S : Step own fr H M s H' M' s') (ha : s.heap.get? a = none) : Step own fr H M s H' (M'.set a x) s' :=
  ⟨S.alive, S.keep, S.keepF, S.agr, fun b o e hM => by
    rw [Mem.set_ne _ _ (by rintro rfl; rw [ha] at e; cases e)]
    exact S.mem b o e hM, S.gens, S.os⟩

section
variable {W : Wd} {k : Nat} {sc : List (Str × NameKind)} {ρ : Rho} {n : Nat} {A : Around} {frs : List Env} {own : Addr → Prop} {env : Env} {m : List AV} {M : Mem} {Q : AV → Mem → Prop} {H : FH} {s : Shared} {pos p : Pos}

noncomputable def Ifs (W : Wd) (k : Nat) (sc : List (Str × NameKind)) (ρ : Rho) (n : Nat) (ifs : List Expr) (c : X) : Prop :=
  ∀ {A : Around} {frs : List Env} {own : Addr → Prop} {env : Env} {m : List AV} {M : Mem} {Q : Prop → Mem → Prop} {H : FH} {s : Shared}, Cx W k sc ρ n A frs own env → Rel W frs own env ρ H m M s → c.t m M Q →
    wpAny (model W.prog W.w) A (forIn ifs true fun c r => if r = true then do let ok ← PySem.isTrue c env (eval c env); pure (ForInStep.yield ok) else pure (ForInStep.yield r)) (PB W (frL frs env) H M s Q) Bot s
theorem Ifs.none : Ifs W k sc ρ n [] .yes := fun c R hv => wpAny_pure ⟨_, _, _, Step.refl, R.inv, by simp, hv⟩
theorem Ifs.one {e : Expr} {a : X} (h : Snd W k sc ρ n e a) : Ifs W k sc ρ n [e] a := fun c R hv => by
  rw [List.forIn_cons]
  simp only [if_true]
  exact wpAny_bind (wpAny_bind (evb_then (h.t c R hv) fun H1 M1 b p s1 S1 I1 hb q1 => wpAny_pure (wpAny_pure ⟨H1, M1, p, S1, I1, hb, q1⟩)))

noncomputable def CompDone (W : Wd) (fr : Addr → Prop) (H : FH) (M : Mem) (s : Shared) (Q : AV → Mem → Prop) (D C : Addr) (s' : Shared) : Prop :=
  ∃ H' M', Step none_ fr H M s H' M' s' ∧ Inv W H' M' s' ∧ Q (.ref D) M' ∧ (∃ mm, s'.heap.Ns C mm) ∧ s.heap.get? C = none ∧ H' C = none ∧ M' C = none

inductive Cof (v : Value) (xv : AV) (D It : Addr) (i : Nat) (vs : List Value) (H : FH) (M : Mem) (h : Heap) : Prop
  | mk (hD : h.PlainList D vs.toArray) (hit : ItAt h v It i xv) (a1 : H D = none) (a2 : M D = none) (a3 : H It = none) (a4 : M It = none)
theorem Cof.step {v : Value} {xv : AV} {D It : Addr} {i : Nat} {vs : List Value} {fr : Addr → Prop} {H' : FH} {M' : Mem} {s' : Shared} (c : Cof v xv D It i vs H M s.heap) (S : Step none_ fr H M s H' M' s') (nD : ¬ fr D) (nI : ¬ fr It) : Cof v xv D It i vs H' M' s'.heap := match c with
  | .mk ⟨_, eD⟩ hit a1 a2 a3 a4 => let ⟨_, eI⟩ := hit.alive
    .mk ⟨_, S.keep D _ eD a2 id nD⟩ (hit.at fun o e => S.keep It o e a4 id nI) ((S.agr D _ eD).trans a1) (S.mem D _ eD a2) ((S.agr It _ eI).trans a3) (S.mem It _ eI a4)
inductive CompI (W : Wd) (fr : Addr → Prop) (frs : List Env) (own' : Addr → Prop) (env' : Env) (ρ' : Rho) (n : Nat) (H1 : FH) (M1 : Mem) (s1 : Shared) (m : List AV) (xs : List AV) (v : Value) (It : Addr) (xv : AV) (D : Addr) (Iv : Nat → List AV → Mem → Prop) (i : Nat) (s' : Shared) : Prop
  | mk {H' : FH} {M' : Mem} {ys : List AV} {vs : List Value} {u : AV} (S1 : Step none_ fr H1 M1 s1 H' M' s') (R : Rel W frs own' env' ρ' H' (m.set n u) M' s') (Vs : VRs W H' vs ys) (c : Cof v xv D It i vs H' M' s'.heap) (st : stillP M' xv xs) (V : VR W H' v xv) (hi : i ≤ xs.length) (hy : ys.length ≤ i) (hI : Iv i ys M')
theorem comp_loop {elt it : Expr} {x : Str} {px : Pos} {ifs : List Expr} {scope : Scope} {elt' c' : X} {env' : Env} {sc' : List (Str × NameKind)} {ρ' : Rho} {own' fr : Addr → Prop} {D It : Addr} {M1 : Mem} {s1 : Shared} {v : Value} {xv : AV} {xs : List AV} {Iv : Nat → List AV → Mem → Prop}
    (ha : AOK A k frs) (okX : EnvOK W env' sc' ρ' own') (hρX : ∀ y i, ρ'.lookup y = some i → i < n + 1) (hx : ρ'.lookup x = some n) (kx : env'.kindOf x = some .local ∨ env'.kindOf x = some .cell)
    (h2 : Ifs W k sc' ρ' (n + 1) ifs c') (h3 : Snd W k sc' ρ' (n + 1) elt elt')
    (nI : ¬ own' It) (nD : ¬ own' D) (fI : ¬ frL frs env' It) (fD : ¬ frL frs env' D) (ne : It ≠ D) (gI : s1.heap.get? It = none) (gD : s1.heap.get? D = none)
    (gx : ∀ a, (a = env'.locals ∨ (env'.cells.lookup x = some a ∧ ¬ frOf frs a)) → s1.heap.get? a = none) (hf : ∀ b o, s1.heap.get? b = some o → frL frs env' b → fr b)
    (hxs : itemsP M1 xv fun ys => ys = xs) (hl : xs.length ≤ 1000000)
    (hIs : ∀ i x acc M, xs[i]? = some x → Iv i acc M → c'.t (m.set n x) M fun p M => (p → elt'.e (m.set n x) M fun y M => stillP M xv xs ∧ Iv (i + 1) (acc ++ [y]) M) ∧ (¬ p → stillP M xv xs ∧ Iv (i + 1) acc M))
    {use : Option (Value → Sem Unit)} {R' : Value → Shared → Prop}
    (hend : ∀ {H' M' ys s'}, Step none_ fr H M1 s1 H' (M'.set D (.list ys)) s' → Inv W H' (M'.set D (.list ys)) s' → Iv xs.length ys M' → M' D = none → (∃ mm, s'.heap.Ns env'.locals mm) → H' env'.locals = none → M' env'.locals = none → compPost (model W.prog W.w) A Bot use R' (.ref D) env'.locals (.ok .next) s')
    (hP : CompI W fr frs own' env' ρ' n H M1 s1 m xs v It xv D Iv 0 s) :
    codeAny (model W.prog W.w) A (.compLoop (.ListComp elt [⟨.Name x px, it, ifs, 0⟩] scope pos) 0 (.ref It) (.ref D) env') (compPost (model W.prog W.w) A Bot use R' (.ref D) env'.locals) s := by
  refine codeAny_compLoop_tests (fun j s' => ∃ i, j = xs.length + 1 - i ∧ CompI W fr frs own' env' ρ' n H M1 s1 m xs v It xv D Iv i s') ?_ (xs.length + 1) ⟨0, rfl, hP⟩
  rintro j s' ⟨i, rfl, ⟨Sn, R2, Vs, ⟨hD, hit, hDH, hDM, hIH, hIM⟩, hst, V2, hi, hys, hIi⟩⟩
  have hx2 := items_still hxs hst
  by_cases hlt : i < xs.length
  · refine wpAny_mono (E := Bot) (iter_item R2.inv V2 hx2 hlt hit fun a y h' tk hy Va hit' hsb => ?_) (fun _ _ e => e) fun _ _ e => e.elim
    refine wpAny_mono (E := Bot) (wpAny_assign_Name (store_sound (i := n) okX (R2.but (h' := h') (tk := tk) okX hIH hIM nI (fun q => fI (.inl q)) fun b o q e => hsb.extBut b o q e) hx kx Va fun aw h'' tk' hoa hea hal kk R4 => ?_)) (fun _ _ e => e) fun _ _ e => e.elim
    have co4 : Cof v xv D It (i + 1) _ _ _ h'' := ⟨(hD.extBut hsb.extBut (Ne.symm ne)).at fun o e => kk D o (fun q => nD (q ▸ hoa)) e, hit'.at fun o e => kk It o (fun q => nI (q ▸ hoa)) e, hDH, hDM, hIH, hIM⟩
    have Sn4 := (Sn.dead (a := It) (h' := h') (tk := tk) gI fun b o q e => hsb.extBut b o q e).dead (a := aw) (h' := h'') (tk := tk') (gx aw hea) kk
    rw [List.set_set] at R4
    clear hit' hsb kk hal hea hoa hit hD
    refine wpAny_mono (E := Bot) (evb_then (h2 ⟨ha, okX, hρX⟩ R4 (hIs i y _ _ hy hIi)) fun H5 M5 t p5 s5 S5 I5 hp5 q5 => ?_) (fun _ _ e => e) fun _ _ e => e.elim
    have R5 := R4.step okX S5 I5
    have le5 := S5.le R4.inv
    have Sb := Sn4.trans_new S5 (fun b o e _ q => q.elim False.elim (hf b o e)) fun _ _ _ q => q
    have co5 := co4.step S5 fD fI
    cases t with
    | false =>
      simp only [Bool.false_eq_true, if_false]
      obtain ⟨hs5, hc5⟩ := q5.2 (fun q => Bool.noConfusion (hp5.mpr q))
      exact ⟨xs.length + 1 - (i + 1), Nat.sub_lt_sub_left (Nat.lt_succ_of_lt hlt) (Nat.lt_succ_self i), i + 1, rfl, .mk Sb R5 (Vs.mono le5) co5 hs5 (V2.mono le5) hlt (Nat.le_succ_of_le hys) hc5⟩
    | true =>
      simp only [if_true]
      refine wpAny_mono (E := Bot) (ev_then (h3.e ⟨ha, okX, hρX⟩ R5 (q5.1 (hp5.mp rfl))) fun H6 M6 z zv s6 S6 I6 V6 q6 => ?_) (fun _ _ e => e) fun _ _ e => e.elim
      have le6 := S6.le R5.inv
      obtain ⟨hD6, hit6, b1, b2, b3, b4⟩ := co5.step S6 fD fI
      have hlv := Vs.1
      refine wpAny_list_append_plain hD6 (fun h7 hD7 hsb7 => ?_) (by rw [List.size_toArray]; exact sizeLine_ge (by lia))
      have k7 : ∀ b o, b ≠ D → s6.heap.get? b = some o → h7.get? b = some o := fun b o q e => hsb7.extBut b o q e
      exact ⟨xs.length + 1 - (i + 1), Nat.sub_lt_sub_left (Nat.lt_succ_of_lt hlt) (Nat.lt_succ_self i), i + 1, rfl, .mk ((Sb.trans_new S6 (fun b o e _ q => q.elim False.elim (hf b o e)) fun _ _ _ q => q).dead (a := D) (h' := h7) (tk := s6.toks) gD k7) ((R5.step okX S6 I6).but (h' := h7) (tk := s6.toks) okX b1 b2 nD (fun q => fD (.inl q)) k7)
        ((VRs.cons V6 .nil).append ((Vs.mono le5).mono le6)) (.mk (List.push_toArray .. ▸ hD7) (hit6.at fun o e => k7 It o ne e) b1 b2 b3 b4) q6.1 ((V2.mono le5).mono le6) hlt (by rw [List.length_append]; exact Nat.succ_le_succ hys) q6.2⟩
  · obtain rfl : i = xs.length := Nat.le_antisymm hi (Nat.not_lt.mp hlt)
    refine wpAny_mono (E := Bot) (iter_done ha.handled R2.inv V2 hx2 hit fun h' k' => ?_) (fun _ _ e => e) fun _ _ e => e.elim
    obtain ⟨nn, eD⟩ := hD
    obtain ⟨mr, hnC, _⟩ := R2.loc.ns
    have hlv := Vs.1
    exact hend ((Sn.dead (a := It) (h' := h') (tk := s'.toks) gI k').track gD) ((R2.inv.but (h' := h') (tk := s'.toks) hIH hIM k').track (x := .list _) hDH (k' D _ (Ne.symm ne) eD) ⟨_, nn, rfl, by lia, Vs⟩) hIi hDM
      ⟨mr, hnC.at' fun o e => k' _ o (fun q => nI (q ▸ okX.ownL)) e⟩ (R2.ow.off _ okX.ownL) (R2.ow.offM _ okX.ownL)
theorem comp_core {elt it : Expr} {x : Str} {px pos cpos : Pos} {ifs : List Expr} {scope : Scope} {elt' it' c' : X} (cf : CompFacts ρ sc scope x) (hset : notSet it = true)
    (h1 : Snd W k sc ρ n it it') (h2 : Ifs W k scope.names (compRho ρ scope.names x n) (n + 1) ifs c') (h3 : Snd W k scope.names (compRho ρ scope.names x n) (n + 1) elt elt')
    (cx : Cx W k sc ρ n A frs own env) (R : Rel W frs own env ρ H m M s) (hv : (X.comp elt' n it' c').e m M Q)
    {use : Option (Value → Sem Unit)} {R' : Value → Shared → Prop} (hend : ∀ D C s', CompDone W (frL frs env) H M s Q D C s' → compPost (model W.prog W.w) A Bot use R' (.ref D) C (.ok .next) s') :
    wpAny (model W.prog W.w) A (comprehension (.ListComp elt [⟨.Name x px, it, ifs, 0⟩] scope pos) scope env cpos (newList []) false (eval it env) use) R' Bot s := by
  have ok := cx.ok
  have hρ := cx.hρ
  obtain ⟨cl, hclos, hcl1, hcl2⟩ := closureFor_any (env := env) (scope := scope) fun p hp hf => by
    obtain ⟨y, kd⟩ := p
    simp only at hf
    subst hf
    obtain ⟨_, ⟨i, hi⟩, hsc⟩ := cf.free y hp
    have hnl : env.kindOf y ≠ some .local := by
      rcases hsc with q | q <;> rcases ok.same y _ q with q' | ⟨_, q'⟩ <;> rw [q'] <;> decide
    rcases ok.kind y i hi with q | ⟨_, q⟩
    · exact absurd q hnl
    · exact q
  have hs := folded hset env
  refine wpAny_comprehension_free rfl hs hclos cf.fn (fun p hp hl => lookup_of_mem cf.nd (by obtain ⟨a, b⟩ := p; simp at hl; subst hl; exact hp)) ?_
  refine ev_then (h1.e cx R hv) fun H1 M1 xv v s1 S1 I1 V1 q1 => ?_
  obtain ⟨xs, hxs, hlen, Iv, hI0, hIs, hIe⟩ := items_ex q1
  have R1 := R.step ok S1 I1
  refine iter_start I1 V1 hxs fun oIt hoIt hIt => ?_
  generalize hItd : s1.heap.objs.size = It at hIt ⊢
  refine wpAny_newObj_type (wpAny_newCompEnv ?_)
  dsimp only
  generalize hDd : (s1.heap.push oIt).objs.size = D
  generalize hh2 : (s1.heap.push oIt).push { cls := .type "list", dict := none, data := .seq ([] : List Value).toArray } = hp2
  generalize hCd : hp2.objs.size = C
  have eD : D = It + 1 := by rw [← hDd, Heap.size_push, hItd]
  have eC : C = It + 2 := by rw [← hCd, ← hh2, Heap.size_push, hDd, eD]
  have new1 : ∀ a, It ≤ a → s1.heap.get? a = none := fun a hle => by
    cases e : s1.heap.get? a with
    | none => rfl
    | some o' => exact absurd (Heap.lt_size e) (by rw [hItd]; exact Nat.not_lt.mpr hle)
  have gIt := new1 It (Nat.le_refl _)
  have gD := new1 D (by rw [eD]; exact Nat.le_succ _)
  have gC := new1 C (by rw [eC]; exact Nat.le_trans (Nat.le_succ _) (Nat.le_succ _))
  have gC1 := new1 (C + 1) (by rw [eC]; lia)
  have up2 : ∀ b o, s1.heap.get? b = some o → hp2.get? b = some o := fun b o e => by rw [← hh2]; exact Heap.get?_push_of_some _ (Heap.get?_push_of_some _ e)
  generalize hhp : hp2.push { cls := .type "dict", dict := none, data := .dict #[] } = h3'
  have hC1s : h3'.objs.size = C + 1 := by rw [← hhp, Heap.size_push, hCd]
  have up3 : ∀ b o, hp2.get? b = some o → h3'.get? b = some o := fun b o e => by rw [← hhp]; exact Heap.get?_push_of_some _ e
  -- the cells
  generalize hcsd : cellsFrom (C + 1) scope.names cl = cs
  generalize hh4 : pushCells h3' scope.names = h4
  have up4 : ∀ b o, h3'.get? b = some o → h4.get? b = some o := fun b o e => by rw [← hh4]; exact pushCells_keeps _ _ b o e
  have hcs : CellsX env scope x (C + 1) cs ∧ (scope.names.lookup x = some .cell → h4.IsCell (C + 1) none) := by
    rcases cells_one scope.names cf.cellx cf.nd (C + 1) cl h3' with ⟨a1, a2, a3⟩ | ⟨a1, a2, a3⟩
    · rw [hcsd] at a2; rw [hh4] at a3
      subst a2; subst a3
      refine ⟨⟨fun y c e => ?_, fun y hy => ?_, fun zz => ⟨C + 1, by simp⟩⟩, fun zz => ⟨{ cls := .type "cell", data := .cell none }, ?_, rfl⟩⟩
      · rw [List.lookup_cons] at e
        by_cases q : y = x
        · subst q
          simp at e
          exact .inl ⟨rfl, e.symm, a1⟩
        · rw [show (y == x) = false by simpa using q] at e
          exact .inr ⟨q, hcl1 y c e⟩
      · have q := (cf.free y hy).1
        rw [List.lookup_cons, show (y == x) = false by simpa using q]
        exact hcl2 y hy
      · exact hC1s ▸ Heap.get?_push_size _ rfl
    · rw [hcsd] at a2
      subst a2
      refine ⟨⟨fun y c e => .inr ⟨?_, hcl1 y c e⟩, hcl2, fun e => absurd e a1⟩, fun e => absurd e a1⟩
      exact (cf.free y (hcl1 y c e).1).1
  obtain ⟨hcs, hcell⟩ := hcs
  have hns : h4.Ns C fun zz => none := by
    have := Heap.Ns.new hp2 (.type "dict")
    rw [hCd, hhp] at this
    exact this.keeps up4
  have hown1 : ∀ b, own b → b < It := fun b hb => by obtain ⟨o, e⟩ := R1.ow.alive b hb; rw [← hItd]; exact Heap.lt_size e
  have hfr1 : ∀ b, frOf frs b → b < It := fun b hb => by obtain ⟨o, _, e, _⟩ := R1.fi.alive hb; rw [← hItd]; exact Heap.lt_size e
  have okX : EnvOK W (compEnvC scope cs C env) scope.names (compRho ρ scope.names x n) (ownX own scope x C (C + 1)) :=
    comp_env ok cf hρ hcs (by
      have : W.h₀.objs.size ≤ env.locals := ok.above
      have h' := hown1 _ ok.ownL
      rw [eC]
      exact Nat.le_trans this (Nat.le_trans (Nat.le_of_lt h') (Nat.le_add_right _ _))) (Nat.succ_ne_self C) fun b hb => by
        have := hown1 b hb
        rw [eC]
        exact ⟨Nat.ne_of_lt (Nat.lt_of_lt_of_le this (Nat.le_add_right _ _)), Nat.ne_of_lt (Nat.lt_of_lt_of_le this (Nat.le_add_right _ 3))⟩
  have hρX : ∀ y i, (compRho ρ scope.names x n).lookup y = some i → i < n + 1 := fun y i e => by
    rcases compRho_lookup e with ⟨_, rfl⟩ | ⟨_, _, e⟩
    · exact Nat.lt_succ_self _
    · exact Nat.lt_succ_of_lt (hρ _ _ e)
  have dIt := I1.dead gIt
  have dD := I1.dead gD
  have dC := I1.dead gC
  have notX : ∀ b, It ≤ b → b < C → ¬ ownX own scope x C (C + 1) b := fun b h1 h2 q => by
    rcases q with q | q | ⟨_, q⟩
    · exact absurd (hown1 b q) (Nat.not_lt.mpr h1)
    · exact absurd h2 (q ▸ Nat.lt_irrefl _)
    · subst q; exact absurd h2 (Nat.not_lt.mpr (Nat.le_succ _))
  have nxIt : ¬ ownX own scope x C (C + 1) It := notX It (Nat.le_refl _) (by rw [eC]; exact Nat.lt_add_of_pos_right (by decide))
  have nxD : ¬ ownX own scope x C (C + 1) D := notX D (by rw [eD]; exact Nat.le_succ _) (by rw [eC, eD]; exact Nat.lt_succ_self _)
  have nfIt : ¬ frOf frs It := fun q => Nat.lt_irrefl _ (hfr1 _ q)
  have nfD : ¬ frOf frs D := fun q => absurd (hfr1 _ q) (by rw [eD]; exact Nat.not_lt.mpr (Nat.le_succ _))
  have hCD : D ≠ C := by rw [eC, eD]; exact Nat.ne_of_lt (Nat.lt_succ_self _)
  have hItD : It ≠ D := by rw [eD]; exact Nat.ne_of_lt (Nat.lt_succ_self _)
  have hItC : It ≠ C := by rw [eC]; exact Nat.ne_of_lt (Nat.lt_add_of_pos_right (by decide))
  have hkx : (compEnvC scope cs C env).kindOf x = some .local ∨ (compEnvC scope cs C env).kindOf x = some .cell := by
    rcases cf.kx with q | q <;> rcases relabel_lookup (env := env) q with e | ⟨e, _⟩
    · exact .inl e
    · cases e
    · exact .inr e
    · cases e
  have hρx : (compRho ρ scope.names x n).lookup x = some n := by unfold compRho; simp
  have dS : s.heap.get? C = none := by
    cases e : s.heap.get? C with
    | none => rfl
    | some o => obtain ⟨o', e'⟩ := S1.alive _ _ e; rw [gC] at e'; cases e'
  have k4 : ∀ b o, s1.heap.get? b = some o → h4.get? b = some o := fun b o e => up4 b o (up3 b o (up2 b o e))
  have S0 : Step none_ (frL frs env) H1 M1 s1 H1 M1 { s1 with heap := h4 } := Step.ext (tk := s1.toks) k4
  have it0 : ItAt h4 v It 0 xv := hIt.at fun o e => up4 _ _ (up3 _ _ (by rw [← hh2]; exact Heap.get?_push_of_some _ e))
  have loop := comp_loop (use := use) (R' := R') (it := it) (px := px) (scope := scope) (pos := pos) (fr := frL frs env) (s := { s1 with heap := h4 }) cx.ha okX hρX (by unfold compRho; simp) hkx h2 h3 nxIt nxD (fun q => q.elim nfIt hItC) (fun q => q.elim nfD hCD) hItD gIt gD
    (fun a q => q.elim (fun q => q ▸ gC) fun q => by
      rcases hcs.of x a q.1 with ⟨_, q, _⟩ | ⟨q, _⟩
      · exact q ▸ gC1
      · exact absurd rfl q)
    (fun b o e q => q.elim .inl fun q => by rw [show b = C from q, gC] at e; cases e) hxs hlen hIs
    (fun S I hI hD ns e1 e2 => hend D C _ ⟨_, _, S1.trans S, I, hIe _ _ hI D hD, ns, dS, e1, (Mem.set_ne _ _ (Ne.symm hCD)).trans e2⟩)
    (.mk S0 (comp_rel (tk := s1.toks) ok cf hρ hcs R1 k4 gC gC1 hns hcell) .nil (.mk ⟨0, up4 _ _ (up3 _ _ (by rw [← hh2, ← hDd]; exact Heap.get?_push_size _ rfl))⟩ it0 dD.1 dD.2 dIt.1 dIt.2) (still_items hxs) V1 (Nat.zero_le _) (Nat.le_refl _) hI0)
  exact codeAny_compStart_list loop (iter_self it0 loop)
theorem comp_snd {elt it : Expr} {x : Str} {px : Pos} {ifs : List Expr} {scope : Scope} {elt' it' c' : X} (hc : compOK ρ sc scope x = true) (hset : notSet it = true)
    (h1 : Snd W k sc ρ n it it') (h2 : Ifs W k scope.names (compRho ρ scope.names x n) (n + 1) ifs c') (h3 : Snd W k scope.names (compRho ρ scope.names x n) (n + 1) elt elt') :
    Snd W k sc ρ n (.ListComp elt [⟨.Name x px, it, ifs, 0⟩] scope pos) (.comp elt' n it' c') :=
  .of (fun zz => rfl) fun c R hv => by
    rw [eval_ListComp]
    refine comp_core (compOK_facts hc) hset h1 h2 h3 c R hv ?_
    rintro D C s' hh
    refine go1 fun G hG => ?_
    obtain ⟨H', M', S, I, q, ⟨mm, hn⟩, g1, g2, g3⟩ := hh
    refine hG ?_
    exact ⟨mm, hn, fun h' hs' => ⟨H', M', _, S.dead (a := C) (h' := h') (tk := s'.toks) g1 fun b o q e => hs'.extBut b o q e, I.but (h' := h') (tk := s'.toks) g2 g3 fun b o q e => hs'.extBut b o q e, .ref D, q⟩⟩
end
end Vg
end
section
set_option autoImplicit false
set_option linter.all false
namespace Vg
open PySem PySem.W PyProof.Rows

noncomputable abbrev St := List AV → Mem → (List AV → Mem → Prop) → (List AV → Mem → Prop) → (AV → Mem → Prop) → Prop
noncomputable def St.nop : St := fun m M N _ _ => N m M
noncomputable def St.seq (a b : St) : St := fun m M N B R => a m M (fun m M => b m M N B R) B R
noncomputable def St.setv (i : Nat) (e : X) : St := fun m M N _ _ => e.e m M fun v M => N (m.set i v) M
noncomputable def bindSlots (is : List Nat) (xs : List AV) (m : List AV) : List AV := List.rec (motive := fun _ => List AV → List AV → List AV) (fun _ m => m) (fun i _ ih xs m => List.casesOn (motive := fun _ => List AV) xs m fun x xs => ih xs (m.set i x)) is xs m
noncomputable def tupP (n : Nat) (x : AV) (Q : List AV → Prop) : Prop := match x with
  | .tup xs => xs.length = n ∧ Q xs
  | _ => False
noncomputable def St.sett (is : List Nat) (e : X) : St := fun m M N _ _ => e.e m M fun v M => tupP is.length v fun xs => N (bindSlots is xs m) M
noncomputable def St.seta (o : X) (i : Nat) (e : X) : St := fun m M N _ _ => e.e m M fun v M => o.e m M fun x M => setAtP M x i v fun M => N m M
noncomputable def St.sets (o i e : X) : St := fun m M N _ _ => e.e m M fun v M => o.e m M fun x M => i.e m M fun y M => setSubP M x y v fun M => N m M
noncomputable def St.augv (i : Nat) (op : Op2) (e : X) : St := fun m M N _ _ => negP (m.getD i .undef) fun a => e.e m M fun y M => negP y fun b => intP op a b fun r => N (m.set i (.int r)) M
noncomputable def St.auga (o : X) (i : Nat) (op : Op2) (e : X) : St := fun m M N _ _ => o.e m M fun x M => atP M x i fun old => negP old fun a => e.e m M fun y M => negP y fun b => intP op a b fun r => setAtP M x i (.int r) fun M => N m M
noncomputable def St.augs (o i : X) (op : Op2) (e : X) : St := fun m M N _ _ => o.e m M fun x M => i.e m M fun y M => subP M x y fun old => negP old fun a => e.e m M fun z M => negP z fun b => intP op a b fun r => setSubP M x y (.int r) fun M => N m M
noncomputable def St.ife (t : X) (a b : St) : St := fun m M N B R => t.t m M fun p M => (p → a m M N B R) ∧ (¬ p → b m M N B R)
noncomputable def St.wh (t : X) (b : St) : St := fun m M N _ R => ∃ I : Nat → List AV → Mem → Prop, (∃ j, I j m M) ∧ ∀ j m M, I j m M → t.t m M fun p M => (p → b m M (fun m M => ∃ j', j' < j ∧ I j' m M) N R) ∧ (¬ p → N m M)
inductive Tg | v (i : Nat) | t (is : List Nat)
noncomputable def Tg.put (t : Tg) (x : AV) (m : List AV) (Q : List AV → Prop) : Prop := match t with
  | .v i => Q (m.set i x)
  | .t is => tupP is.length x fun xs => Q (bindSlots is xs m)
noncomputable def forP (t : Tg) (b : St) (v : AV) (xs : List AV) (m : List AV) (M : Mem) (N : List AV → Mem → Prop) (R : AV → Mem → Prop) : Prop :=
  ∃ I : Nat → List AV → Mem → Prop, I 0 m M ∧ (∀ i x m M, xs[i]? = some x → I i m M → t.put x m fun m => b m M (fun m M => stillP M v xs ∧ I (i + 1) m M) N R) ∧ ∀ m M, I xs.length m M → N m M
noncomputable def St.for (t : Tg) (it : X) (b : St) : St := fun m M N _ R => it.e m M fun v M => itemsP M v fun xs => forP t b v xs m M N R
noncomputable def dropP (v : AV) : Prop := match v with
  | .none => True
  | .int _ => True
  | _ => False
noncomputable def St.exp (e : X) : St := fun m M N _ _ => e.e m M fun v M => dropP v ∧ N m M
noncomputable def St.ret (e : X) : St := fun m M _ _ R => e.e m M R
noncomputable def St.brk : St := fun m M _ B _ => B m M
noncomputable def St.bad : St := fun zz zz zz zz zz => False

noncomputable def forU (t : Tg) (b : St) (v : AV) (ys : List AV) (xs : List AV) (m : List AV) (M : Mem) (N : List AV → Mem → Prop) (R : AV → Mem → Prop) : Prop :=
  List.rec (motive := fun _ => List AV → Mem → Prop) N (fun x _ ih m M => t.put x m fun m => b m M (fun m M => stillP M v ys ∧ ih m M) N R) xs m M
theorem forP.of {t : Tg} {b : St} {v : AV} {xs : List AV} {m : List AV} {M : Mem} {N : List AV → Mem → Prop} {R : AV → Mem → Prop} (h : forU t b v xs xs m M N R) : forP t b v xs m M N R :=
  ⟨fun i m M => forU t b v xs (xs.drop i) m M N R, h, fun i x m M e h => by
    obtain ⟨hi, rfl⟩ := List.getElem?_eq_some_iff.mp e
    replace h : forU t b v xs (xs.drop i) m M N R := h
    rw [List.drop_eq_getElem_cons hi] at h
    exact h, fun m M h => by replace h : forU t b v xs (xs.drop xs.length) m M N R := h; rw [List.drop_length] at h; exact h⟩

noncomputable def PS (W : Wd) (frs : List Env) (own : Addr → Prop) (env : Env) (ρ : Rho) (H : FH) (M : Mem) (s : Shared) (N B : List AV → Mem → Prop) (R : AV → Mem → Prop) (f : Flow) (s' : Shared) : Prop :=
  ∃ H' M' m', Step own (frOf frs) H M s H' M' s' ∧ Rel W frs own env ρ H' m' M' s' ∧ (match f with
    | .next => N m' M'
    | .brk => B m' M'
    | .cont => False
    | .ret v => ∃ x, VR W H' v x ∧ R x M')
noncomputable def SndS (W : Wd) (k : Nat) (sc : List (Str × NameKind)) (ρ : Rho) (n : Nat) (st : Stmt) (x : St) : Prop :=
  ∀ {A : Around} {frs : List Env} {own : Addr → Prop} {env : Env} {m : List AV} {M : Mem} {N B : List AV → Mem → Prop} {R : AV → Mem → Prop} {H : FH} {s : Shared}, Cx W k sc ρ n A frs own env → Rel W frs own env ρ H m M s → x m M N B R →
    wpAny (model W.prog W.w) A (exec st env) (PS W frs own env ρ H M s N B R) Bot s
noncomputable def SndB (W : Wd) (k : Nat) (sc : List (Str × NameKind)) (ρ : Rho) (n : Nat) (sts : List Stmt) (x : St) : Prop :=
  ∀ {A : Around} {frs : List Env} {own : Addr → Prop} {env : Env} {m : List AV} {M : Mem} {N B : List AV → Mem → Prop} {R : AV → Mem → Prop} {H : FH} {s : Shared}, Cx W k sc ρ n A frs own env → Rel W frs own env ρ H m M s → x m M N B R →
    wpAny (model W.prog W.w) A (execs sts env) (PS W frs own env ρ H M s N B R) Bot s
noncomputable def Slot1 (sc : List (Str × NameKind)) (ρ : Rho) (x : Str) (i : Nat) : Prop := ρ.lookup x = some i ∧ (sc.lookup x = some .local ∨ sc.lookup x = some .cell)

section
variable {W : Wd} {k : Nat} {sc : List (Str × NameKind)} {ρ : Rho} {n : Nat} {A : Around} {frs : List Env} {own : Addr → Prop} {env : Env} {m : List AV} {M M₁ : Mem} {N B : List AV → Mem → Prop} {R : AV → Mem → Prop} {H H₁ : FH} {s s₁ : Shared} {pos p : Pos}

theorem Step.ofE (ok : EnvOK W env sc ρ own) (S : Step none_ (frL frs env) H M s H₁ M₁ s₁) : Step own (frOf frs) H M s H₁ M₁ s₁ :=
  S.weaken (fun _ _ _ q => q.elim) fun b _ _ ho q => q.elim id fun q => absurd (q ▸ ok.ownL) ho
theorem PS.lift {t : Sem Flow} (S : Step own (frOf frs) H M s H₁ M₁ s₁) (h : wpAny (model W.prog W.w) A t (PS W frs own env ρ H₁ M₁ s₁ N B R) Bot s₁) : wpAny (model W.prog W.w) A t (PS W frs own env ρ H M s N B R) Bot s₁ :=
  wpAny_mono h (fun _ _ ⟨H', M', m', S', R', q⟩ => ⟨H', M', m', S.trans S', R', q⟩) fun _ _ e => e
theorem botE {α : Type} {t : Sem α} {P : α → Shared → Prop} {E : Value → Shared → Prop} (h : wpAny (model W.prog W.w) A t P Bot s) : wpAny (model W.prog W.w) A t P E s :=
  wpAny_mono h (fun _ _ e => e) fun _ _ e => e.elim

theorem SndB.nil : SndB W k sc ρ n [] .nop := fun c r hv => wpAny_execs_nil ⟨_, _, _, Step.refl, r, hv⟩
theorem SndB.cons {st : Stmt} {sts : List Stmt} {a b : St} (h : SndS W k sc ρ n st a) (h' : SndB W k sc ρ n sts b) : SndB W k sc ρ n (st :: sts) (.seq a b) := fun c r hv =>
  wpAny_execs_cons (wpAny_mono (h c r hv) (fun fl s' ⟨H', M', m', S', R', q⟩ => by
    cases fl with
    | next => exact PS.lift S' (h' c R' q)
    | _ => exact ⟨H', M', m', S', R', q⟩) fun _ _ e => e)

theorem Slot1.kind {x : Str} {i : Nat} (ok : EnvOK W env sc ρ own) (h : Slot1 sc ρ x i) : env.kindOf x = some .local ∨ env.kindOf x = some .cell := by
  rcases h.2 with q | q <;> rcases ok.same x _ q with q' | ⟨q', _⟩
  · exact .inl q'
  · cases q'
  · exact .inr q'
  · cases q'
theorem set_sound {x : Str} {i : Nat} {v : Value} {y : AV} (ok : EnvOK W env sc ρ own) (r : Rel W frs own env ρ H m M s) (h : Slot1 sc ρ x i) (hv : VR W H v y)
    {Q : Unit → Shared → Prop} {E : Value → Shared → Prop} (hq : ∀ s', Step own (frOf frs) H M s H M s' → Rel W frs own env ρ H (m.set i y) M s' → Q () s') :
    wpAny (model W.prog W.w) A (storeName env x v) Q E s :=
  store_sound ok r h.1 (h.kind ok) hv fun a h' tk ho _ hal kk R' => hq _ (Step.one ho hal kk) R'

inductive Slots (sc : List (Str × NameKind)) (ρ : Rho) : List Expr → List Nat → Prop
  | nil : Slots sc ρ [] []
  | cons {x : Str} {p : Pos} {i : Nat} {es : List Expr} {is : List Nat} : Slot1 sc ρ x i → Slots sc ρ es is → Slots sc ρ (.Name x p :: es) (i :: is)
theorem Slots.each {es : List Expr} {is : List Nat} (h : Slots sc ρ es is) : assignEach es env = es.map (fun e => (false, assign e env)) ∧ es.length = is.length := by
  induction h with
  | nil => exact ⟨rfl, rfl⟩
  | cons _ _ ih => exact ⟨congrArg (_ :: ·) ih.1, congrArg Nat.succ ih.2⟩
theorem order_sound (ok : EnvOK W env sc ρ own) {es : List Expr} {is : List Nat} (h : Slots sc ρ es is) : ∀ {vs : List Value} {xs : List AV} {m : List AV} {s : Shared}, VRs W H vs xs → xs.length = is.length → Rel W frs own env ρ H m M s →
    ∀ {Q : Unit → Shared → Prop} {E : Value → Shared → Prop}, (∀ s', Step own (frOf frs) H M s H M s' → Rel W frs own env ρ H (bindSlots is xs m) M s' → Q () s') → wpAny (model W.prog W.w) A (assignInOrder (es.map fun e => assign e env) vs) Q E s := by
  induction h with
  | nil =>
    intro vs xs m s V hl r Q E hq
    cases xs with
    | nil => rw [V.inv0]; exact assignInOrder_nil (hq s Step.refl r)
    | cons _ _ => cases hl
  | cons h1 _ ih =>
    intro vs xs m s V hl r Q E hq
    cases xs with
    | nil => cases hl
    | cons x xs =>
      refine go1 fun G hG => ?_
      obtain ⟨v, ws, rfl, hv, V⟩ := V.inv
      refine hG ?_
      exact assignInOrder_cons (wpAny_assign_Name (set_sound ok r h1 hv fun s' S R' => ih V (Nat.succ.inj hl) R' fun s'' S' R'' => hq s'' (S.trans S') R''))

theorem Rel.fresh {a : Addr} (r : Rel W frs own env ρ H m M s) (h : s.heap.get? a = none) : ¬ own a ∧ ¬ frOf frs a := by
  refine ⟨fun q => ?_, fun q => ?_⟩
  · obtain ⟨o, e⟩ := r.ow.alive _ q; rw [h] at e; cases e
  · obtain ⟨o, _, e, _⟩ := r.fi.alive q; rw [h] at e; cases e
theorem tup_sound (ha : A.handled = none) (ok : EnvOK W env sc ρ own) (r : Rel W frs own env ρ H m M s) {es : List Expr} {is : List Nat} {c : Nat} (h : Slots sc ρ es is) {v : Value} {x : AV} (hv : VR W H v x) {Q : List AV → Prop} (hq : tupP is.length x fun xs => Q (bindSlots is xs m))
    {P : Unit → Shared → Prop} {E : Value → Shared → Prop} (hP : ∀ m' s', Step own (frOf frs) H M s H M s' → Rel W frs own env ρ H m' M s' → Q m' → P () s') : wpAny (model W.prog W.w) A (assign (.Tuple es c p) env v) P E s := by
  cases hv with
  | tup e1 e2 e3 _ e4 e5 =>
    obtain ⟨hl, hq⟩ := hq
    obtain ⟨hae, hel⟩ := h.each (env := env)
    have hlen : (assignEach es env).length = is.length := by rw [hae, List.length_map, hel]
    refine assign_Tuple_tuple ha ⟨_, r.inv.sub _ _ e1, e2, _, e3⟩ (by rw [hlen, List.size_toArray, e4, hl]) (by
      rw [hae, List.findIdx?_eq_none_iff]
      intro x hx
      obtain ⟨e, _, rfl⟩ := List.mem_map.mp hx
      rfl) fun h' hx => ?_
    have hd := fresh_none s.heap
    have d := r.inv.dead hd
    obtain ⟨nO, nF⟩ := r.fresh hd
    rw [hae, List.map_map]
    exact order_sound ok h ⟨e4, e5⟩ hl (r.but (h' := h') (tk := s.toks) ok d.1 d.2 nO nF hx) fun s' S R'' => hP _ s' ((Step.refl.dead hd hx).trans S) R'' hq
  | _ => exact hq.elim

theorem PM.put {P : Mem → Prop} {s' : Shared} (ok : EnvOK W env sc ρ own) (r : Rel W frs own env ρ H m M s) (h : PM W (frL frs env) H M s P s') : ∃ M', Step own (frOf frs) H M s H M' s' ∧ Rel W frs own env ρ H m M' s' ∧ P M' :=
  let ⟨M', S, I, q⟩ := h; ⟨M', Step.ofE ok S, r.step ok S I, q⟩
noncomputable def plainE : Expr → Bool
  | .Tuple .. => false
  | .Slice .. => false
  | .ListComp .. => false
  | .SetComp .. => false
  | .DictComp .. => false
  | _ => true

theorem setv_of {x : Str} {e : Expr} {i : Nat} {a : X} (hs : ∀ env, swapsWith e (some (.Name x p)) pos.line env = pure false) (h1 : Slot1 sc ρ x i) (h : Snd W k sc ρ n e a) : SndS W k sc ρ n (.Assign [.Name x p] e pos) (.setv i a) := fun c r hv =>
  wpAny_Assign_Name (ev_then (h.e c r hv) fun H1 M1 y v s1 S1 I1 V1 q1 => set_sound c.ok (c.step r S1 I1) h1 V1 fun s' S R' => ⟨H1, M1, _, (Step.ofE c.ok S1).trans S, R', q1⟩) (hs _)
theorem notLC {e : Expr} (h : plainE e = true) (t : Option Expr) (l : Nat) (env : Env) : swapsWith e t l env = pure false := by
  cases e <;> first | rfl | cases h
theorem setv_snd {x : Str} {e : Expr} {i : Nat} {a : X} (hb : plainE e = true) (h1 : Slot1 sc ρ x i) (h : Snd W k sc ρ n e a) : SndS W k sc ρ n (.Assign [.Name x p] e pos) (.setv i a) := setv_of (notLC hb _ _) h1 h
theorem setv_tup {x : Str} {es : List Expr} {c : Nat} {i : Nat} {a : X} (h1 : Slot1 sc ρ x i) (h : Snd W k sc ρ n (.Tuple es c pos) a) {pos' : Pos} : SndS W k sc ρ n (.Assign [.Name x p] (.Tuple es c pos) pos') (.setv i a) := setv_of (fun zz => rfl) h1 h
theorem setv_comp {y x : Str} {px cp : Pos} {elt it : Expr} {ifs : List Expr} {scope : Scope} {elt' it' c' : X} {i : Nat} (h0 : Slot1 sc ρ y i) (hc : compOK ρ sc scope x = true) (hset : notSet it = true)
    (h1 : Snd W k sc ρ n it it') (h2 : Ifs W k scope.names (compRho ρ scope.names x n) (n + 1) ifs c') (h3 : Snd W k scope.names (compRho ρ scope.names x n) (n + 1) elt elt') :
    SndS W k sc ρ n (.Assign [.Name y p] (.ListComp elt [⟨.Name x px, it, ifs, 0⟩] scope cp) pos) (.setv i (.comp elt' n it' c')) := by
  have key : ∀ env, ∃ b, swapsWith (.ListComp elt [⟨.Name x px, it, ifs, 0⟩] scope cp) (some (.Name y p)) pos.line env = pure b := fun zz => ⟨_, rfl⟩
  intro A frs own env m M N B R H s c r hv
  obtain ⟨b, hsw⟩ := key env
  have ok := c.ok
  cases b with
  | false => exact wpAny_Assign_Name (ev_then ((comp_snd hc hset h1 h2 h3).e c r hv) fun H1 M1 y v s1 S1 I1 V1 q1 => set_sound c.ok (c.step r S1 I1) h0 V1 fun s' S R' => ⟨H1, M1, _, (Step.ofE c.ok S1).trans S, R', q1⟩) hsw
  | true =>
    rw [exec_Assign_Name_used _ _ _ _ hsw]
    refine wpAny_bind (wpAny_standAt (wpAny_bind ?_))
    refine wpAny_bind (wpAny_mono (comp_core (compOK_facts hc) hset h1 h2 h3 c r hv (use := some (assign (.Name y p) env)) (R' := fun _ s' => PS W frs own env ρ H M s N B R .next s') ?_) (fun _ s' hq => wpAny_pure (wpAny_pure hq)) fun _ _ e => e)
    rintro D C s' hh
    refine go1 fun G hG => ?_
    obtain ⟨H', M', S, I, q, ⟨mm, hn⟩, c1, c2, c3⟩ := hh
    refine hG ?_
    show wpAny _ A (assign (.Name y p) env (.ref D)) _ _ _
    obtain ⟨nO, nF⟩ := r.fresh c1
    refine wpAny_assign_Name (store_sound ok (r.step ok S I) h0.1 (h0.kind ok) (.ref D) fun a h' tk ho _ hal kk R'' => ?_)
    refine ⟨mm, hn.at' fun o e => kk C o (fun e => nO (e ▸ ho)) e, fun h'' hs'' => ?_⟩
    exact ⟨H', M', _, ((Step.ofE ok S).trans (Step.one ho hal kk)).dead c1 fun b o q e => hs''.extBut b o q e, R''.but (h' := h'') (tk := tk) ok c2 c3 nO nF fun b o q e => hs''.extBut b o q e, q⟩
theorem sett_snd {es : List Expr} {c : Nat} {e : Expr} {is : List Nat} {a : X} (hb : plainE e = true) (h1 : Slots sc ρ es is) (h : Snd W k sc ρ n e a) : SndS W k sc ρ n (.Assign [.Tuple es c p] e pos) (.sett is a) := fun c r hv =>
  Assign_Tuple (ev_then (h.e c r hv) fun H1 M1 y v s1 S1 I1 V1 q1 => tup_sound (Q := fun m => _) c.ha.handled c.ok (c.step r S1 I1) h1 V1 q1 fun m' s' S R' hq => ⟨H1, M1, m', (Step.ofE c.ok S1).trans S, R', hq⟩)
    (by cases e <;> first | rfl | cases hb) (by cases e <;> first | rfl | cases hb)
theorem seta_snd (wok : WOK W) (gok : ∀ c i, c < W.nc → i < W.na → GetOK W c i) {o e : Expr} {i : Nat} {a b : X} (hi : i < W.na) (ho : Snd W k sc ρ n o a) (h : Snd W k sc ρ n e b) : SndS W k sc ρ n (.Assign [.Attribute o (W.attr i) p] e pos) (.seta a i b) := fun c r hv =>
  plainObj_wpAny_Assign_Attribute (ev_then (h.e c r hv) fun H1 M1 y v s1 S1 I1 V1 q1 => ev_then (ho.e c (c.step r S1 I1) q1) fun H2 M2 x u s2 S2 I2 V2 q2 => by
    have R2 := c.step (c.step r S1 I1) S2 I2
    refine wpAny_mono (setAt_sound wok gok c.ok R2 V2 (V1.mono (S2.le I1)) hi q2) (fun _ s' h' => ?_) fun _ _ e => e.elim
    refine go1 fun G hG => ?_
    obtain ⟨M', S3, R3, q3⟩ := PM.put c.ok R2 h'
    refine hG ?_
    exact ⟨H2, M', _, (Step.ofE c.ok (S1.trans S2)).trans S3, R3, q3⟩) (by cases e <;> rfl)
theorem sets_snd {o i e : Expr} {a b d : X} (ho : Snd W k sc ρ n o a) (hi : Snd W k sc ρ n i b) (h : Snd W k sc ρ n e d) : SndS W k sc ρ n (.Assign [.Subscript o i p] e pos) (.sets a b d) := fun c r hv =>
  wpAny_Assign_Subscript (ev_then (h.e c r hv) fun H1 M1 y v s1 S1 I1 V1 q1 => ev_then (ho.e c (c.step r S1 I1) q1) fun H2 M2 x u s2 S2 I2 V2 q2 => ev_then (hi.e c (c.step (c.step r S1 I1) S2 I2) q2) fun H3 M3 z w s3 S3 I3 V3 q3 => by
    have R3 := c.step (c.step (c.step r S1 I1) S2 I2) S3 I3
    refine wpAny_mono (setSub_sound R3 (V2.mono (S3.le I2)) V3 (V1.mono ((S2.trans S3).le I1)) q3) (fun _ s' h' => ?_) fun _ _ e => e.elim
    refine go1 fun G hG => ?_
    obtain ⟨M', S4, R4, q4⟩ := PM.put c.ok R3 h'
    refine hG ?_
    exact ⟨H3, M', _, (Step.ofE c.ok ((S1.trans S2).trans S3)).trans S4, R4, q4⟩) (by cases e <;> rfl)

theorem inp_sound {op : Op2} {x y : AV} {v u : Value} {G : Int → Prop} (hx : VR W H v x) (hy : VR W H u y) (hop : op = .add ∨ op = .sub ∨ op = .band ∨ op = .bor ∨ op = .bxor) (h : ∃ a, x = .int a ∧ negP y fun b => intP op a b G)
    {P : Value → Shared → Prop} {E : Value → Shared → Prop} (hP : ∀ r t tk, G r → P (.int r t) { s with toks := tk }) : wpAny (model W.prog W.w) A (inplaceOp (opOf op) v u) P E s := by
  obtain ⟨a, rfl, h⟩ := h
  obtain ⟨b, rfl, h⟩ := h.is
  cases hx; cases hy
  exact iint_sound h hop hP
theorem Rel.tok {tk : Nat} (ok : EnvOK W env sc ρ own) (r : Rel W frs own env ρ H m M s) : Step none_ (frL frs env) H M s H M { s with toks := tk } ∧ Rel W frs own env ρ H m M { s with toks := tk } :=
  have S : Step none_ (frL frs env) H M s H M { s with toks := tk } := Step.ext (h' := s.heap) (tk := tk) fun _ _ e => e
  ⟨S, r.step ok S (r.inv.ext (h' := s.heap) (tk := tk) fun _ _ e => e)⟩
theorem augv_snd {x : Str} {op : Op2} {e : Expr} {i : Nat} {a : X} (hop : op = .add ∨ op = .sub ∨ op = .band ∨ op = .bor ∨ op = .bxor) (hd : (x == ("__classdict__" : Str)) = false) (h1 : Slot1 sc ρ x i) (h : Snd W k sc ρ n e a) :
    SndS W k sc ρ n (.AugAssign (.Name x p) (opOf op) e pos) (.augv i op a) := fun {A frs own env m M N B R H s} c r hv => by
  refine go1 fun G hG => ?_
  obtain ⟨z, hz, hv⟩ := hv.is
  refine hG ?_
  refine wpAny_AugAssign_Name (load_sound (G := fun y => y = .int z) c.ok r h1.1 hd (by rw [hz]; rfl) fun old y V q => ?_)
  refine ev_then (h.e c r hv) fun H1 M1 y' v s1 S1 I1 V1 q1 => inp_sound (V.mono (S1.le r.inv)) V1 hop ⟨z, q, q1⟩ fun r' t tk hr => ?_
  obtain ⟨S2, R2⟩ := (c.step r S1 I1).tok (tk := tk) c.ok
  exact set_sound c.ok R2 h1 (.int r' t) fun s' S R' => ⟨H1, M1, _, (Step.ofE c.ok (S1.trans S2)).trans S, R', hr⟩
theorem atP_mono {x : AV} {i : Nat} {P P' : AV → Prop} (h : atP M x i P) (k : ∀ z, P z → P' z) : atP M x i P' := by
  unfold atP at h ⊢
  split at h
  · obtain ⟨v, a, b⟩ := h; exact ⟨v, a, k _ b⟩
  · obtain ⟨fs, a, v, b, c⟩ := h; exact ⟨fs, a, v, b, k _ c⟩
  · exact h.elim
theorem subP_mono {x y : AV} {P P' : AV → Prop} (h : subP M x y P) (k : ∀ z, P z → P' z) : subP M x y P' := by
  unfold subP seqP at h ⊢
  split at h
  · refine ⟨h.1, ?_⟩
    replace h := h.2
    split at h
    · obtain ⟨z, a, b⟩ := h; exact ⟨z, a, k _ b⟩
    · obtain ⟨z, a, b⟩ := h; exact ⟨z, a, k _ b⟩
    · obtain ⟨ys, a, z, b, c⟩ := h; exact ⟨ys, a, z, b, k _ c⟩
    · exact h.elim
  · exact h.elim
theorem auga_snd (wok : WOK W) (gok : ∀ c i, c < W.nc → i < W.na → GetOK W c i) {o e : Expr} {op : Op2} {i : Nat} {a b : X} (hi : i < W.na) (hop : op = .add ∨ op = .sub ∨ op = .band ∨ op = .bor ∨ op = .bxor) (ho : Snd W k sc ρ n o a) (h : Snd W k sc ρ n e b) :
    SndS W k sc ρ n (.AugAssign (.Attribute o (W.attr i) p) (opOf op) e pos) (.auga a i op b) := fun {A frs own env m M N B R H s} c r hv =>
  wpAny_AugAssign_AttributeAny (ev_then (ho.e c r hv) fun H1 M1 x v s1 S1 I1 V1 q1 => by
    have R1 := c.step r S1 I1
    refine wpAny_mono (at_sound (Q := fun old M => M = M1 ∧ negP old fun a' => b.e m M fun y M => negP y fun b' => intP op a' b' fun r => setAtP M x i (.int r) fun M => N m M) wok gok c.ok R1 V1 hi ?_) (fun old s2 h' => ?_) fun _ _ e => e.elim
    · exact atP_mono q1 fun z h => ⟨rfl, h⟩
    refine go1 fun G hG => ?_
    obtain ⟨H2, M2, y, S2, I2, V2, rfl, q2⟩ := h'
    obtain ⟨z, rfl, q2⟩ := q2.is
    refine hG ?_
    refine ev_then (h.e c (c.step R1 S2 I2) q2) fun H3 M3 y' w s3 S3 I3 V3 q3 => inp_sound (V2.mono (S3.le I2)) V3 hop ⟨z, rfl, q3⟩ fun r' t tk hr => ?_
    obtain ⟨S4, R4⟩ := (c.step (c.step R1 S2 I2) S3 I3).tok (tk := tk) c.ok
    refine wpAny_mono (setAt_sound wok gok c.ok R4 (V1.mono ((S2.trans S3).le I1)) (.int r' t) hi hr) (fun _ s' h' => ?_) fun _ _ e => e.elim
    obtain ⟨M', S5, R5, q5⟩ := PM.put c.ok R4 h'
    exact ⟨H3, M', m, (Step.ofE c.ok (((S1.trans S2).trans S3).trans S4)).trans S5, R5, q5⟩)
theorem augs_snd {o i e : Expr} {op : Op2} {a b d : X} (hb : plainE i = true) (hop : op = .add ∨ op = .sub ∨ op = .band ∨ op = .bor ∨ op = .bxor) (ho : Snd W k sc ρ n o a) (hi : Snd W k sc ρ n i b) (h : Snd W k sc ρ n e d) :
    SndS W k sc ρ n (.AugAssign (.Subscript o i p) (opOf op) e pos) (.augs a b op d) := fun {A frs own env m M N B R H s} c r hv =>
  wpAny_AugAssign_SubscriptAny (ev_then (ho.e c r hv) fun H1 M1 x v s1 S1 I1 V1 q1 => ev_then (hi.e c (c.step r S1 I1) q1) fun H2 M2 y u s2 S2 I2 V2 q2 => by
    have R2 := c.step (c.step r S1 I1) S2 I2
    have V1' := V1.mono (S2.le I1)
    refine wpAny_mono (getI_sound (Q := fun old M => M = M2 ∧ negP old fun a' => d.e m M fun z M => negP z fun b' => intP op a' b' fun r => setSubP M x y (.int r) fun M => N m M) R2 V1' V2 ?_).1 (fun old s3 h' => ?_) fun _ _ e => e.elim
    · exact subP_mono q2 fun z h => ⟨rfl, h⟩
    refine go1 fun G hG => ?_
    obtain ⟨H3, M3, z, S3, I3, V3, rfl, q3⟩ := h'
    obtain ⟨z, rfl, q3⟩ := q3.is
    refine hG ?_
    refine ev_then (h.e c (c.step R2 S3 I3) q3) fun H4 M4 y' w s4 S4 I4 V4 q4 => inp_sound (V3.mono (S4.le I3)) V4 hop ⟨z, rfl, q4⟩ fun r' t tk hr => ?_
    obtain ⟨S5, R5⟩ := (c.step (c.step R2 S3 I3) S4 I4).tok (tk := tk) c.ok
    have le := (S3.trans S4).le I2
    refine wpAny_mono (setSub_sound R5 (V1'.mono le) (V2.mono le) (.int r' t) hr) (fun _ s' h' => ?_) fun _ _ e => e.elim
    obtain ⟨M', S6, R6, q6⟩ := PM.put c.ok R5 h'
    exact ⟨H4, M', m, (Step.ofE c.ok ((((S1.trans S2).trans S3).trans S4).trans S5)).trans S6, R6, q6⟩) (by intros; cases i <;> first | rfl | cases hb)

theorem ife_snd {t : Expr} {as bs : List Stmt} {x : X} {a b : St} (ht : Snd W k sc ρ n t x) (ha : SndB W k sc ρ n as a) (hb : SndB W k sc ρ n bs b) : SndS W k sc ρ n (.If t as bs pos) (.ife x a b) := fun c r hv =>
  wpAny_If (evb_then (ht.t c r hv) fun H1 M1 d p s1 S1 I1 hd q1 => by
    cases d
    · exact PS.lift (Step.ofE c.ok S1) (hb c (c.step r S1 I1) (q1.2 fun q => Bool.noConfusion (hd.mpr q)))
    · exact PS.lift (Step.ofE c.ok S1) (ha c (c.step r S1 I1) (q1.1 (hd.mp rfl))))
theorem wh_snd {t : Expr} {as : List Stmt} {x : X} {a : St} (ht : Snd W k sc ρ n t x) (ha : SndB W k sc ρ n as a) : SndS W k sc ρ n (.While t as [] pos) (.wh x a) := fun {A frs own env m M N B R H s} c r hv => by
  obtain ⟨I, ⟨j, hj⟩, hI⟩ := hv
  refine wpAny_While (codeAny_whileLoop (fun j s' => ∃ H' M' m', Step own (frOf frs) H M s H' M' s' ∧ Rel W frs own env ρ H' m' M' s' ∧ I j m' M') ?_ j ⟨H, M, m, Step.refl, r, hj⟩)
  rintro j s' hh
  refine go1 fun G hG => ?_
  obtain ⟨H', M', m', S', R', hj'⟩ := hh
  refine hG ?_
  refine botE (evb_then (ht.t c R' (hI j m' M' hj')) fun H1 M1 d p s1 S1 I1 hd q1 => ?_)
  have S2 := S'.trans (Step.ofE c.ok S1)
  cases d
  · exact wpAny_execs_nil ⟨H1, M1, m', S2, c.step R' S1 I1, q1.2 fun q => Bool.noConfusion (hd.mpr q)⟩
  · refine wpAny_mono (ha c (c.step R' S1 I1) (q1.1 (hd.mp rfl))) (fun fl s3 h3 => ?_) fun _ _ e => e.elim
    refine go1 fun G hG => ?_
    obtain ⟨H3, M3, m3, S3, R3, q3⟩ := h3
    refine hG ?_
    cases fl with
    | next => obtain ⟨j', hlt, hj3⟩ := q3; exact ⟨j', hlt, H3, M3, m3, S2.trans S3, R3, hj3⟩
    | cont => exact q3.elim
    | brk => exact ⟨H3, M3, m3, S2.trans S3, R3, q3⟩
    | ret v => exact ⟨H3, M3, m3, S2.trans S3, R3, q3⟩

theorem letGo {w : Value} {x : AV} {It : Addr} {i : Nat} {t : Expr} {v : Value} {P : Unit → Shared → Prop} {E : Value → Shared → Prop} (hit : ItAt s.heap w It i x) (h : P () s) : wpAny (model W.prog W.w) A (letOwnedTupleGo t (.ref It) v) P E s := by
  have key : ∀ o, s.heap.get? It = some o → (∀ c vs, o.cls = .type c → o.data = .fields vs → (["enumerate", "zip", "dict_itemiterator", "dict_reverseitemiterator", "odict_iterator", "itertools.zip_longest", "itertools.pairwise"].contains c) = false) → wpAny (model W.prog W.w) A (letOwnedTupleGo t (.ref It) v) P E s := by
    intro o ho hc
    unfold letOwnedTupleGo
    split <;> first
      | exact wpAny_pure h
      | (split
         · rename_i q; cases q
           refine wpAny_bind (wpAny_load ho ?_)
           split
           · rename_i c vs e1 e2
             rw [hc c vs e1 e2]
             exact wpAny_pure h
           · exact wpAny_pure h
         · exact wpAny_pure h)
  unfold ItAt at hit
  split at hit
  · exact key _ hit.2 fun c vs e1 e2 => by cases e1; decide
  · obtain ⟨l, e, o, h1, h2, h3⟩ := hit; exact key o h1 fun c vs e1 e2 => by rw [h2] at e1; cases e1; decide
  · obtain ⟨l, e, o, h1, h2, h3⟩ := hit; exact key o h1 fun c vs e1 e2 => by rw [h2] at e1; cases e1; decide

noncomputable def TgOK (sc : List (Str × NameKind)) (ρ : Rho) (e : Expr) (t : Tg) : Prop := match e with
  | .Name x _ => ∃ i, Slot1 sc ρ x i ∧ t = .v i
  | .Tuple es _ _ => ∃ is, Slots sc ρ es is ∧ t = .t is
  | _ => False
theorem tgt_sound (ha : A.handled = none) (ok : EnvOK W env sc ρ own) (r : Rel W frs own env ρ H m M s) {e : Expr} {t : Tg} (h : TgOK sc ρ e t) {v : Value} {x : AV} (hv : VR W H v x) {Q : List AV → Prop} (hq : t.put x m Q)
    {P : Unit → Shared → Prop} {E : Value → Shared → Prop} (hP : ∀ m' s', Step own (frOf frs) H M s H M s' → Rel W frs own env ρ H m' M s' → Q m' → P () s') : wpAny (model W.prog W.w) A (assign e env v) P E s := by
  unfold TgOK at h
  split at h
  · obtain ⟨i, h, rfl⟩ := h
    exact wpAny_assign_Name (set_sound ok r h hv fun s' S R' => hP _ s' S R' hq)
  · refine go1 fun G hG => ?_
    obtain ⟨is, h, rfl⟩ := h
    refine hG ?_
    exact tup_sound ha ok r h hv hq hP
  · exact h.elim

inductive ForI (W : Wd) (frs : List Env) (own : Addr → Prop) (env : Env) (ρ : Rho) (H : FH) (M : Mem) (s : Shared) (xs : List AV) (v : Value) (It : Addr) (xv : AV) (Iv : Nat → List AV → Mem → Prop) (i : Nat) (s' : Shared) : Prop
  | mk (H' : FH) (M' : Mem) (m' : List AV) (S : Step own (frOf frs) H M s H' M' s') (R : Rel W frs own env ρ H' m' M' s') (hit : ItAt s'.heap v It i xv) (st : stillP M' xv xs) (hH : H' It = none) (hM : M' It = none) (V : VR W H' v xv) (hi : i ≤ xs.length) (hI : Iv i m' M') : ForI W frs own env ρ H M s xs v It xv Iv i s'
theorem for_snd {t it : Expr} {as : List Stmt} {tg : Tg} {x : X} {a : St} (hset : notSet it = true) (ht : TgOK sc ρ t tg) (hi : Snd W k sc ρ n it x) (hs : SndB W k sc ρ n as a) : SndS W k sc ρ n (.For t it as [] pos) (.for tg x a) := fun {A frs own env m M N B R H s} c r hv => by
  refine wpAny_For (ev_then (hi.e c r hv) fun H1 M1 xv v s1 S1 I1 V1 q1 => ?_) (folded hset _)
  refine go1 fun G hG => ?_
  obtain ⟨xs, hxs, Iv, hI0, hIs, hIe⟩ := items_ex q1
  refine hG ?_
  have ok := c.ok
  have R1 := c.step r S1 I1
  refine iter_start I1 V1 hxs fun oIt hoIt hIt => ?_
  generalize hItd : s1.heap.objs.size = It at hIt ⊢
  have gIt : s1.heap.get? It = none := by rw [← hItd]; exact fresh_none s1.heap
  have dIt := I1.dead gIt
  obtain ⟨nO, nF⟩ := R1.fresh gIt
  have S0 : s.heap.get? It = none := by
    cases e : s.heap.get? It with
    | none => rfl
    | some o => obtain ⟨o', e'⟩ := S1.alive _ _ e; rw [gIt] at e'; cases e'
  refine codeAny_forLoop_any (fun j s' => ∃ i, j = xs.length + 1 - i ∧ ForI W frs own env ρ H M s xs v It xv Iv i s') ?_ (xs.length + 1) ⟨0, rfl, ?_⟩
  · rintro j s' ⟨i, rfl, H', M', m', S', R2, hit, hst, hIH, hIM, V2, hi, hI⟩
    have hx2 := items_still hxs hst
    rcases Nat.lt_or_ge i xs.length with hlt | hge
    · refine botE (iter_item R2.inv V2 hx2 hlt hit fun u y h' tk hy Va hit' hsb => ?_)
      have R3 := R2.but (h' := h') (tk := tk) ok hIH hIM nO nF fun b o q e => hsb.extBut b o q e
      have S3 := S'.dead (a := It) (h' := h') (tk := tk) S0 fun b o q e => hsb.extBut b o q e
      refine letGo hit' (tgt_sound c.ha.handled ok R3 ht Va (hIs i y m' M' hy hI) fun m4 s4 S4 R4 q4 => ?_)
      have hit4 : ItAt s4.heap v It (i + 1) xv := hit'.at fun o e => S4.keep It o e hIM nO nF
      refine wpAny_mono (hs c R4 q4) (fun fl s5 h5 => ?_) fun _ _ e => e.elim
      refine go1 fun G hG => ?_
      obtain ⟨H5, M5, m5, S5, R5, q5⟩ := h5
      refine hG ?_
      have St := (S3.trans S4).trans S5
      cases fl with
      | next =>
        obtain ⟨o, e⟩ := hit4.alive
        exact ⟨xs.length + 1 - (i + 1), Nat.sub_lt_sub_left (Nat.lt_succ_of_lt hlt) (Nat.lt_succ_self i), i + 1, rfl, H5, M5, m5, St, R5, hit4.at fun o e => S5.keep It o e hIM nO nF, q5.1, (S5.agr It o e).trans hIH, S5.mem It o e hIM, V2.mono (S5.le R4.inv), hlt, q5.2⟩
      | cont => exact q5.elim
      | brk => exact ⟨H5, M5, m5, St, R5, q5⟩
      | ret w => exact ⟨H5, M5, m5, St, R5, q5⟩
    · have hi' : i = xs.length := Nat.le_antisymm hi hge
      subst hi'
      exact botE (iter_done c.ha.handled R2.inv V2 hx2 hit fun h' hxb => wpAny_execs_nil ⟨H', M', m', S'.dead (a := It) (h' := h') (tk := s'.toks) S0 hxb, R2.but (h' := h') (tk := s'.toks) ok hIH hIM nO nF hxb, hIe _ _ hI⟩)
  · have k0 : ∀ b o, b ≠ It → s1.heap.get? b = some o → (s1.heap.push oIt).get? b = some o := fun b o _ e => Heap.get?_push_of_some _ e
    exact ⟨H1, M1, m, (Step.ofE ok S1).dead (a := It) (h' := s1.heap.push oIt) (tk := s1.toks) S0 k0, R1.but (h' := s1.heap.push oIt) (tk := s1.toks) ok dIt.1 dIt.2 nO nF k0, hIt, still_items hxs, dIt.1, dIt.2, V1, Nat.zero_le _, hI0⟩

theorem exp_snd {e : Expr} {a : X} (hb : plainE e = true) (h : Snd W k sc ρ n e a) : SndS W k sc ρ n (.Expr e pos) (.exp a) := fun {A frs own env m M N B R H s} c r hv =>
  wpAny_Expr (ev_then (h.e c r hv) fun H1 M1 x v s1 S1 I1 V1 q1 => by
    obtain ⟨hd, q⟩ := q1
    have : PS W frs own env ρ H M s N B R .next s1 := ⟨H1, M1, m, Step.ofE c.ok S1, c.step r S1 I1, q⟩
    cases V1 <;> first | exact this | exact hd.elim) (by unfold interactive; rw [c.ok.fn]; rfl) (by cases e <;> first | rfl | cases hb)
theorem ret_snd {e : Expr} {a : X} (h : Snd W k sc ρ n e a) : SndS W k sc ρ n (.Return (some e) pos) (.ret a) := fun c r hv =>
  wpAny_Return_some (ev_then (h.e c r hv) fun H1 M1 x v s1 S1 I1 V1 q1 => ⟨H1, M1, _, Step.ofE c.ok S1, c.step r S1 I1, x, V1, q1⟩)
theorem brk_snd : SndS W k sc ρ n (.Break pos) .brk := fun c r hv => wpAny_Break ⟨_, _, _, Step.refl, r, hv⟩
theorem bad_snd {st : Stmt} : SndS W k sc ρ n st .bad := fun c r hv => hv.elim
end
end Vg
end
section
set_option autoImplicit false
set_option linter.all false
namespace Vg
open PySem PySem.W PyProof.Rows

structure Tabl where
  consts : List (Str × AV)
  fns : List (Str × Nat × Fun)
  clss : List (Str × Nat × Nat × Fun)
  attrs : List Str
structure TabOK (W : Wd) (k : Nat) (T : Tabl) : Prop where
  wok : WOK W
  gok : ∀ c i, c < W.nc → i < W.na → GetOK W c i
  consts : ∀ x v, T.consts.lookup x = some v → ∃ r, W.mg x = some r ∧ VR W (fun b => W.h₀.get? b) r v
  fns : ∀ x p, T.fns.lookup x = some p → p.1 < k → ∃ fa, (W.mg x = some (.ref fa) ∧ ∃ o fd, W.h₀.get? fa = some o ∧ o.data = .func fd) ∧ FSound W p.1 fa p.2
  clss : ∀ x p, T.clss.lookup x = some p → p.2.1 < k → ∃ fi, ClsOK W x p.1 fi ∧ FSound W p.2.1 fi p.2.2
  attrs : ∀ x i, T.attrs.idxOf? x = some i → i < W.na ∧ W.attr i = x
  bis : ∀ f : Bi, W.mg (biName f) = none

noncomputable def gd {α : Type} (b : Bool) (f : b = true → Option α) : Option α := if h : b = true then f h else none
noncomputable def ob {α β : Type} (o : Option α) (f : ∀ a, o = some a → Option β) : Option β := match o, f with
  | some a, f => f a rfl
  | none, _ => none
noncomputable def op2 (op : Operator) : Option { o : Op2 // op = opOf o } := match op with
  | .Add => some ⟨.add, rfl⟩ | .Sub => some ⟨.sub, rfl⟩ | .Mult => some ⟨.mul, rfl⟩ | .FloorDiv => some ⟨.fdiv, rfl⟩ | .Mod => some ⟨.mod, rfl⟩ | .LShift => some ⟨.shl, rfl⟩ | .RShift => some ⟨.shr, rfl⟩
  | .BitAnd => some ⟨.band, rfl⟩ | .BitOr => some ⟨.bor, rfl⟩ | .BitXor => some ⟨.bxor, rfl⟩
  | _ => none
noncomputable def isInp : Op2 → Bool
  | .add => true | .sub => true | .band => true | .bor => true | .bxor => true
  | _ => false
theorem isInp_of {op : Op2} (h : isInp op = true) : op = .add ∨ op = .sub ∨ op = .band ∨ op = .bor ∨ op = .bxor := by
  cases op <;> first | exact .inl rfl | exact .inr (.inl rfl) | exact .inr (.inr (.inl rfl)) | exact .inr (.inr (.inr (.inl rfl))) | exact .inr (.inr (.inr (.inr rfl))) | cases h
noncomputable def cmo (c : CmpOp) : Option { o : Cm // c = cmOf o } := match c with
  | .Lt => some ⟨.lt, rfl⟩ | .LtE => some ⟨.le, rfl⟩ | .Gt => some ⟨.gt, rfl⟩ | .GtE => some ⟨.ge, rfl⟩ | .Eq => some ⟨.eq, rfl⟩ | .NotEq => some ⟨.ne, rfl⟩
  | _ => none
noncomputable def bi? (x : Str) : Option { b : Bi // biName b = x } :=
  [Bi.len, .range, .abs, .min, .max, .sum, .int, .list].foldr (fun b acc => if h : (biName b == x) = true then some ⟨b, eq_of_beq h⟩ else acc) none
noncomputable def me? (x : Str) : Option { b : Me // meName b = x } :=
  [Me.append, .extend, .index, .count].foldr (fun b acc => if h : (meName b == x) = true then some ⟨b, eq_of_beq h⟩ else acc) none

section
variable {W : Wd} {k : Nat} {T : Tabl}
noncomputable abbrev OE (W : Wd) (k : Nat) (sc : List (Str × NameKind)) (ρ : Rho) (n : Nat) (e : Expr) := Option { x : X // Snd W k sc ρ n e x }
noncomputable abbrev TrE (W : Wd) (k : Nat) := ∀ (sc : List (Str × NameKind)) (ρ : Rho) (n : Nat) (e : Expr), OE W k sc ρ n e

theorem ne_beq {x y : Str} (h : (x != y) = true) : (x == y) = false := by
  unfold bne at h
  cases q : x == y
  · rfl
  · rw [q] at h; cases h

noncomputable def trName (t : TabOK W k T) (sc : List (Str × NameKind)) (ρ : Rho) (n : Nat) (x : Str) (pos : Pos) : OE W k sc ρ n (.Name x pos) :=
  gd (x != "__debug__") fun h0 => (ob (ρ.lookup x) fun i hl => gd (x != "__classdict__") fun h1 => some ⟨.v i, name_v (ne_beq h0) (ne_beq h1) hl⟩).orElse fun zz =>
    gd (sc.lookup x == some .globalImplicit) fun hg => ob (T.consts.lookup x) fun v hc => some ⟨.c v, name_g t.wok (t.consts x v hc) (ne_beq h0) (eq_of_beq hg)⟩
noncomputable def trArgs (ih : TrE W k) (sc : List (Str × NameKind)) (ρ : Rho) (n : Nat) (es : List Expr) : Option { xs : List X // Snds W k sc ρ n es xs } :=
  List.rec (some ⟨[], .nil⟩) (fun e _ r => gd (notStar e) fun h => (ih sc ρ n e).bind fun a => r.bind fun b => some ⟨a.1 :: b.1, .cons h a.2 b.2⟩) es
noncomputable def trL (ih : TrE W k) (sc : List (Str × NameKind)) (ρ : Rho) (n : Nat) (op : BoolOp) (es : List Expr) : Option { x : X // SndL W k sc ρ n op es x } :=
  List.rec none (fun e r => match r with
    | [] => fun zz => (ih sc ρ n e).bind fun a => some ⟨a.1, SndL.one a.2⟩
    | _ :: _ => fun r => (ih sc ρ n e).bind fun a => r.bind fun b => some ⟨boolX op a.1 b.1, .cons a.2 b.2⟩) es
noncomputable def trCall (t : TabOK W k T) (sc : List (Str × NameKind)) (ρ : Rho) (n : Nat) (x : Str) (xp : Pos) (es : List Expr) (pos : Pos) (xs : { xs : List X // Snds W k sc ρ n es xs }) : OE W k sc ρ n (.Call (.Name x xp) es [] pos) :=
  gd (x != "__debug__") fun h0 => gd (sc.lookup x == some .globalImplicit) fun hg =>
    (ob (T.fns.lookup x) fun p hp => gd (decide (p.1 < k)) fun hk => some ⟨.call p.2 xs.1, by
      obtain ⟨fa, h1, h2⟩ := t.fns x p hp (of_decide_eq_true hk)
      exact call_snd t.wok h1 (of_decide_eq_true hk) h2 (ne_beq h0) (eq_of_beq hg) xs.2⟩).orElse fun zz =>
    (ob (T.clss.lookup x) fun p hp => gd (decide (p.2.1 < k)) fun hk => some ⟨.new p.1 p.2.2 xs.1, by
      obtain ⟨fi, h1, h2⟩ := t.clss x p hp (of_decide_eq_true hk)
      exact new_snd t.wok h1 (of_decide_eq_true hk) h2 (ne_beq h0) (eq_of_beq hg) xs.2⟩).orElse fun zz =>
    (bi? x).bind fun b => some ⟨.bi b.1 xs.1, by
      obtain ⟨b, rfl⟩ := b
      exact bi_snd t.wok (t.bis b) (eq_of_beq hg) xs.2⟩
noncomputable def CompP (W : Wd) (k : Nat) (sc : List (Str × NameKind)) (ρ : Rho) (n : Nat) (elt : Expr) (gs : List Comprehension) (scope : Scope) (x : X) : Prop :=
  (∀ pos, Snd W k sc ρ n (.ListComp elt gs scope pos) x) ∧ ∀ y p i cp pos, Slot1 sc ρ y i → SndS W k sc ρ n (.Assign [.Name y p] (.ListComp elt gs scope cp) pos) (.setv i x)
noncomputable def trIfs (ih : TrE W k) (sc : List (Str × NameKind)) (ρ : Rho) (n : Nat) (es : List Expr) : Option { x : X // Ifs W k sc ρ n es x } := match es with
  | [] => some ⟨.yes, Ifs.none⟩
  | [e] => (ih sc ρ n e).bind fun a => some ⟨a.1, Ifs.one a.2⟩
  | _ => none
noncomputable def trComp (ih : TrE W k) (sc : List (Str × NameKind)) (ρ : Rho) (n : Nat) (elt : Expr) (gs : List Comprehension) (scope : Scope) : Option { x : X // CompP W k sc ρ n elt gs scope x } := match gs with
  | [⟨.Name y px, it, ifs, 0⟩] => gd (compOK ρ sc scope y) fun h1 => gd (notSet it) fun h2 => (ih sc ρ n it).bind fun i => (trIfs ih scope.names (compRho ρ scope.names y n) (n + 1) ifs).bind fun c => (ih scope.names (compRho ρ scope.names y n) (n + 1) elt).bind fun e =>
      some ⟨.comp e.1 n i.1 c.1, fun zz => comp_snd h1 h2 i.2 c.2 e.2, fun _ _ _ _ _ h => setv_comp h h1 h2 i.2 c.2 e.2⟩
  | _ => none

noncomputable def trE1 (t : TabOK W k T) (ih : TrE W k) : TrE W k := fun sc ρ n e => match e with
  | .Constant c _ _ => (match c with
    | .none => some ⟨.c .none, const_none⟩
    | .bool b => some ⟨.c (.bool b), const_bool⟩
    | .int i => some ⟨.c (.int i), const_int⟩
    | _ => none)
  | .Name x pos => trName t sc ρ n x pos
  | .BinOp l op r _ => (op2 op).bind fun o => (ih sc ρ n l).bind fun a => (ih sc ρ n r).bind fun b => some ⟨.bin o.1 a.1 b.1, by obtain ⟨o, rfl⟩ := o; exact bin_snd a.2 b.2⟩
  | .UnaryOp op x _ => (ih sc ρ n x).bind fun a => (match op with
    | .USub => some ⟨.neg a.1, neg_snd a.2⟩
    | .Invert => some ⟨.inv a.1, inv_snd a.2⟩
    | .Not => some ⟨.not a.1, not_snd a.2⟩
    | _ => none)
  | .BoolOp op es _ => (match es with
    | a :: b :: r => (trL ih sc ρ n op (a :: b :: r)).bind fun x => some ⟨x.1, x.2.snd⟩
    | _ => none)
  | .IfExp c a b _ => (ih sc ρ n c).bind fun c => (ih sc ρ n a).bind fun a => (ih sc ρ n b).bind fun b => some ⟨.ite c.1 a.1 b.1, ite_snd c.2 a.2 b.2⟩
  | .Compare l ops rs _ => (ih sc ρ n l).bind fun a => (match ops, rs with
    | [op], [r] => (ob (cmo op) fun o _ => gd (behindInMarks op r == false) fun h => (ih sc ρ n r).bind fun b => some ⟨.cmp o.1 a.1 b.1, by obtain ⟨o, rfl⟩ := o; exact cmp_snd a.2 b.2 (eq_of_beq h)⟩).orElse fun zz => (match op, r with
        | .In, r => gd (behindInMarks .In r == false) fun h => (ih sc ρ n r).bind fun b => some ⟨.isin a.1 b.1, in_snd a.2 b.2 (eq_of_beq h)⟩
        | .Is, .Constant .none _ _ => some ⟨.isn false a.1, isn_snd false a.2⟩
        | .IsNot, .Constant .none _ _ => some ⟨.isn true a.1, isn_snd true a.2⟩
        | _, _ => none)
    | [op, op'], [r, r'] => (cmo op).bind fun o => (cmo op').bind fun o' => gd (behindInMarks op' r' == false) fun h => (ih sc ρ n r).bind fun b => (ih sc ρ n r').bind fun d => some ⟨.cmp2 o.1 o'.1 a.1 b.1 d.1, by
        obtain ⟨o, rfl⟩ := o; obtain ⟨o', rfl⟩ := o'; exact cmp2_snd a.2 b.2 d.2 (eq_of_beq h)⟩
    | _, _ => none)
  | .Call f es ks pos => (match ks, f with
    | [], .Name x xp => (trArgs ih sc ρ n es).bind fun xs => trCall t sc ρ n x xp es pos xs
    | [], .Attribute o name ap => (match es with
      | [a] => (me? name).bind fun g => gd (notCall o) fun h1 => gd (notStar a) fun h2 => gd (ap.endLine == pos.line) fun h3 => (ih sc ρ n o).bind fun x => (ih sc ρ n a).bind fun y => some ⟨.me g.1 x.1 y.1, by
          obtain ⟨g, rfl⟩ := g; exact me_snd h1 h2 h3 x.2 y.2⟩
      | _ => none)
    | _, _ => none)
  | .Attribute o name _ => gd (notCall o) fun h => ob (T.attrs.idxOf? name) fun i hi => (ih sc ρ n o).bind fun x => some ⟨.at x.1 i, by
      obtain ⟨h1, rfl⟩ := t.attrs _ _ hi; exact at_snd t.wok t.gok h h1 x.2⟩
  | .Subscript v i _ => (ih sc ρ n v).bind fun o => (match i with
    | .Slice lo hi st _ => (match lo, hi, st with
      | none, some h, none => (ih sc ρ n h).bind fun h => some ⟨.slh o.1 h.1, slh_snd o.2 h.2⟩
      | some l, some h, none => (ih sc ρ n l).bind fun l => (ih sc ρ n h).bind fun h => some ⟨.slb o.1 l.1 h.1, slb_snd o.2 l.2 h.2⟩
      | _, _, _ => none)
    | i => (ih sc ρ n i).bind fun i => some ⟨.sub o.1 i.1, sub_snd o.2 i.2⟩)
  | .List es _ => (trArgs ih sc ρ n es).bind fun xs => some ⟨.lst xs.1, list_snd xs.2⟩
  | .Tuple es _ _ => gd (decide (es.length ≤ 2000000)) fun h => (trArgs ih sc ρ n es).bind fun xs => some ⟨.tup xs.1, tup_snd (of_decide_eq_true h) xs.2⟩
  | .ListComp elt gs scope _ => (trComp ih sc ρ n elt gs scope).bind fun x => some ⟨x.1, x.2.1 _⟩
  | _ => none
noncomputable def trE (t : TabOK W k T) (g : Nat) : TrE W k := Nat.rec (fun zz zz zz zz => none) (fun _ ih => trE1 t ih) g

noncomputable abbrev OS (W : Wd) (k : Nat) (sc : List (Str × NameKind)) (ρ : Rho) (n : Nat) (e : Stmt) := Option { x : St // SndS W k sc ρ n e x }
noncomputable def slot1 (sc : List (Str × NameKind)) (ρ : Rho) (x : Str) : Option { i : Nat // Slot1 sc ρ x i } :=
  ob (ρ.lookup x) fun i hi => gd (sc.lookup x == some .local || sc.lookup x == some .cell) fun h => some ⟨i, hi, by rw [Bool.or_eq_true, beq_iff_eq, beq_iff_eq] at h; exact h⟩
noncomputable def slots (sc : List (Str × NameKind)) (ρ : Rho) (es : List Expr) : Option { is : List Nat // Slots sc ρ es is } :=
  List.rec (some ⟨[], .nil⟩) (fun e _ r => match e with
    | .Name x _ => (slot1 sc ρ x).bind fun i => r.bind fun b => some ⟨i.1 :: b.1, .cons i.2 b.2⟩
    | _ => none) es
noncomputable def tgt (sc : List (Str × NameKind)) (ρ : Rho) (e : Expr) : Option { t : Tg // TgOK sc ρ e t } := match e with
  | .Name x _ => (slot1 sc ρ x).bind fun i => some ⟨.v i.1, i.1, i.2, rfl⟩
  | .Tuple es _ _ => (slots sc ρ es).bind fun is => some ⟨.t is.1, is.1, is.2, rfl⟩
  | _ => none
noncomputable def trB (sc : List (Str × NameKind)) (ρ : Rho) (n : Nat) (ih : ∀ st, OS W k sc ρ n st) (sts : List Stmt) : Option { x : St // SndB W k sc ρ n sts x } :=
  List.rec (some ⟨.nop, SndB.nil⟩) (fun e _ r => (ih e).bind fun a => r.bind fun b => some ⟨.seq a.1 b.1, SndB.cons a.2 b.2⟩) sts
noncomputable def trS1 (t : TabOK W k T) (f : TrE W k) (sc : List (Str × NameKind)) (ρ : Rho) (n : Nat) (ih : ∀ st, OS W k sc ρ n st) : ∀ st, OS W k sc ρ n st := fun st => match st with
  | .Expr e _ => gd (plainE e) fun h => (f sc ρ n e).bind fun a => some ⟨.exp a.1, exp_snd h a.2⟩
  | .Assign ts e pos => (match ts with
    | [.Name x p] => (slot1 sc ρ x).bind fun i => (match e with
      | .Tuple es c tp => (f sc ρ n (.Tuple es c tp)).bind fun a => some ⟨.setv i.1 a.1, setv_tup i.2 a.2⟩
      | .ListComp elt gs scope _ => (trComp f sc ρ n elt gs scope).bind fun x => some ⟨.setv i.1 x.1, x.2.2 _ _ _ _ _ i.2⟩
      | e => gd (plainE e) fun h => (f sc ρ n e).bind fun a => some ⟨.setv i.1 a.1, setv_snd h i.2 a.2⟩)
    | [.Tuple es c p] => gd (plainE e) fun h => (slots sc ρ es).bind fun is => (f sc ρ n e).bind fun a => some ⟨.sett is.1 a.1, sett_snd h is.2 a.2⟩
    | [.Attribute o name p] => ob (T.attrs.idxOf? name) fun i hi => (f sc ρ n o).bind fun o => (f sc ρ n e).bind fun a => some ⟨.seta o.1 i a.1, by
        obtain ⟨h1, rfl⟩ := t.attrs _ _ hi; exact seta_snd t.wok t.gok h1 o.2 a.2⟩
    | [.Subscript o i p] => (f sc ρ n o).bind fun o => (f sc ρ n i).bind fun i => (f sc ρ n e).bind fun a => some ⟨.sets o.1 i.1 a.1, sets_snd o.2 i.2 a.2⟩
    | _ => none)
  | .AugAssign tg op e pos => (op2 op).bind fun op => gd (isInp op.1) fun ho => (f sc ρ n e).bind fun a => (match tg with
    | .Name x p => gd (x != "__classdict__") fun h => (slot1 sc ρ x).bind fun i => some ⟨.augv i.1 op.1 a.1, by obtain ⟨op, rfl⟩ := op; exact augv_snd (isInp_of ho) (ne_beq h) i.2 a.2⟩
    | .Attribute o name p => ob (T.attrs.idxOf? name) fun i hi => (f sc ρ n o).bind fun o => some ⟨.auga o.1 i op.1 a.1, by
        obtain ⟨op, rfl⟩ := op; obtain ⟨h1, rfl⟩ := t.attrs _ _ hi; exact auga_snd t.wok t.gok h1 (isInp_of ho) o.2 a.2⟩
    | .Subscript o i p => gd (plainE i) fun h => (f sc ρ n o).bind fun o => (f sc ρ n i).bind fun i => some ⟨.augs o.1 i.1 op.1 a.1, by obtain ⟨op, rfl⟩ := op; exact augs_snd h (isInp_of ho) o.2 i.2 a.2⟩
    | _ => none)
  | .Return e _ => (match e with
    | some e => (f sc ρ n e).bind fun a => some ⟨.ret a.1, ret_snd a.2⟩
    | none => none)
  | .If c a b _ => (f sc ρ n c).bind fun c => (trB sc ρ n ih a).bind fun a => (trB sc ρ n ih b).bind fun b => some ⟨.ife c.1 a.1 b.1, ife_snd c.2 a.2 b.2⟩
  | .While c a b _ => (match b with
    | [] => (f sc ρ n c).bind fun c => (trB sc ρ n ih a).bind fun a => some ⟨.wh c.1 a.1, wh_snd c.2 a.2⟩
    | _ => none)
  | .For tg it a b _ => (match b with
    | [] => gd (notSet it) fun h => (tgt sc ρ tg).bind fun tg => (f sc ρ n it).bind fun it => (trB sc ρ n ih a).bind fun a => some ⟨.for tg.1 it.1 a.1, for_snd h tg.2 it.2 a.2⟩
    | _ => none)
  | .Break _ => some ⟨.brk, brk_snd⟩
  | .Raise a b c => some ⟨.bad, bad_snd⟩
  | _ => none
noncomputable def trS (t : TabOK W k T) (f : TrE W k) (sc : List (Str × NameKind)) (ρ : Rho) (n : Nat) (g : Nat) : ∀ st, OS W k sc ρ n st := Nat.rec (fun zz => none) (fun _ ih => trS1 t f sc ρ n ih) g
end
end Vg
end
section
set_option autoImplicit false
set_option linter.all false
namespace Vg
open PySem PySem.W PyProof.Rows

noncomputable def frz (Z : Addr → Bool) (M : Mem) (n : Nat) : AV → AV := Nat.rec (fun x => x) (fun _ ih x => match x with
  | .ref a => if Z a then (match M a with | some (.list xs) => .lst (xs.map ih) | _ => .ref a) else .ref a
  | .inst c d => if Z d then (match M d with | some (.flds fs) => .obj c (fs.map fun p => (p.1, ih p.2)) | _ => .inst c d) else .inst c d
  | .tup xs => .tup (xs.map ih)
  | x => x) n

theorem VRs.map {W : Wd} {H H' : FH} {f : AV → AV} (hf : ∀ {v : Value} {x : AV}, VR W H v x → VR W H' v (f x)) {vs : List Value} {xs : List AV} (h : VRs W H vs xs) : VRs W H' vs (xs.map f) :=
  ⟨h.1.trans (List.length_map f).symm, fun i v x a b => by
    rw [List.getElem?_map] at b
    obtain ⟨y, e, rfl⟩ := Option.map_eq_some_iff.mp b
    exact hf (h.2 i v y a e)⟩
theorem FR.map {W : Wd} {H H' : FH} {f : AV → AV} (hf : ∀ {v : Value} {x : AV}, VR W H v x → VR W H' v (f x)) {vs : List DictEntry} {xs : List (Nat × AV)} (h : FR W H vs xs) : FR W H' vs (xs.map fun p => (p.1, f p.2)) :=
  ⟨fun i v x a b => by
    rw [List.getElem?_map] at b
    obtain ⟨y, e, rfl⟩ := Option.map_eq_some_iff.mp b
    exact h.1 i v y a e, h.2.1.trans (List.length_map _).symm, fun i v x a b => by
    rw [List.getElem?_map] at b
    obtain ⟨y, e, rfl⟩ := Option.map_eq_some_iff.mp b
    exact hf (h.2.2 i v y a e)⟩
theorem frz_sound {W : Wd} {H H' : FH} {M : Mem} {Z : Addr → Bool} (hle : H.le H') (hZ : ∀ a o, Z a = true → M a = some o → ∃ ob, H' a = some ob ∧ OR W H ob o) (n : Nat) : ∀ {v : Value} {x : AV}, VR W H v x → VR W H' v (frz Z M n x) := by
  induction n with
  | zero => exact fun h => h.mono hle
  | succ n ih =>
    intro v x h
    cases h with
    | ref a =>
      show VR W H' _ (if Z a then (match M a with | some (.list xs) => AV.lst (xs.map (frz Z M n)) | _ => .ref a) else .ref a)
      split
      · rename_i hz
        split
        · rename_i xs hm
          refine go1 fun G hG => ?_
          obtain ⟨ob, e, vs, c, rfl, l, e2⟩ := hZ a _ hz hm
          refine hG ?_
          exact .lst e l (e2.map ih).1 (e2.map ih).2
        · exact .ref a
      · exact .ref a
    | @inst a d c h1 h2 =>
      show VR W H' _ (if Z d then (match M d with | some (.flds fs) => AV.obj c (fs.map fun p => (p.1, frz Z M n p.2)) | _ => .inst c d) else .inst c d)
      split
      · rename_i hz
        split
        · rename_i xs hm
          refine go1 fun G hG => ?_
          obtain ⟨ob, e, es, k, rfl, e2⟩ := hZ _ _ hz hm
          refine hG ?_
          exact .obj (hle _ _ h1) e (e2.map ih).1 (e2.map ih).2.1 (e2.map ih).2.2 h2
        · exact .inst (hle _ _ h1) h2
      · exact .inst (hle _ _ h1) h2
    | tup h1 h2 h3 h4 h5 h6 => exact .tup (hle _ _ h1) h2 h3 h4 (VRs.map ih ⟨h5, h6⟩).1 (VRs.map ih ⟨h5, h6⟩).2
    | none => exact .none
    | bool b => exact .bool b
    | int i t => exact .int i t
    | lst h1 h2 h3 h4 => exact (VR.lst h1 h2 h3 h4).mono hle
    | obj h1 h2 h3 h4 h5 h6 => exact (VR.obj h1 h2 h3 h4 h5 h6).mono hle
    | rng h1 h2 => exact .rng (hle _ _ h1) h2

noncomputable def Exit (M : Mem) (Q : AV → Mem → Prop) (x : AV) (M' : Mem) : Prop :=
  ∃ (Z : Addr → Bool) (n : Nat) (M'' : Mem), (∀ b, Z b = true → M b = none) ∧ M''.le M' ∧ (∀ b, Z b = true → M'' b = none) ∧ Q (frz Z M' n x) M''

theorem Exit.keep {M M' : Mem} {Q : AV → Mem → Prop} {x : AV} (h : Q x M') : Exit M Q x M' :=
  ⟨fun zz => false, 0, M', by simp, Mem.le.refl _, by simp, h⟩
theorem Exit.drop {M M' M'' : Mem} {Q : AV → Mem → Prop} {x : AV} (hl : M''.le M') (h : Q x M'') : Exit M Q x M' :=
  ⟨fun zz => false, 0, M'', by simp, hl, by simp, h⟩

theorem exit_sound {W : Wd} {fr : Addr → Prop} {H H' : FH} {M M' : Mem} {s s' : Shared} {Q : AV → Mem → Prop} {v : Value} {x : AV} (S : Step none_ fr H M s H' M' s') (I : Inv W H' M' s') (hv : VR W H' v x) (h : Exit M Q x M') : PE W fr H M s Q v s' := by
  obtain ⟨Z, n, M'', z1, z2, z3, q⟩ := h
  obtain ⟨H'', a1, a2⟩ : ∃ H'' : FH, (∀ b, ¬ (Z b = true ∧ (M' b).isSome = true) → H'' b = H' b) ∧ (∀ b, Z b = true ∧ (M' b).isSome = true → H'' b = s'.heap.get? b) :=
    ⟨fun b => if Z b = true ∧ (M' b).isSome = true then s'.heap.get? b else H' b, fun b h => if_neg h, fun b h => if_pos h⟩
  have hle : FH.le H' H'' := fun b o e => by
    rw [a1]
    · exact e
    · rintro ⟨_, q⟩
      obtain ⟨y, q⟩ := Option.isSome_iff_exists.mp q
      rw [I.disj b y q] at e; cases e
  refine ⟨H'', M'', frz Z M' n x, ⟨S.alive, S.keep, S.keepF, fun b o e => ?_, fun b o e hM => z2.none (S.mem b o e hM), S.gens, S.os⟩, ⟨fun b o e => ?_, fun b o e => hle b o (I.base b o e), fun b y e => ?_, fun b y e => ?_⟩, frz_sound hle (fun a o hz hm => ?_) n hv, q⟩
  · rw [a1]
    · exact S.agr b o e
    · rintro ⟨hz, q⟩
      rw [S.mem b o e (z1 b hz)] at q; cases q
  · by_cases q : Z b = true ∧ (M' b).isSome = true
    · rw [a2 b q] at e; exact e
    · rw [a1 b q] at e; exact I.sub b o e
  · obtain ⟨o, e1, e2⟩ := I.mem b y (z2 b y e)
    exact ⟨o, e1, e2.mono hle⟩
  · rw [a1]
    · exact I.disj b y (z2 b y e)
    · rintro ⟨hz, _⟩
      rw [z3 b hz] at e; cases e
  · obtain ⟨ob, e1, e2⟩ := I.mem a o hm
    refine ⟨ob, ?_, e2⟩
    rw [a2 a ⟨hz, by rw [hm]; rfl⟩]
    exact e1

noncomputable def namesOf (names : List Str) (scope : Scope) : List Str :=
  names ++ (scope.names.filter fun p => (p.2 == .local || p.2 == .cell) && !names.contains p.1).map (·.1)
noncomputable def rhoOf (names : List Str) (scope : Scope) : Rho := (namesOf names scope).zipIdx
noncomputable def defOK (names : List Str) (scope : Scope) : Bool :=
  ((namesOf names scope).all fun x => scope.names.lookup x == some .local || scope.names.lookup x == some .cell) && decide names.Nodup && scope.kind == .function && !scope.isCoroutine && !scope.isGenerator
noncomputable def fnT (np p : Nat) (b : St) : Fun := fun xs M Q => xs.length = np ∧ b (xs ++ List.replicate p .undef) M (fun _ M' => Exit M Q .none M') (fun zz zz => False) fun v M' => Exit M Q v M'

theorem zipIdx_lookup : ∀ {l : List Str} {n : Nat} {x : Str} {i : Nat}, (l.zipIdx n).lookup x = some i → n ≤ i ∧ l[i - n]? = some x
  | [], n, x, i, h => by simp at h
  | y :: r, n, x, i, h => by
    rw [List.zipIdx_cons, List.lookup_cons] at h
    cases q : x == y with
    | true =>
      rw [q] at h
      simp only [Option.some.injEq] at h
      subst h
      rw [beq_iff_eq] at q
      subst q
      simp
    | false =>
      rw [q] at h
      obtain ⟨h1, h2⟩ := zipIdx_lookup h
      refine ⟨by omega, ?_⟩
      have : i - n = (i - (n + 1)) + 1 := (Nat.sub_add_cancel (Nat.sub_pos_of_lt h1)).symm
      rw [this]
      simpa using h2
theorem rho_get {names : List Str} {scope : Scope} {x : Str} {i : Nat} (h : (rhoOf names scope).lookup x = some i) : (namesOf names scope)[i]? = some x := by
  have := (zipIdx_lookup h).2
  simpa using this

theorem bindL_other {kindOf : Str → Option NameKind} {x : Str} : ∀ {names : List Str} {vals : List Value} {m : Str → Option Value}, x ∉ names → bindL kindOf (names.zip vals) m x = m x
  | [], vals, m, h => by simp [bindL]
  | y :: r, [], m, h => by simp [bindL]
  | y :: r, v :: vs, m, h => by
    rw [List.zip_cons_cons]
    unfold bindL
    rw [bindL_other (fun q => h (.tail _ q))]
    split
    · exact if_neg (fun q : x = y => h (by rw [q]; exact .head _))
    · rfl
theorem bindC_other {kindOf : Str → Option NameKind} {x : Str} : ∀ {names : List Str} {vals : List Value} {m : Str → Option Value}, x ∉ names → bindC kindOf (names.zip vals) m x = m x
  | [], vals, m, h => by simp [bindC]
  | y :: r, [], m, h => by simp [bindC]
  | y :: r, v :: vs, m, h => by
    rw [List.zip_cons_cons]
    unfold bindC
    rw [bindC_other (fun q => h (.tail _ q))]
    split
    · rfl
    · exact if_neg (fun q : x = y => h (by rw [q]; exact .head _))
theorem bindL_get {kindOf : Str → Option NameKind} {x : Str} (hk : kindOf x = some .local) : ∀ {names : List Str} {vals : List Value} {m : Str → Option Value} {i : Nat} {v : Value}, names.Nodup → names[i]? = some x → vals[i]? = some v → bindL kindOf (names.zip vals) m x = some v
  | [], vals, m, i, v, _, h, _ => by simp at h
  | y :: r, [], m, i, v, _, _, h => by simp at h
  | y :: r, w :: vs, m, 0, v, hn, h1, h2 => by
    simp at h1 h2
    subst h1; subst h2
    rw [List.nodup_cons] at hn
    rw [List.zip_cons_cons]
    unfold bindL
    rw [bindL_other hn.1, if_pos hk]
    simp
  | y :: r, w :: vs, m, i + 1, v, hn, h1, h2 => by
    rw [List.nodup_cons] at hn
    rw [List.zip_cons_cons]
    unfold bindL
    exact bindL_get hk hn.2 (by simpa using h1) (by simpa using h2)
theorem bindC_get {kindOf : Str → Option NameKind} {x : Str} (hk : ¬ kindOf x = some .local) : ∀ {names : List Str} {vals : List Value} {m : Str → Option Value} {i : Nat} {v : Value}, names.Nodup → names[i]? = some x → vals[i]? = some v → bindC kindOf (names.zip vals) m x = some v
  | [], vals, m, i, v, _, h, _ => by simp at h
  | y :: r, [], m, i, v, _, _, h => by simp at h
  | y :: r, w :: vs, m, 0, v, hn, h1, h2 => by
    simp at h1 h2
    subst h1; subst h2
    rw [List.nodup_cons] at hn
    rw [List.zip_cons_cons]
    unfold bindC
    rw [bindC_other hn.1, if_neg hk]
    simp
  | y :: r, w :: vs, m, i + 1, v, hn, h1, h2 => by
    rw [List.nodup_cons] at hn
    rw [List.zip_cons_cons]
    unfold bindC
    exact bindC_get hk hn.2 (by simpa using h1) (by simpa using h2)

theorem cellsFrom_some {x : Str} : ∀ {names : List (Str × NameKind)} {n : Nat} {acc : List (Str × Addr)}, ((x, NameKind.cell) ∈ names ∨ (acc.lookup x).isSome = true) → ((cellsFrom n names acc).lookup x).isSome = true
  | [], n, acc, h => by rcases h with h | h; cases h; exact h
  | (y, kd) :: r, n, acc, h => by
    unfold cellsFrom
    split
    · refine cellsFrom_some ?_
      rcases h with h | h
      · rcases List.mem_cons.mp h with e | e
        · cases e; right; simp
        · exact .inl e
      · right
        rw [List.lookup_cons]
        split
        · rfl
        · exact h
    · rename_i hk
      refine cellsFrom_some ?_
      rcases h with h | h
      · rcases List.mem_cons.mp h with e | e
        · cases e; simp at hk
        · exact .inl e
      · exact .inr h

theorem vrs_dom {W : Wd} {H : FH} {vs : List Value} {xs : List AV} (h : VRs W H vs xs) {i p : Nat} (hd : (xs ++ List.replicate p AV.undef).getD i .undef ≠ .undef) : ∃ v, vs[i]? = some v ∧ VR W H v ((xs ++ List.replicate p AV.undef).getD i .undef) := by
  by_cases q : i < xs.length
  · have e : (xs ++ List.replicate p AV.undef).getD i .undef = xs[i] := by
      rw [List.getD_eq_getElem?_getD, List.getElem?_append_left q, List.getElem?_eq_getElem q]; rfl
    rw [e]
    exact h.get (by rw [List.getElem?_eq_getElem q])
  · exfalso
    apply hd
    rw [List.getD_eq_getElem?_getD, List.getElem?_append_right (Nat.not_lt.mp q), List.getElem?_replicate]
    split <;> rfl

theorem arg_get {W : Wd} {H : FH} {vs : List Value} {xs : List AV} {names : List Str} {scope : Scope} {p i : Nat} {x : Str} {G : Prop} (V : VRs W H vs xs) (hvl : vs.length = names.length) (h1 : (rhoOf names scope).lookup x = some i) (h3 : (xs ++ List.replicate p AV.undef).getD i .undef ≠ .undef)
    (q : ∀ v, vs[i]? = some v → names[i]? = some x → VR W H v ((xs ++ List.replicate p AV.undef).getD i .undef) → G) : G := by
  obtain ⟨v, e1, e2⟩ := vrs_dom V h3
  have hi : i < names.length := hvl ▸ (List.getElem?_eq_some_iff.mp e1).1
  have hg := rho_get h1
  unfold namesOf at hg
  rw [List.getElem?_append_left hi] at hg
  exact q v e1 hg e2
section
variable {W : Wd} {k p : Nat} {fa : Addr} {names : List Str} {body : List Stmt} {scope : Scope} {b : St}

theorem call_gen (wok : WOK W) (fok : FnOK W fa names body scope) (hc : defOK names scope = true) {xs : List AV} {M : Mem} {A : Around} {frs : List Env} {H : FH} {s : Shared} {vs : List Value} {R₀ : Result → Shared → Prop} (hl : xs.length = names.length) (ha : AOK A (k + 1) frs) (I : Inv W H M s) (FI : FrInv W frs H M s.heap) (V : VRs W H vs xs)
    (go : ∀ {own : Addr → Prop} {env : Env} {s₁ : Shared}, env.frame = some s.heap.objs.size → Cx W k scope.names (rhoOf names scope) (namesOf names scope).length (A.deeper env) (env :: frs) own env → Rel W (env :: frs) own env (rhoOf names scope) H (xs ++ List.replicate p .undef) M s₁ →
      (∀ {H' : FH} {M' : Mem} {s' : Shared}, Step own (frOf (env :: frs)) H M s₁ H' M' s' → Step none_ (frOf frs) H M s H' M' s') → (∀ b o, s.heap.get? b = some o → s₁.heap.get? b = some o) →
      wpAny (model W.prog W.w) (A.deeper env) (execs body env) (fun fl s' => R₀ (.ok (.ret (match fl with | .ret v => v | _ => .none))) s') (fun e s' => wpAny (model W.prog W.w) (A.deeper env) (leaving env e) (fun _ s'' => R₀ (.error e) s'') (fun e' s'' => R₀ (.error e') s'') s') s₁) :
    codeAny (model W.prog W.w) A (.call (.ref fa) ⟨vs, []⟩) R₀ s := by
  refine go1 fun G hG => ?_
  obtain ⟨o, fd, f1, f2, f3, f4, rfl, f6, f7, f8, f9⟩ := fok.at_
  refine hG ?_
  unfold defOK at hc
  simp only [Bool.and_eq_true, Bool.or_eq_true, beq_iff_eq, decide_eq_true_eq, Bool.not_eq_true', List.all_eq_true] at hc
  refine go1 fun G hG => ?_
  obtain ⟨⟨⟨⟨hst, c2⟩, c3⟩, c4⟩, c5⟩ := hc
  refine hG ?_
  have k0 : ∀ b o, W.h₀.get? b = some o → s.heap.get? b = some o := fun b o e => I.sub b o (I.base b o e)
  have hvl : vs.length = names.length := V.1.trans hl
  -- the base lies below
  have hsz : W.h₀.objs.size ≤ s.heap.objs.size := by
    obtain ⟨a, o, e, h⟩ := wok.top
    rw [h]; exact Heap.lt_size (k0 _ _ e)
  have hcel : ∀ x, fd.scope.names.lookup x = some .cell → ((cellsFrom (s.heap.objs.size + 1) fd.scope.names []).lookup x).isSome = true := fun x hx => cellsFrom_some (.inl (mem_of_lookup hx))
  refine codeAny_call_cells (by have := ha.depth; omega) (k0 _ _ f1) f2 (wok.nolimit.keeps k0) (f3.keeps k0) f4 (f9 vs hvl) f6 (fun x hx => ?_) (fun s₁ X => ?_) (by simpa using c4) (by simpa using c5) c3
  · have hx' : x.1 ∈ namesOf names fd.scope := List.mem_append_left _ (List.of_mem_zip (a := x.1) (b := x.2) hx).1
    rcases hst _ hx' with q | q
    · exact .inl q
    · exact .inr ⟨q, hcel _ q⟩
  generalize hL : s.heap.objs.size = L at *
  have eenv : (callEnvC fd L fa).kindOf = fun x => fd.scope.names.lookup x := rfl
  have eloc : (callEnvC fd L fa).locals = L := rfl
  have ecel : (callEnvC fd L fa).cells = cellsFrom (L + 1) fd.scope.names [] := rfl
  have efr : (callEnvC fd L fa).frame = some L := rfl
  obtain ⟨h₁, tk, rfl, kk⟩ := X.done
  generalize hcs : cellsFrom (L + 1) fd.scope.names [] = cs at *
  let own : Addr → Prop := fun b => b = L ∨ ∃ x, cs.lookup x = some b
  have hnew : ∀ b, own b → L ≤ b := fun b hb => by
    rcases hb with rfl | ⟨x, hx⟩
    · exact Nat.le_refl _
    · exact Nat.le_of_lt (X.above x b (mem_of_lookup (by rw [ecel]; exact hx)))
  have hdead : ∀ b, L ≤ b → s.heap.get? b = none := fun b hb => Heap.get?_none_of_le (by rw [hL]; exact hb)
  have ok : EnvOK W (callEnvC fd L fa) fd.scope.names (rhoOf names fd.scope) own := {
    fn := c3
    glob := f7
    bi := f8
    above := hsz
    ownL := .inl rfl
    ownC := fun x c h => .inr ⟨x, by rw [ecel] at h; exact h⟩
    gl := fun x h => h
    same := fun x kd h => .inl h
    inj := fun x y i h1 h2 => Option.some.inj ((rho_get h1).symm.trans (rho_get h2))
    kind := fun x i h => by
      have hx := List.mem_of_getElem? (rho_get h)
      rcases hst x hx with q | q
      · exact .inl q
      · exact .inr ⟨.inl q, Option.isSome_iff_exists.mp (by rw [ecel]; exact hcel x q)⟩
    cne := fun x c h => Nat.ne_of_gt (X.above x c (mem_of_lookup h))
    cinj := fun x y c h1 h2 => name_of_addr X.apart (mem_of_lookup h1) (mem_of_lookup h2) }
  have hns := X.toInCall.ns
  have S0 : Step none_ (frOf frs) H M s H M { s with heap := h₁, toks := tk } := Step.ext kk
  have I0 : Inv W H M { s with heap := h₁, toks := tk } := I.ext kk
  have hfr : ∀ b, frOf (callEnvC fd L fa :: frs) b → b = L ∨ frOf frs b := fun b ⟨e, he, hf⟩ => by
    rcases List.mem_cons.mp he with rfl | he
    · rw [efr] at hf; cases hf; exact .inl rfl
    · exact .inr ⟨e, he, hf⟩
  have hfrs : ∀ b, frOf frs b → b < L := fun b hb => by
    obtain ⟨o, _, e, _⟩ := FI.alive hb
    rw [← hL]; exact Heap.lt_size e
  have dH : ∀ b, L ≤ b → H b = none := fun b hb => (I.dead (hdead b hb)).1
  have dM : ∀ b, L ≤ b → M b = none := fun b hb => (I.dead (hdead b hb)).2
  have R : Rel W (callEnvC fd L fa :: frs) own (callEnvC fd L fa) (rhoOf names fd.scope) H (xs ++ List.replicate p .undef) M { s with heap := h₁, toks := tk } := {
    inv := I0
    loc := by
      refine ⟨⟨_, hns, fun x i h1 h2 h3 => ?_⟩, fun x i c h1 h2 h3 => ⟨_, X.cell x c h3, fun h4 => ?_⟩⟩
      · exact arg_get V hvl h1 h3 fun v e1 hg e2 => ⟨v, bindL_get h2 c2 hg e1, e2⟩
      · exact arg_get V hvl h1 h4 fun v e1 hg e2 => ⟨v, bindC_get h2 c2 hg e1, e2⟩
    ow := ⟨fun b hb => by
        rcases hb with rfl | ⟨x, hx⟩
        · obtain ⟨o, _, _, e, _⟩ := hns; exact ⟨o, e⟩
        · obtain ⟨o, e, _⟩ := X.cell x b (by rw [ecel]; exact hx); exact ⟨o, e⟩, fun b hb => dH b (hnew b hb), fun b hb => dM b (hnew b hb)⟩
    fi := ⟨fun e he => by
        rcases List.mem_cons.mp he with rfl | he
        · exact ⟨c3, L, efr, hsz, _, hns⟩
        · refine go1 fun G hG => ?_
          obtain ⟨h0, L', h1, h2, mm, h3⟩ := FI.fun_ e he
          refine hG ?_
          exact ⟨h0, L', h1, h2, mm, h3.keeps kk⟩, fun b hb => by
        rcases hfr b hb with rfl | hb
        · exact dH _ (Nat.le_refl _)
        · exact FI.off b hb, fun b hb => by
        rcases hfr b hb with rfl | hb
        · exact dM _ (Nat.le_refl _)
        · exact FI.offM b hb⟩
    cf := fun x c h hb => by
      have hc := X.above x c (mem_of_lookup h)
      rcases hfr c hb with e | hb
      · exact absurd e (Nat.ne_of_gt hc)
      · exact absurd (hfrs c hb) (Nat.not_lt.mpr (Nat.le_of_lt hc)) }
  have haD : AOK (A.deeper (callEnvC fd L fa)) k (callEnvC fd L fa :: frs) := by
    refine ⟨ha.handled, ?_, ?_, ?_⟩
    · show A.depth + 1 + k + 120 < recursionLimit
      have := ha.depth; omega
    · show A.units + 3 + 8 * k + 200 < cLine
      have := ha.units; omega
    · show A.frames.map (callEnvC fd L fa :: ·) = _
      rw [ha.frames]; rfl
  exact go rfl ⟨haD, ok, fun x i h => (List.getElem?_eq_some_iff.mp (rho_get h)).1⟩ R (fun S' => S0.trans_new S' (fun b o e _ hb => by
    have hlt : b < L := by rw [← hL]; exact Heap.lt_size e
    rcases hb with hb | hb
    · exact absurd (hnew b hb) (Nat.not_le.mpr hlt)
    · rcases hfr b hb with rfl | hb
      · exact absurd hlt (Nat.lt_irrefl _)
      · exact hb) (fun b m e _ hb => by
    obtain ⟨o, _, _, e, _⟩ := e
    have hlt : b < L := by rw [← hL]; exact Heap.lt_size e
    exact absurd (hnew b hb) (Nat.not_le.mpr hlt))) kk
theorem call_sound (wok : WOK W) (fok : FnOK W fa names body scope) (hc : defOK names scope = true) (hb : SndB W k scope.names (rhoOf names scope) (namesOf names scope).length body b) : FSound W (k + 1) fa (fnT names.length p b) :=
  fun xs M Q hv A frs ha H s vs I FI V => call_gen wok fok hc hv.1 ha I FI V fun _ cx R ST _ => botE (wpAny_mono (hb cx R hv.2) (fun fl s' ⟨H', M', m', S', R', q⟩ => by
    cases fl with
    | next => exact exit_sound (ST S') R'.inv .none q
    | brk => exact q.elim
    | cont => exact q.elim
    | ret v => obtain ⟨x, Vx, q⟩ := q; exact exit_sound (ST S') R'.inv Vx q) fun _ _ e => e)
end
end Vg
end
section
set_option autoImplicit false
set_option linter.all false
namespace Vg
open PySem PySem.W PyProof.Rows

theorem sealE (f : Fun) : Nonempty { g : Fun // g = f } := ⟨⟨f, rfl⟩⟩
noncomputable def sealF (f : Fun) : { g : Fun // g = f } := Classical.choice (sealE f)

noncomputable def aints (l : List Int) : AV := .lst (l.map .int)
noncomputable def aintss (l : List (List Int)) : AV := .lst (l.map aints)
noncomputable def apair (p : Int × Int) : AV := .tup [.int p.1, .int p.2]
noncomputable def pieceValues : List (Int × Int) := [(0, 0), (126, 208), (781, 854), (825, 915), (1276, 1380), (2538, 2682), (0, 0)]
noncomputable def stepFiles : List Int := [0, 1, 0, -1, 1, 1, -1, -1]
noncomputable def stepRanks : List Int := [1, 0, -1, 0, 1, -1, -1, 1]
noncomputable def ownWeights : List (List Int) := [[1400], [40, 30], [30, 240, -50], [0, 100, 0, 0], [-25, 0, 50, 100, -200], [-180, 20, 120, 130, -140, 0]]
noncomputable def foeWeights : List (List Int) := [[0], [35, 0], [10, 60, 0], [60, 70, 40, 0], [50, 40, 20, -30, 0], [90, 100, -40, 140, 260, 0]]
noncomputable def straightL : List (Int × Int) := [(0, 1), (1, 0), (0, -1), (-1, 0)]
noncomputable def slantL : List (Int × Int) := [(1, 1), (1, -1), (-1, -1), (-1, 1)]
noncomputable def jumpL : List (Int × Int) := [(1, 2), (2, 1), (2, -1), (1, -2), (-1, -2), (-2, -1), (-2, 1), (-1, 2)]
noncomputable def earlyL : List (List Int) := [[], [118, 2, 0, 0, 0, 2, 0], [715, 20, 20, 0, 0, 0, -30], [807, 8, 8, 0, 0, 0, 14], [1261, 6, 0, 0, 0, 0, 14], [2536, 0, 0, 0, 3, 0, 0], [270, -40, 0, -55, 0, 0, 0]]
noncomputable def lateL : List (List Int) := [[], [201, -3, 0, 7, 0, 0, 0], [800, 15, 15, 0, 0, 0, -30], [891, 7, 7, 0, 0, 0, 0], [1374, 0, 0, 2, 0, 0, 14], [2642, 12, 12, 0, 0, 0, 0], [0, 14, 14, 0, 30, 0, 0]]

noncomputable section
noncomputable def b_make_piece : St := (.seq (.ret (.bin .add (.bin .mul (.v 0) (.c (.int 8))) (.v 1))) .nop)
noncomputable def t_make_piece : Fun := (sealF (fnT 2 0 b_make_piece)).1
theorem u_make_piece : t_make_piece = fnT 2 0 b_make_piece := (sealF _).2
noncomputable def b_side_of : St := (.seq (.ret (.bin .shr (.v 0) (.c (.int 3)))) .nop)
noncomputable def t_side_of : Fun := (sealF (fnT 1 0 b_side_of)).1
theorem u_side_of : t_side_of = fnT 1 0 b_side_of := (sealF _).2
noncomputable def b_kind_of : St := (.seq (.ret (.bin .band (.v 0) (.c (.int 7)))) .nop)
noncomputable def t_kind_of : Fun := (sealF (fnT 1 0 b_kind_of)).1
theorem u_kind_of : t_kind_of = fnT 1 0 b_kind_of := (sealF _).2
noncomputable def b_move_from : St := (.seq (.ret (.bin .band (.bin .shr (.v 0) (.c (.int 6))) (.c (.int 63)))) .nop)
noncomputable def t_move_from : Fun := (sealF (fnT 1 0 b_move_from)).1
theorem u_move_from : t_move_from = fnT 1 0 b_move_from := (sealF _).2
noncomputable def b_move_to : St := (.seq (.ret (.bin .band (.v 0) (.c (.int 63)))) .nop)
noncomputable def t_move_to : Fun := (sealF (fnT 1 0 b_move_to)).1
theorem u_move_to : t_move_to = fnT 1 0 b_move_to := (sealF _).2
noncomputable def b_move_special : St := (.seq (.ret (.bin .band (.bin .shr (.v 0) (.c (.int 14))) (.c (.int 3)))) .nop)
noncomputable def t_move_special : Fun := (sealF (fnT 1 0 b_move_special)).1
theorem u_move_special : t_move_special = fnT 1 0 b_move_special := (sealF _).2
noncomputable def b_move_promo : St := (.seq (.ife (.cmp .ne (.bin .band (.bin .shr (.v 0) (.c (.int 14))) (.c (.int 3))) (.c (.int 1))) (.seq (.ret (.c (.int 0))) .nop) .nop) (.seq (.ret (.bin .add (.bin .band (.bin .shr (.v 0) (.c (.int 12))) (.c (.int 3))) (.c (.int 2)))) .nop))
noncomputable def t_move_promo : Fun := (sealF (fnT 1 0 b_move_promo)).1
theorem u_move_promo : t_move_promo = fnT 1 0 b_move_promo := (sealF _).2
noncomputable def b_wrap_half : St := (.seq (.ret (.bin .sub (.bin .band (.bin .add (.v 0) (.c (.int 32768))) (.bin .sub (.c (.int 65536)) (.c (.int 1)))) (.c (.int 32768)))) .nop)
noncomputable def t_wrap_half : Fun := (sealF (fnT 1 0 b_wrap_half)).1
theorem u_wrap_half : t_wrap_half = fnT 1 0 b_wrap_half := (sealF _).2
noncomputable def b_divide : St := (.seq (.setv 2 (.bin .fdiv (.bi .abs [(.v 0)]) (.bi .abs [(.v 1)]))) (.seq (.ife (.cmp .ne (.cmp .lt (.v 0) (.c (.int 0))) (.cmp .lt (.v 1) (.c (.int 0)))) (.seq (.ret (.neg (.v 2))) .nop) .nop) (.seq (.ret (.v 2)) .nop)))
noncomputable def t_divide : Fun := (sealF (fnT 2 1 b_divide)).1
theorem u_divide : t_divide = fnT 2 1 b_divide := (sealF _).2
noncomputable def b_make_score : St := (.seq (.ret (.bin .add (.bin .shl (.v 1) (.c (.int 16))) (.v 0))) .nop)
noncomputable def t_make_score : Fun := (sealF (fnT 2 0 b_make_score)).1
theorem u_make_score : t_make_score = fnT 2 0 b_make_score := (sealF _).2
noncomputable def b_mg_of : St := (.seq (.ret (.call t_wrap_half [(.v 0)])) .nop)
noncomputable def t_mg_of : Fun := (sealF (fnT 1 0 b_mg_of)).1
theorem u_mg_of : t_mg_of = fnT 1 0 b_mg_of := (sealF _).2
noncomputable def b_eg_of : St := (.seq (.ret (.call t_wrap_half [(.bin .shr (.bin .add (.v 0) (.c (.int 32768))) (.c (.int 16)))])) .nop)
noncomputable def t_eg_of : Fun := (sealF (fnT 1 0 b_eg_of)).1
theorem u_eg_of : t_eg_of = fnT 1 0 b_eg_of := (sealF _).2
noncomputable def b_own_rank : St := (.seq (.setv 3 (.bin .fdiv (.v 2) (.at (.v 0) 0))) (.seq (.ret (.ite (.cmp .eq (.v 1) (.c (.int 0))) (.v 3) (.bin .sub (.bin .sub (.at (.v 0) 1) (.c (.int 1))) (.v 3)))) .nop))
noncomputable def t_own_rank : Fun := (sealF (fnT 3 1 b_own_rank)).1
theorem u_own_rank : t_own_rank = fnT 3 1 b_own_rank := (sealF _).2
noncomputable def b_from_edge : St := (.seq (.ret (.bi .min [(.v 0), (.bin .sub (.bin .sub (.v 1) (.c (.int 1))) (.v 0))])) .nop)
noncomputable def t_from_edge : Fun := (sealF (fnT 2 0 b_from_edge)).1
theorem u_from_edge : t_from_edge = fnT 2 0 b_from_edge := (sealF _).2
noncomputable def b_is_long_diagonal : St := (.seq (.ret (.or (.cmp .eq (.v 1) (.v 2)) (.cmp .eq (.bin .add (.v 1) (.v 2)) (.bin .sub (.at (.v 0) 0) (.c (.int 1)))))) .nop)
noncomputable def t_is_long_diagonal : Fun := (sealF (fnT 3 0 b_is_long_diagonal)).1
theorem u_is_long_diagonal : t_is_long_diagonal = fnT 3 0 b_is_long_diagonal := (sealF _).2
noncomputable def b_pawn_bonus : St := (.seq (.ret (.tup [(.bin .sub (.bin .add (.bin .mul (.c (.int 4)) (.v 0)) (.bin .mul (.bin .mul (.c (.int 2)) (.v 0)) (.bin .sub (.v 1) (.c (.int 1))))) (.c (.int 8))), (.bin .sub (.bin .mul (.c (.int 7)) (.bin .sub (.v 1) (.c (.int 1)))) (.bin .mul (.c (.int 3)) (.v 0)))])) .nop)
noncomputable def t_pawn_bonus : Fun := (sealF (fnT 2 0 b_pawn_bonus)).1
theorem u_pawn_bonus : t_pawn_bonus = fnT 2 0 b_pawn_bonus := (sealF _).2
noncomputable def b_knight_bonus : St := (.seq (.setv 2 (.ite (.or (.cmp .eq (.v 0) (.c (.int 0))) (.cmp .eq (.v 1) (.c (.int 0)))) (.c (.int 30)) (.c (.int 0)))) (.seq (.ret (.tup [(.bin .sub (.bin .sub (.bin .mul (.c (.int 20)) (.bin .add (.v 0) (.v 1))) (.c (.int 66))) (.v 2)), (.bin .sub (.bin .sub (.bin .mul (.c (.int 15)) (.bin .add (.v 0) (.v 1))) (.c (.int 54))) (.v 2))])) .nop))
noncomputable def t_knight_bonus : Fun := (sealF (fnT 2 1 b_knight_bonus)).1
theorem u_knight_bonus : t_knight_bonus = fnT 2 1 b_knight_bonus := (sealF _).2
noncomputable def b_bishop_bonus : St := (.seq (.ret (.tup [(.bin .add (.bin .sub (.bin .mul (.c (.int 8)) (.bin .add (.v 0) (.v 1))) (.c (.int 18))) (.ite (.v 2) (.c (.int 14)) (.c (.int 0)))), (.bin .sub (.bin .mul (.c (.int 7)) (.bin .add (.v 0) (.v 1))) (.c (.int 24)))])) .nop)
noncomputable def t_bishop_bonus : Fun := (sealF (fnT 3 0 b_bishop_bonus)).1
theorem u_bishop_bonus : t_bishop_bonus = fnT 3 0 b_bishop_bonus := (sealF _).2
noncomputable def b_rook_bonus : St := (.seq (.setv 3 (.ite (.cmp .eq (.v 2) (.bin .sub (.v 0) (.c (.int 2)))) (.c (.int 14)) (.c (.int 0)))) (.seq (.ret (.tup [(.bin .add (.bin .sub (.bin .mul (.c (.int 6)) (.v 1)) (.c (.int 15))) (.v 3)), (.bin .add (.bin .sub (.bin .mul (.c (.int 2)) (.v 2)) (.c (.int 6))) (.v 3))])) .nop))
noncomputable def t_rook_bonus : Fun := (sealF (fnT 3 1 b_rook_bonus)).1
theorem u_rook_bonus : t_rook_bonus = fnT 3 1 b_rook_bonus := (sealF _).2
noncomputable def b_queen_bonus : St := (.seq (.ret (.tup [(.bin .sub (.bin .mul (.c (.int 3)) (.bi .min [(.v 0), (.v 1)])) (.c (.int 2))), (.bin .sub (.bin .mul (.c (.int 12)) (.bin .add (.v 0) (.v 1))) (.c (.int 40)))])) .nop)
noncomputable def t_queen_bonus : Fun := (sealF (fnT 2 0 b_queen_bonus)).1
theorem u_queen_bonus : t_queen_bonus = fnT 2 0 b_queen_bonus := (sealF _).2
noncomputable def b_king_bonus : St := (.seq (.ret (.tup [(.bin .sub (.bin .sub (.c (.int 270)) (.bin .mul (.c (.int 40)) (.v 0))) (.bin .mul (.c (.int 55)) (.v 1))), (.bin .add (.bin .mul (.c (.int 14)) (.bin .add (.v 0) (.v 2))) (.bin .mul (.c (.int 30)) (.bi .min [(.v 0), (.v 2)])))])) .nop)
noncomputable def t_king_bonus : Fun := (sealF (fnT 3 0 b_king_bonus)).1
theorem u_king_bonus : t_king_bonus = fnT 3 0 b_king_bonus := (sealF _).2
noncomputable def b_square_bonus : St := (.seq (.setv 4 (.bin .mod (.v 3) (.at (.v 0) 0))) (.seq (.setv 5 (.call t_own_rank [(.v 0), (.v 1), (.v 3)])) (.seq (.setv 6 (.call t_from_edge [(.v 4), (.at (.v 0) 0)])) (.seq (.setv 7 (.call t_from_edge [(.v 5), (.at (.v 0) 1)])) (.seq (.ife (.cmp .eq (.v 2) (.c (.int 1))) (.seq (.ret (.call t_pawn_bonus [(.v 6), (.v 5)])) .nop) .nop) (.seq (.ife (.cmp .eq (.v 2) (.c (.int 2))) (.seq (.ret (.call t_knight_bonus [(.v 6), (.v 7)])) .nop) .nop) (.seq (.ife (.cmp .eq (.v 2) (.c (.int 3))) (.seq (.ret (.call t_bishop_bonus [(.v 6), (.v 7), (.call t_is_long_diagonal [(.v 0), (.v 4), (.v 5)])])) .nop) .nop) (.seq (.ife (.cmp .eq (.v 2) (.c (.int 4))) (.seq (.ret (.call t_rook_bonus [(.at (.v 0) 1), (.v 6), (.v 5)])) .nop) .nop) (.seq (.ife (.cmp .eq (.v 2) (.c (.int 5))) (.seq (.ret (.call t_queen_bonus [(.v 6), (.v 7)])) .nop) .nop) (.seq (.ret (.call t_king_bonus [(.v 6), (.v 5), (.v 7)])) .nop))))))))))
noncomputable def t_square_bonus : Fun := (sealF (fnT 4 4 b_square_bonus)).1
theorem u_square_bonus : t_square_bonus = fnT 4 4 b_square_bonus := (sealF _).2
noncomputable def b_square_score : St := (.seq (.setv 3 (.call t_kind_of [(.v 1)])) (.seq (.sett [4, 5] (.call t_square_bonus [(.v 0), (.call t_side_of [(.v 1)]), (.v 3), (.v 2)])) (.seq (.ret (.call t_make_score [(.bin .add (.sub (.sub (.c (.lst (pieceValues.map apair))) (.v 3)) (.c (.int 0))) (.v 4)), (.bin .add (.sub (.sub (.c (.lst (pieceValues.map apair))) (.v 3)) (.c (.int 1))) (.v 5))])) .nop)))
noncomputable def t_square_score : Fun := (sealF (fnT 3 3 b_square_score)).1
theorem u_square_score : t_square_score = fnT 3 3 b_square_score := (sealF _).2
noncomputable def w_make_psqt_1 : St := .seq (.sets (.v 3) (.v 5) (.bin .mul (.v 4) (.call t_square_score [(.v 0), (.v 2), (.v 5)]))) .nop
noncomputable def w_make_psqt_2_2 : St := .seq (.exp (.me .append (.v 1) (.v 3))) .nop
noncomputable def w_make_psqt_2_1 : St := .seq (.ife (.cmp2 .le .le (.c (.int 1)) (.call t_kind_of [(.v 2)]) (.c (.int 6))) (.seq (.setv 4 (.ite (.cmp .eq (.call t_side_of [(.v 2)]) (.c (.int 0))) (.c (.int 1)) (.neg (.c (.int 1))))) (.seq (.for (.v 5) (.bi .range [(.at (.v 0) 2)]) w_make_psqt_1) .nop)) .nop) w_make_psqt_2_2
noncomputable def w_make_psqt_2 : St := .seq (.setv 3 (.bin .mul (.lst [(.c (.int 0))]) (.at (.v 0) 2))) w_make_psqt_2_1
noncomputable def b_make_psqt : St := (.seq (.setv 1 (.lst [])) (.seq (.for (.v 2) (.bi .range [(.c (.int 15))]) w_make_psqt_2) (.seq (.ret (.v 1)) .nop)))
noncomputable def t_make_psqt : Fun := (sealF (fnT 1 5 b_make_psqt)).1
theorem u_make_psqt : t_make_psqt = fnT 1 5 b_make_psqt := (sealF _).2
noncomputable def w_psq_of_1 : St := .seq (.augv 2 .add (.sub (.sub (.v 1) (.sub (.at (.v 0) 20) (.v 3))) (.v 3))) .nop
noncomputable def b_psq_of : St := (.seq (.setv 2 (.c (.int 0))) (.seq (.for (.v 3) (.bi .range [(.at (.at (.v 0) 18) 2)]) w_psq_of_1) (.seq (.ret (.v 2)) .nop)))
noncomputable def t_psq_of : Fun := (sealF (fnT 2 2 b_psq_of)).1
theorem u_psq_of : t_psq_of = fnT 2 2 b_psq_of := (sealF _).2
noncomputable def w_psq_plain_1_1 : St := .seq (.ife (.v 3) (.seq (.setv 4 (.call t_square_score [(.at (.v 0) 18), (.v 3), (.v 2)])) (.seq (.augv 1 .add (.ite (.cmp .eq (.call t_side_of [(.v 3)]) (.c (.int 0))) (.v 4) (.neg (.v 4)))) .nop)) .nop) .nop
noncomputable def w_psq_plain_1 : St := .seq (.setv 3 (.sub (.at (.v 0) 20) (.v 2))) w_psq_plain_1_1
noncomputable def b_psq_plain : St := (.seq (.setv 1 (.c (.int 0))) (.seq (.for (.v 2) (.bi .range [(.at (.at (.v 0) 18) 2)]) w_psq_plain_1) (.seq (.ret (.v 1)) .nop)))
noncomputable def t_psq_plain : Fun := (sealF (fnT 1 4 b_psq_plain)).1
theorem u_psq_plain : t_psq_plain = fnT 1 4 b_psq_plain := (sealF _).2
noncomputable def w_castle_change_1_1 : St := .seq (.ife (.and (.isn true (.v 8)) (.and (.cmp .eq (.sub (.v 8) (.c (.int 0))) (.v 2)) (.cmp .eq (.sub (.v 8) (.c (.int 1))) (.v 3)))) (.seq (.setv 9 (.bin .sub (.sub (.sub (.v 4) (.v 1)) (.v 3)) (.sub (.sub (.v 4) (.v 1)) (.v 2)))) (.seq (.ret (.bin .sub (.bin .add (.v 9) (.sub (.sub (.v 4) (.v 6)) (.sub (.v 8) (.c (.int 3))))) (.sub (.sub (.v 4) (.v 6)) (.sub (.v 8) (.c (.int 2)))))) .nop)) .nop) .nop
noncomputable def w_castle_change_1 : St := .seq (.setv 8 (.sub (.at (.v 0) 12) (.v 7))) w_castle_change_1_1
noncomputable def b_castle_change : St := (.seq (.setv 5 (.call t_side_of [(.v 1)])) (.seq (.setv 6 (.call t_make_piece [(.v 5), (.c (.int 4))])) (.seq (.for (.v 7) (.tup [(.bin .mul (.c (.int 2)) (.v 5)), (.bin .add (.bin .mul (.c (.int 2)) (.v 5)) (.c (.int 1)))]) w_castle_change_1) (.seq .bad .nop))))
noncomputable def t_castle_change : Fun := (sealF (fnT 5 5 b_castle_change)).1
theorem u_castle_change : t_castle_change = fnT 5 5 b_castle_change := (sealF _).2
noncomputable def q_psq_change_9 : St := .seq (.ret (.bin .sub (.bin .sub (.sub (.sub (.v 2) (.v 8)) (.v 4)) (.sub (.sub (.v 2) (.v 6)) (.v 3))) (.sub (.sub (.v 2) (.sub (.at (.v 0) 20) (.v 7))) (.v 7)))) .nop
noncomputable def q_psq_change_8 : St := .seq (.ife (.cmp .eq (.v 5) (.c (.int 1))) (.seq (.setv 8 (.call t_make_piece [(.call t_side_of [(.v 6)]), (.call t_move_promo [(.v 1)])])) .nop) .nop) q_psq_change_9
noncomputable def q_psq_change_7 : St := .seq (.setv 8 (.v 6)) q_psq_change_8
noncomputable def q_psq_change_6 : St := .seq (.ife (.cmp .eq (.v 5) (.c (.int 2))) (.seq (.setv 7 (.bin .add (.bin .sub (.v 3) (.bin .mod (.v 3) (.at (.at (.v 0) 18) 0))) (.bin .mod (.v 4) (.at (.at (.v 0) 18) 0)))) .nop) .nop) q_psq_change_7
noncomputable def q_psq_change_5 : St := .seq (.setv 7 (.v 4)) q_psq_change_6
noncomputable def q_psq_change_4 : St := .seq (.ife (.cmp .eq (.v 5) (.c (.int 3))) (.seq (.ret (.call t_castle_change [(.at (.v 0) 18), (.v 6), (.v 3), (.v 4), (.v 2)])) .nop) .nop) q_psq_change_5
noncomputable def q_psq_change_3 : St := .seq (.setv 6 (.sub (.at (.v 0) 20) (.v 3))) q_psq_change_4
noncomputable def q_psq_change_2 : St := .seq (.setv 5 (.call t_move_special [(.v 1)])) q_psq_change_3
noncomputable def q_psq_change_1 : St := .seq (.setv 4 (.call t_move_to [(.v 1)])) q_psq_change_2
noncomputable def b_psq_change : St := (.seq (.setv 3 (.call t_move_from [(.v 1)])) q_psq_change_1)
noncomputable def t_psq_change : Fun := (sealF (fnT 3 6 b_psq_change)).1
theorem u_psq_change : t_psq_change = fnT 3 6 b_psq_change := (sealF _).2
noncomputable def q_Geometry_13 : St := .seq (.seta (.v 0) 13 (.lst [])) .nop
noncomputable def q_Geometry_12 : St := .seq (.seta (.v 0) 12 (.lst [])) q_Geometry_13
noncomputable def q_Geometry_11 : St := .seq (.seta (.v 0) 11 (.lst [(.lst []), (.lst [])])) q_Geometry_12
noncomputable def q_Geometry_10 : St := .seq (.seta (.v 0) 10 (.lst [])) q_Geometry_11
noncomputable def q_Geometry_9 : St := .seq (.seta (.v 0) 9 (.lst [])) q_Geometry_10
noncomputable def q_Geometry_8 : St := .seq (.seta (.v 0) 8 (.lst [])) q_Geometry_9
noncomputable def q_Geometry_7 : St := .seq (.seta (.v 0) 7 (.lst [])) q_Geometry_8
noncomputable def q_Geometry_6 : St := .seq (.seta (.v 0) 6 (.lst [])) q_Geometry_7
noncomputable def q_Geometry_5 : St := .seq (.seta (.v 0) 5 (.v 4)) q_Geometry_6
noncomputable def q_Geometry_4 : St := .seq (.seta (.v 0) 4 (.and (.v 3) (.cmp .ge (.v 2) (.c (.int 5))))) q_Geometry_5
noncomputable def q_Geometry_3 : St := .seq (.seta (.v 0) 3 (.bin .sub (.bin .shl (.c (.int 1)) (.bin .mul (.v 1) (.v 2))) (.c (.int 1)))) q_Geometry_4
noncomputable def q_Geometry_2 : St := .seq (.seta (.v 0) 2 (.bin .mul (.v 1) (.v 2))) q_Geometry_3
noncomputable def q_Geometry_1 : St := .seq (.seta (.v 0) 1 (.v 2)) q_Geometry_2
noncomputable def b_Geometry : St := (.seq (.seta (.v 0) 0 (.v 1)) q_Geometry_1)
noncomputable def t_Geometry : Fun := (sealF (fnT 5 0 b_Geometry)).1
theorem u_Geometry : t_Geometry = fnT 5 0 b_Geometry := (sealF _).2
noncomputable def b_is_growing : St := (.seq (.ret (.or (.cmp .gt (.sub (.c (.tup (stepRanks.map .int))) (.v 0)) (.c (.int 0))) (.cmp .eq (.v 0) (.c (.int 1))))) .nop)
noncomputable def t_is_growing : Fun := (sealF (fnT 1 0 b_is_growing)).1
theorem u_is_growing : t_is_growing = fnT 1 0 b_is_growing := (sealF _).2
noncomputable def w_add_masks_1_1 : St := .seq (.augv 2 .bor (.bin .shl (.c (.int 1)) (.bin .mul (.v 3) (.at (.v 0) 0)))) .nop
noncomputable def w_add_masks_1 : St := .seq (.exp (.me .append (.at (.v 0) 7) (.bin .shl (.v 1) (.bin .mul (.v 3) (.at (.v 0) 0))))) w_add_masks_1_1
noncomputable def w_add_masks_2 : St := .seq (.exp (.me .append (.at (.v 0) 6) (.bin .shl (.v 2) (.v 4)))) .nop
noncomputable def q_add_masks_3 : St := .seq (.for (.v 4) (.bi .range [(.at (.v 0) 0)]) w_add_masks_2) .nop
noncomputable def q_add_masks_2 : St := .seq (.for (.v 3) (.bi .range [(.at (.v 0) 1)]) w_add_masks_1) q_add_masks_3
noncomputable def q_add_masks_1 : St := .seq (.setv 2 (.c (.int 0))) q_add_masks_2
noncomputable def b_add_masks : St := (.seq (.setv 1 (.bin .sub (.bin .shl (.c (.int 1)) (.at (.v 0) 0)) (.c (.int 1)))) q_add_masks_1)
noncomputable def t_add_masks : Fun := (sealF (fnT 1 4 b_add_masks)).1
theorem u_add_masks : t_add_masks = fnT 1 4 b_add_masks := (sealF _).2
noncomputable def q_inner_squares_5 : St := .seq (.ret (.bin .band (.at (.v 0) 3) (.inv (.v 2)))) .nop
noncomputable def q_inner_squares_4 : St := .seq (.ife (.cmp .lt (.sub (.c (.tup (stepRanks.map .int))) (.v 1)) (.c (.int 0))) (.seq (.augv 2 .bor (.sub (.at (.v 0) 7) (.c (.int 0)))) .nop) .nop) q_inner_squares_5
noncomputable def q_inner_squares_3 : St := .seq (.ife (.cmp .gt (.sub (.c (.tup (stepRanks.map .int))) (.v 1)) (.c (.int 0))) (.seq (.augv 2 .bor (.sub (.at (.v 0) 7) (.bin .sub (.at (.v 0) 1) (.c (.int 1))))) .nop) .nop) q_inner_squares_4
noncomputable def q_inner_squares_2 : St := .seq (.ife (.cmp .lt (.sub (.c (.tup (stepFiles.map .int))) (.v 1)) (.c (.int 0))) (.seq (.augv 2 .bor (.sub (.at (.v 0) 6) (.c (.int 0)))) .nop) .nop) q_inner_squares_3
noncomputable def q_inner_squares_1 : St := .seq (.ife (.cmp .gt (.sub (.c (.tup (stepFiles.map .int))) (.v 1)) (.c (.int 0))) (.seq (.augv 2 .bor (.sub (.at (.v 0) 6) (.bin .sub (.at (.v 0) 0) (.c (.int 1))))) .nop) .nop) q_inner_squares_2
noncomputable def b_inner_squares : St := (.seq (.setv 2 (.c (.int 0))) q_inner_squares_1)
noncomputable def t_inner_squares : Fun := (sealF (fnT 2 1 b_inner_squares)).1
theorem u_inner_squares : t_inner_squares = fnT 2 1 b_inner_squares := (sealF _).2
noncomputable def w_add_rays_1 : St := .seq (.ife (.bin .band (.bin .shr (.v 2) (.v 6)) (.c (.int 1))) (.seq (.setv 7 (.bin .add (.v 6) (.v 3))) (.seq (.sets (.v 4) (.v 6) (.bin .bor (.sub (.v 4) (.v 7)) (.bin .shl (.c (.int 1)) (.v 7)))) (.seq (.augs (.at (.v 0) 9) (.v 6) .bor (.bin .shl (.c (.int 1)) (.v 7))) .nop))) .nop) .nop
noncomputable def w_add_rays_2_6 : St := .seq (.exp (.me .append (.at (.v 0) 8) (.v 4))) .nop
noncomputable def w_add_rays_2_5 : St := .seq (.for (.v 6) (.v 5) w_add_rays_1) w_add_rays_2_6
noncomputable def w_add_rays_2_4 : St := .seq (.ife (.call t_is_growing [(.v 1)]) (.seq (.setv 5 (.bi .range [(.bin .sub (.at (.v 0) 2) (.c (.int 1))), (.neg (.c (.int 1))), (.neg (.c (.int 1)))])) .nop) .nop) w_add_rays_2_5
noncomputable def w_add_rays_2_3 : St := .seq (.setv 5 (.bi .range [(.at (.v 0) 2)])) w_add_rays_2_4
noncomputable def w_add_rays_2_2 : St := .seq (.setv 4 (.bin .mul (.lst [(.c (.int 0))]) (.at (.v 0) 2))) w_add_rays_2_3
noncomputable def w_add_rays_2_1 : St := .seq (.setv 3 (.bin .add (.bin .mul (.sub (.c (.tup (stepRanks.map .int))) (.v 1)) (.at (.v 0) 0)) (.sub (.c (.tup (stepFiles.map .int))) (.v 1)))) w_add_rays_2_2
noncomputable def w_add_rays_2 : St := .seq (.setv 2 (.call t_inner_squares [(.v 0), (.v 1)])) w_add_rays_2_1
noncomputable def q_add_rays_1 : St := .seq (.for (.v 1) (.bi .range [(.c (.int 8))]) w_add_rays_2) .nop
noncomputable def b_add_rays : St := (.seq (.seta (.v 0) 9 (.bin .mul (.lst [(.c (.int 0))]) (.at (.v 0) 2))) q_add_rays_1)
noncomputable def t_add_rays : Fun := (sealF (fnT 1 7 b_add_rays)).1
theorem u_add_rays : t_add_rays = fnT 1 7 b_add_rays := (sealF _).2
noncomputable def w_add_pawns_1_1 : St := .seq (.exp (.me .append (.sub (.at (.v 0) 11) (.c (.int 1))) (.bin .band (.sub (.at (.v 0) 9) (.v 1)) (.bin .bor (.sub (.sub (.at (.v 0) 8) (.c (.int 5))) (.v 1)) (.sub (.sub (.at (.v 0) 8) (.c (.int 6))) (.v 1)))))) .nop
noncomputable def w_add_pawns_1 : St := .seq (.exp (.me .append (.sub (.at (.v 0) 11) (.c (.int 0))) (.bin .band (.sub (.at (.v 0) 9) (.v 1)) (.bin .bor (.sub (.sub (.at (.v 0) 8) (.c (.int 4))) (.v 1)) (.sub (.sub (.at (.v 0) 8) (.c (.int 7))) (.v 1)))))) w_add_pawns_1_1
noncomputable def b_add_pawns : St := (.seq (.for (.v 1) (.bi .range [(.at (.v 0) 2)]) w_add_pawns_1) .nop)
noncomputable def t_add_pawns : Fun := (sealF (fnT 1 1 b_add_pawns)).1
theorem u_add_pawns : t_add_pawns = fnT 1 1 b_add_pawns := (sealF _).2
noncomputable def w_add_knights_1_4 : St := .seq (.exp (.me .append (.at (.v 0) 10) (.bin .band (.v 10) (.at (.v 0) 3)))) .nop
noncomputable def w_add_knights_1_3 : St := .seq (.setv 10 (.bin .bor (.bin .bor (.bin .bor (.bin .shl (.v 8) (.bin .mul (.c (.int 2)) (.v 1))) (.bin .shr (.v 8) (.bin .mul (.c (.int 2)) (.v 1)))) (.bin .shl (.v 9) (.v 1))) (.bin .shr (.v 9) (.v 1)))) w_add_knights_1_4
noncomputable def w_add_knights_1_2 : St := .seq (.setv 9 (.bin .bor (.bin .band (.bin .shl (.v 7) (.c (.int 2))) (.v 4)) (.bin .band (.bin .shr (.v 7) (.c (.int 2))) (.v 5)))) w_add_knights_1_3
noncomputable def w_add_knights_1_1 : St := .seq (.setv 8 (.bin .bor (.bin .band (.bin .shl (.v 7) (.c (.int 1))) (.v 2)) (.bin .band (.bin .shr (.v 7) (.c (.int 1))) (.v 3)))) w_add_knights_1_2
noncomputable def w_add_knights_1 : St := .seq (.setv 7 (.bin .shl (.c (.int 1)) (.v 6))) w_add_knights_1_1
noncomputable def q_add_knights_5 : St := .seq (.for (.v 6) (.bi .range [(.at (.v 0) 2)]) w_add_knights_1) .nop
noncomputable def q_add_knights_4 : St := .seq (.setv 5 (.bin .band (.v 3) (.inv (.sub (.at (.v 0) 6) (.bin .sub (.v 1) (.c (.int 2))))))) q_add_knights_5
noncomputable def q_add_knights_3 : St := .seq (.setv 4 (.bin .band (.v 2) (.inv (.sub (.at (.v 0) 6) (.c (.int 1)))))) q_add_knights_4
noncomputable def q_add_knights_2 : St := .seq (.setv 3 (.bin .band (.at (.v 0) 3) (.inv (.sub (.at (.v 0) 6) (.bin .sub (.v 1) (.c (.int 1))))))) q_add_knights_3
noncomputable def q_add_knights_1 : St := .seq (.setv 2 (.bin .band (.at (.v 0) 3) (.inv (.sub (.at (.v 0) 6) (.c (.int 0)))))) q_add_knights_2
noncomputable def b_add_knights : St := (.seq (.setv 1 (.at (.v 0) 0)) q_add_knights_1)
noncomputable def t_add_knights : Fun := (sealF (fnT 1 10 b_add_knights)).1
theorem u_add_knights : t_add_knights = fnT 1 10 b_add_knights := (sealF _).2
noncomputable def w_add_castles_1_5 : St := .seq (.ife (.and (.at (.v 0) 5) (.cmp .gt (.bin .mul (.bin .sub (.v 4) (.v 6)) (.v 5)) (.c (.int 0)))) (.seq (.exp (.me .append (.at (.v 0) 12) (.tup [(.bin .add (.v 3) (.v 1)), (.bin .add (.v 3) (.v 6)), (.bin .add (.v 3) (.v 4)), (.bin .sub (.bin .add (.v 3) (.v 6)) (.v 5))]))) (.seq (.augs (.at (.v 0) 13) (.bin .add (.v 3) (.v 1)) .bor (.bin .shl (.c (.int 1)) (.v 2))) (.seq (.augs (.at (.v 0) 13) (.bin .add (.v 3) (.v 4)) .bor (.bin .shl (.c (.int 1)) (.v 2))) .nop))) (.seq (.exp (.me .append (.at (.v 0) 12) (.c .none))) .nop)) .nop
noncomputable def w_add_castles_1_4 : St := .seq (.setv 6 (.bin .add (.v 1) (.bin .mul (.c (.int 2)) (.v 5)))) w_add_castles_1_5
noncomputable def w_add_castles_1_3 : St := .seq (.ife (.bin .band (.v 2) (.c (.int 1))) (.seq (.setv 4 (.c (.int 0))) (.seq (.setv 5 (.neg (.c (.int 1)))) .nop)) .nop) w_add_castles_1_4
noncomputable def w_add_castles_1_2 : St := .seq (.setv 5 (.c (.int 1))) w_add_castles_1_3
noncomputable def w_add_castles_1_1 : St := .seq (.setv 4 (.bin .sub (.at (.v 0) 0) (.c (.int 1)))) w_add_castles_1_2
noncomputable def w_add_castles_1 : St := .seq (.setv 3 (.bin .mul (.bin .mul (.bin .shr (.v 2) (.c (.int 1))) (.bin .sub (.at (.v 0) 1) (.c (.int 1)))) (.at (.v 0) 0))) w_add_castles_1_1
noncomputable def q_add_castles_2 : St := .seq (.for (.v 2) (.bi .range [(.c (.int 4))]) w_add_castles_1) .nop
noncomputable def q_add_castles_1 : St := .seq (.setv 1 (.bin .fdiv (.at (.v 0) 0) (.c (.int 2)))) q_add_castles_2
noncomputable def b_add_castles : St := (.seq (.seta (.v 0) 13 (.bin .mul (.lst [(.c (.int 0))]) (.at (.v 0) 2))) q_add_castles_1)
noncomputable def t_add_castles : Fun := (sealF (fnT 1 6 b_add_castles)).1
theorem u_add_castles : t_add_castles = fnT 1 6 b_add_castles := (sealF _).2
noncomputable def q_make_geometry_7 : St := .seq (.ret (.v 4)) .nop
noncomputable def q_make_geometry_6 : St := .seq (.exp (.call t_add_castles [(.v 4)])) q_make_geometry_7
noncomputable def q_make_geometry_5 : St := .seq (.exp (.call t_add_knights [(.v 4)])) q_make_geometry_6
noncomputable def q_make_geometry_4 : St := .seq (.exp (.call t_add_pawns [(.v 4)])) q_make_geometry_5
noncomputable def q_make_geometry_3 : St := .seq (.exp (.call t_add_rays [(.v 4)])) q_make_geometry_4
noncomputable def q_make_geometry_2 : St := .seq (.exp (.call t_add_masks [(.v 4)])) q_make_geometry_3
noncomputable def q_make_geometry_1 : St := .seq (.setv 4 (.new 0 t_Geometry [(.v 0), (.v 1), (.v 2), (.v 3)])) q_make_geometry_2
noncomputable def b_make_geometry : St := (.seq (.ife (.or (.cmp .lt (.v 0) (.c (.int 2))) (.or (.cmp .gt (.v 0) (.c (.int 8))) (.or (.cmp .lt (.v 1) (.c (.int 3))) (.cmp .gt (.v 1) (.c (.int 8)))))) (.seq .bad .nop) .nop) q_make_geometry_1)
noncomputable def t_make_geometry : Fun := (sealF (fnT 4 1 b_make_geometry)).1
theorem u_make_geometry : t_make_geometry = fnT 4 1 b_make_geometry := (sealF _).2
noncomputable def b_Zobrist : St := (.seq (.seta (.v 0) 14 (.v 1)) (.seq (.seta (.v 0) 15 (.v 2)) (.seq (.seta (.v 0) 16 (.v 3)) (.seq (.seta (.v 0) 17 (.v 4)) .nop))))
noncomputable def t_Zobrist : Fun := (sealF (fnT 5 0 b_Zobrist)).1
theorem u_Zobrist : t_Zobrist = fnT 5 0 b_Zobrist := (sealF _).2
noncomputable def b_Position : St := (.seq (.seta (.v 0) 18 (.v 1)) (.seq (.seta (.v 0) 19 (.v 2)) (.seq (.seta (.v 0) 20 (.bin .mul (.lst [(.c (.int 0))]) (.at (.v 1) 2))) (.seq (.seta (.v 0) 21 (.bin .mul (.lst [(.c (.int 0))]) (.c (.int 7)))) (.seq (.seta (.v 0) 22 (.lst [(.c (.int 0)), (.c (.int 0))])) (.seq (.seta (.v 0) 17 (.c (.int 0))) (.seq (.seta (.v 0) 16 (.c (.int 0))) (.seq (.seta (.v 0) 15 (.neg (.c (.int 1)))) (.seq (.seta (.v 0) 23 (.c (.int 0))) (.seq (.seta (.v 0) 3 (.c (.int 1))) (.seq (.seta (.v 0) 24 (.c (.int 0))) (.seq (.seta (.v 0) 25 (.lst [])) .nop))))))))))))
noncomputable def t_Position : Fun := (sealF (fnT 3 0 b_Position)).1
theorem u_Position : t_Position = fnT 3 0 b_Position := (sealF _).2
noncomputable def b_put_piece : St := (.seq (.setv 3 (.bin .shl (.c (.int 1)) (.v 2))) (.seq (.sets (.at (.v 0) 20) (.v 2) (.v 1)) (.seq (.augs (.at (.v 0) 21) (.call t_kind_of [(.v 1)]) .bor (.v 3)) (.seq (.augs (.at (.v 0) 22) (.call t_side_of [(.v 1)]) .bor (.v 3)) (.seq (.auga (.v 0) 24 .bxor (.sub (.sub (.at (.at (.v 0) 19) 14) (.v 1)) (.v 2))) .nop)))))
noncomputable def t_put_piece : Fun := (sealF (fnT 3 1 b_put_piece)).1
theorem u_put_piece : t_put_piece = fnT 3 1 b_put_piece := (sealF _).2
noncomputable def b_take_piece : St := (.seq (.setv 2 (.sub (.at (.v 0) 20) (.v 1))) (.seq (.setv 3 (.bin .shl (.c (.int 1)) (.v 1))) (.seq (.sets (.at (.v 0) 20) (.v 1) (.c (.int 0))) (.seq (.augs (.at (.v 0) 21) (.call t_kind_of [(.v 2)]) .bxor (.v 3)) (.seq (.augs (.at (.v 0) 22) (.call t_side_of [(.v 2)]) .bxor (.v 3)) (.seq (.auga (.v 0) 24 .bxor (.sub (.sub (.at (.at (.v 0) 19) 14) (.v 2)) (.v 1))) (.seq (.ret (.v 2)) .nop)))))))
noncomputable def t_take_piece : Fun := (sealF (fnT 2 2 b_take_piece)).1
theorem u_take_piece : t_take_piece = fnT 2 2 b_take_piece := (sealF _).2
noncomputable def b_shift_piece : St := (.seq (.setv 3 (.sub (.at (.v 0) 20) (.v 1))) (.seq (.setv 4 (.bin .bor (.bin .shl (.c (.int 1)) (.v 1)) (.bin .shl (.c (.int 1)) (.v 2)))) (.seq (.sets (.at (.v 0) 20) (.v 1) (.c (.int 0))) (.seq (.sets (.at (.v 0) 20) (.v 2) (.v 3)) (.seq (.augs (.at (.v 0) 21) (.call t_kind_of [(.v 3)]) .bxor (.v 4)) (.seq (.augs (.at (.v 0) 22) (.call t_side_of [(.v 3)]) .bxor (.v 4)) (.seq (.setv 5 (.sub (.at (.at (.v 0) 19) 14) (.v 3))) (.seq (.auga (.v 0) 24 .bxor (.bin .bxor (.sub (.v 5) (.v 1)) (.sub (.v 5) (.v 2)))) .nop))))))))
noncomputable def t_shift_piece : Fun := (sealF (fnT 3 3 b_shift_piece)).1
theorem u_shift_piece : t_shift_piece = fnT 3 3 b_shift_piece := (sealF _).2
noncomputable def b_moved_piece : St := (.seq (.setv 2 (.call t_move_from [(.v 1)])) (.seq (.ife (.or (.cmp .ge (.v 2) (.at (.at (.v 0) 18) 2)) (.cmp .ge (.call t_move_to [(.v 1)]) (.at (.at (.v 0) 18) 2))) (.seq .bad .nop) .nop) (.seq (.setv 3 (.sub (.at (.v 0) 20) (.v 2))) (.seq (.ife (.or (.cmp .eq (.v 3) (.c (.int 0))) (.cmp .ne (.call t_side_of [(.v 3)]) (.at (.v 0) 17))) (.seq .bad .nop) .nop) (.seq (.ret (.v 3)) .nop)))))
noncomputable def t_moved_piece : Fun := (sealF (fnT 2 2 b_moved_piece)).1
theorem u_moved_piece : t_moved_piece = fnT 2 2 b_moved_piece := (sealF _).2
noncomputable def b_taken_square : St := (.seq (.setv 2 (.call t_move_to [(.v 1)])) (.seq (.ife (.cmp .ne (.call t_move_special [(.v 1)]) (.c (.int 2))) (.seq (.ret (.v 2)) .nop) .nop) (.seq (.ife (.cmp .eq (.at (.v 0) 17) (.c (.int 0))) (.seq (.ret (.bin .sub (.v 2) (.at (.at (.v 0) 18) 0))) .nop) .nop) (.seq (.ret (.bin .add (.v 2) (.at (.at (.v 0) 18) 0))) .nop))))
noncomputable def t_taken_square : Fun := (sealF (fnT 2 1 b_taken_square)).1
theorem u_taken_square : t_taken_square = fnT 2 1 b_taken_square := (sealF _).2
noncomputable def w_rook_step_1_1 : St := .seq (.ife (.and (.isn true (.v 4)) (.cmp .eq (.sub (.v 4) (.c (.int 1))) (.v 2))) (.seq (.ret (.tup [(.sub (.v 4) (.c (.int 2))), (.sub (.v 4) (.c (.int 3)))])) .nop) .nop) .nop
noncomputable def w_rook_step_1 : St := .seq (.setv 4 (.sub (.at (.v 0) 12) (.v 3))) w_rook_step_1_1
noncomputable def b_rook_step : St := (.seq (.for (.v 3) (.tup [(.bin .mul (.c (.int 2)) (.v 1)), (.bin .add (.bin .mul (.c (.int 2)) (.v 1)) (.c (.int 1)))]) w_rook_step_1) (.seq .bad .nop))
noncomputable def t_rook_step : Fun := (sealF (fnT 3 2 b_rook_step)).1
theorem u_rook_step : t_rook_step = fnT 3 2 b_rook_step := (sealF _).2
noncomputable def b_passed_square : St := (.seq (.setv 4 (.at (.at (.v 0) 18) 0)) (.seq (.ife (.and (.cmp .ne (.bin .sub (.v 3) (.v 2)) (.bin .mul (.c (.int 2)) (.v 4))) (.cmp .ne (.bin .sub (.v 2) (.v 3)) (.bin .mul (.c (.int 2)) (.v 4)))) (.seq (.ret (.neg (.c (.int 1)))) .nop) .nop) (.seq (.setv 5 (.bin .fdiv (.bin .add (.v 2) (.v 3)) (.c (.int 2)))) (.seq (.setv 6 (.bin .band (.sub (.at (.v 0) 21) (.c (.int 1))) (.sub (.at (.v 0) 22) (.bin .sub (.c (.int 1)) (.v 1))))) (.seq (.ife (.cmp .eq (.bin .band (.sub (.sub (.at (.at (.v 0) 18) 11) (.v 1)) (.v 5)) (.v 6)) (.c (.int 0))) (.seq (.ret (.neg (.c (.int 1)))) .nop) .nop) (.seq (.ret (.v 5)) .nop))))))
noncomputable def t_passed_square : Fun := (sealF (fnT 4 3 b_passed_square)).1
theorem u_passed_square : t_passed_square = fnT 4 3 b_passed_square := (sealF _).2
noncomputable def b_kept_rights : St := (.seq (.setv 3 (.bin .bor (.sub (.at (.at (.v 0) 18) 13) (.v 1)) (.sub (.at (.at (.v 0) 18) 13) (.v 2)))) (.seq (.ret (.bin .sub (.at (.v 0) 16) (.bin .band (.at (.v 0) 16) (.v 3)))) .nop))
noncomputable def t_kept_rights : Fun := (sealF (fnT 3 1 b_kept_rights)).1
theorem u_kept_rights : t_kept_rights = fnT 3 1 b_kept_rights := (sealF _).2
noncomputable def b_clear_ep_key : St := (.seq (.ife (.cmp .ge (.at (.v 0) 15) (.c (.int 0))) (.seq (.auga (.v 0) 24 .bxor (.sub (.at (.at (.v 0) 19) 15) (.bin .mod (.at (.v 0) 15) (.at (.at (.v 0) 18) 0)))) (.seq (.seta (.v 0) 15 (.neg (.c (.int 1)))) .nop)) .nop) .nop)
noncomputable def t_clear_ep_key : Fun := (sealF (fnT 1 0 b_clear_ep_key)).1
theorem u_clear_ep_key : t_clear_ep_key = fnT 1 0 b_clear_ep_key := (sealF _).2
noncomputable def b_set_ep_key : St := (.seq (.ife (.cmp .ge (.v 1) (.c (.int 0))) (.seq (.auga (.v 0) 24 .bxor (.sub (.at (.at (.v 0) 19) 15) (.bin .mod (.v 1) (.at (.at (.v 0) 18) 0)))) .nop) .nop) (.seq (.seta (.v 0) 15 (.v 1)) .nop))
noncomputable def t_set_ep_key : Fun := (sealF (fnT 2 0 b_set_ep_key)).1
theorem u_set_ep_key : t_set_ep_key = fnT 2 0 b_set_ep_key := (sealF _).2
noncomputable def b_set_rights_key : St := (.seq (.ife (.cmp .ne (.v 1) (.at (.v 0) 16)) (.seq (.auga (.v 0) 24 .bxor (.bin .bxor (.sub (.at (.at (.v 0) 19) 16) (.at (.v 0) 16)) (.sub (.at (.at (.v 0) 19) 16) (.v 1)))) (.seq (.seta (.v 0) 16 (.v 1)) .nop)) .nop) .nop)
noncomputable def t_set_rights_key : Fun := (sealF (fnT 2 0 b_set_rights_key)).1
theorem u_set_rights_key : t_set_rights_key = fnT 2 0 b_set_rights_key := (sealF _).2
noncomputable def q_do_move_19 : St := .seq (.auga (.v 0) 24 .bxor (.at (.at (.v 0) 19) 17)) .nop
noncomputable def q_do_move_18 : St := .seq (.seta (.v 0) 17 (.bin .sub (.c (.int 1)) (.v 3))) q_do_move_19
noncomputable def q_do_move_17 : St := .seq (.ife (.cmp .eq (.v 3) (.c (.int 1))) (.seq (.auga (.v 0) 3 .add (.c (.int 1))) .nop) .nop) q_do_move_18
noncomputable def q_do_move_16 : St := .seq (.exp (.call t_set_rights_key [(.v 0), (.call t_kept_rights [(.v 0), (.v 4), (.v 5)])])) q_do_move_17
noncomputable def q_do_move_15 : St := .seq (.ife (.cmp .eq (.call t_kind_of [(.v 2)]) (.c (.int 1))) (.seq (.seta (.v 0) 23 (.c (.int 0))) (.seq (.exp (.call t_set_ep_key [(.v 0), (.call t_passed_square [(.v 0), (.v 3), (.v 4), (.v 5)])])) .nop)) .nop) q_do_move_16
noncomputable def q_do_move_14 : St := .seq (.ife (.cmp .eq (.v 6) (.c (.int 3))) (.seq (.exp (.call t_shift_piece [(.v 0), (.sub (.v 7) (.c (.int 0))), (.sub (.v 7) (.c (.int 1)))])) .nop) .nop) q_do_move_15
noncomputable def q_do_move_13 : St := .seq (.ife (.cmp .eq (.v 6) (.c (.int 1))) (.seq (.exp (.call t_take_piece [(.v 0), (.v 4)])) (.seq (.exp (.call t_put_piece [(.v 0), (.call t_make_piece [(.v 3), (.call t_move_promo [(.v 1)])]), (.v 5)])) .nop)) (.seq (.exp (.call t_shift_piece [(.v 0), (.v 4), (.v 5)])) .nop)) q_do_move_14
noncomputable def q_do_move_12 : St := .seq (.ife (.cmp .ne (.v 9) (.c (.int 0))) (.seq (.exp (.call t_take_piece [(.v 0), (.v 8)])) (.seq (.seta (.v 0) 23 (.c (.int 0))) .nop)) .nop) q_do_move_13
noncomputable def q_do_move_11 : St := .seq (.auga (.v 0) 23 .add (.c (.int 1))) q_do_move_12
noncomputable def q_do_move_10 : St := .seq (.exp (.call t_clear_ep_key [(.v 0)])) q_do_move_11
noncomputable def q_do_move_9 : St := .seq (.exp (.me .append (.at (.v 0) 25) (.tup [(.v 1), (.v 9), (.at (.v 0) 16), (.at (.v 0) 15), (.at (.v 0) 23), (.at (.v 0) 24)]))) q_do_move_10
noncomputable def q_do_move_8 : St := .seq (.setv 9 (.sub (.at (.v 0) 20) (.v 8))) q_do_move_9
noncomputable def q_do_move_7 : St := .seq (.setv 8 (.call t_taken_square [(.v 0), (.v 1)])) q_do_move_8
noncomputable def q_do_move_6 : St := .seq (.ife (.cmp .eq (.v 6) (.c (.int 3))) (.seq (.setv 7 (.call t_rook_step [(.at (.v 0) 18), (.v 3), (.v 5)])) .nop) .nop) q_do_move_7
noncomputable def q_do_move_5 : St := .seq (.setv 7 (.tup [(.neg (.c (.int 1))), (.neg (.c (.int 1)))])) q_do_move_6
noncomputable def q_do_move_4 : St := .seq (.setv 6 (.call t_move_special [(.v 1)])) q_do_move_5
noncomputable def q_do_move_3 : St := .seq (.setv 5 (.call t_move_to [(.v 1)])) q_do_move_4
noncomputable def q_do_move_2 : St := .seq (.setv 4 (.call t_move_from [(.v 1)])) q_do_move_3
noncomputable def q_do_move_1 : St := .seq (.setv 3 (.at (.v 0) 17)) q_do_move_2
noncomputable def b_do_move : St := (.seq (.setv 2 (.call t_moved_piece [(.v 0), (.v 1)])) q_do_move_1)
noncomputable def t_do_move : Fun := (sealF (fnT 2 8 b_do_move)).1
theorem u_do_move : t_do_move = fnT 2 8 b_do_move := (sealF _).2
noncomputable def w_count_bits_1_1 : St := .seq (.augv 1 .add (.c (.int 1))) .nop
noncomputable def w_count_bits_1 : St := .seq (.augv 0 .band (.bin .sub (.v 0) (.c (.int 1)))) w_count_bits_1_1
noncomputable def b_count_bits : St := (.seq (.setv 1 (.c (.int 0))) (.seq (.wh (.v 0) w_count_bits_1) (.seq (.ret (.v 1)) .nop)))
noncomputable def t_count_bits : Fun := (sealF (fnT 1 1 b_count_bits)).1
theorem u_count_bits : t_count_bits = fnT 1 1 b_count_bits := (sealF _).2
noncomputable def b_count_of : St := (.seq (.ret (.call t_count_bits [(.bin .band (.sub (.at (.v 0) 21) (.v 2)) (.sub (.at (.v 0) 22) (.v 1)))])) .nop)
noncomputable def t_count_of : Fun := (sealF (fnT 3 0 b_count_of)).1
theorem u_count_of : t_count_of = fnT 3 0 b_count_of := (sealF _).2
noncomputable def w_counts_of_1 : St := .seq (.exp (.me .append (.v 3) (.call t_count_of [(.v 0), (.v 2), (.v 4)]))) .nop
noncomputable def w_counts_of_2_3 : St := .seq (.exp (.me .append (.v 1) (.v 3))) .nop
noncomputable def w_counts_of_2_2 : St := .seq (.sets (.v 3) (.c (.int 0)) (.ite (.cmp .gt (.sub (.v 3) (.c (.int 3))) (.c (.int 1))) (.c (.int 1)) (.c (.int 0)))) w_counts_of_2_3
noncomputable def w_counts_of_2_1 : St := .seq (.for (.v 4) (.tup [(.c (.int 1)), (.c (.int 2)), (.c (.int 3)), (.c (.int 4)), (.c (.int 5))]) w_counts_of_1) w_counts_of_2_2
noncomputable def w_counts_of_2 : St := .seq (.setv 3 (.lst [(.c (.int 0))])) w_counts_of_2_1
noncomputable def b_counts_of : St := (.seq (.setv 1 (.lst [])) (.seq (.for (.v 2) (.tup [(.c (.int 0)), (.c (.int 1))]) w_counts_of_2) (.seq (.ret (.v 1)) .nop)))
noncomputable def t_counts_of : Fun := (sealF (fnT 1 4 b_counts_of)).1
theorem u_counts_of : t_counts_of = fnT 1 4 b_counts_of := (sealF _).2
noncomputable def w_imbalance_1 : St := .seq (.augv 6 .add (.bin .add (.bin .mul (.sub (.sub (.c (aintss ownWeights)) (.v 5)) (.v 7)) (.sub (.v 2) (.v 7))) (.bin .mul (.sub (.sub (.c (aintss foeWeights)) (.v 5)) (.v 7)) (.sub (.v 3) (.v 7))))) .nop
noncomputable def w_imbalance_2 : St := .seq (.ife (.sub (.v 2) (.v 5)) (.seq (.setv 6 (.c (.int 0))) (.seq (.for (.v 7) (.bi .range [(.bin .add (.v 5) (.c (.int 1)))]) w_imbalance_1) (.seq (.augv 4 .add (.bin .mul (.sub (.v 2) (.v 5)) (.v 6))) .nop))) .nop) .nop
noncomputable def b_imbalance : St := (.seq (.setv 2 (.sub (.v 0) (.v 1))) (.seq (.setv 3 (.sub (.v 0) (.bin .sub (.c (.int 1)) (.v 1)))) (.seq (.setv 4 (.c (.int 0))) (.seq (.for (.v 5) (.bi .range [(.c (.int 6))]) w_imbalance_2) (.seq (.ret (.v 4)) .nop)))))
noncomputable def t_imbalance : Fun := (sealF (fnT 2 6 b_imbalance)).1
theorem u_imbalance : t_imbalance = fnT 2 6 b_imbalance := (sealF _).2
noncomputable def b_imbalance_value : St := (.seq (.ret (.call t_divide [(.bin .sub (.call t_imbalance [(.v 0), (.c (.int 0))]) (.call t_imbalance [(.v 0), (.c (.int 1))])), (.c (.int 16))])) .nop)
noncomputable def t_imbalance_value : Fun := (sealF (fnT 1 0 b_imbalance_value)).1
theorem u_imbalance_value : t_imbalance_value = fnT 1 0 b_imbalance_value := (sealF _).2
noncomputable def b_law_shapes : St := (.seq (.ret (.lst [(.tup [(.c (.int 3)), (.c (.int 4)), (.c (.bool false)), (.c (.bool false))]), (.tup [(.c (.int 6)), (.c (.int 3)), (.c (.bool false)), (.c (.bool true))]), (.tup [(.c (.int 3)), (.c (.int 6)), (.c (.bool true)), (.c (.bool false))]), (.tup [(.c (.int 4)), (.c (.int 5)), (.c (.bool true)), (.c (.bool false))])])) .nop)
noncomputable def t_law_shapes : Fun := (sealF (fnT 0 1 b_law_shapes)).1
theorem u_law_shapes : t_law_shapes = fnT 0 1 b_law_shapes := (sealF _).2
noncomputable def w_law_goals_1_3 : St := .seq (.augv 11 .add (.v 9)) .nop
noncomputable def w_law_goals_1_2 : St := .seq (.augv 10 .add (.v 8)) w_law_goals_1_3
noncomputable def w_law_goals_1_1 : St := .seq (.ife (.or (.cmp .lt (.v 4) (.c (.int 3))) (.or (.cmp .eq (.v 4) (.c (.int 6))) (.sub (.v 2) (.bin .add (.bin .mul (.v 11) (.v 0)) (.v 10))))) (.seq .brk .nop) .nop) w_law_goals_1_2
noncomputable def w_law_goals_1 : St := .seq (.exp (.me .append (.v 7) (.bin .add (.bin .mul (.v 11) (.v 0)) (.v 10)))) w_law_goals_1_1
noncomputable def w_law_goals_2_2 : St := .seq (.wh (.and (.cmp2 .le .lt (.c (.int 0)) (.v 10) (.v 0)) (.cmp2 .le .lt (.c (.int 0)) (.v 11) (.v 1))) w_law_goals_1) .nop
noncomputable def w_law_goals_2_1 : St := .seq (.setv 11 (.bin .add (.bin .fdiv (.v 3) (.v 0)) (.v 9))) w_law_goals_2_2
noncomputable def w_law_goals_2 : St := .seq (.setv 10 (.bin .add (.bin .mod (.v 3) (.v 0)) (.v 8))) w_law_goals_2_1
noncomputable def q_law_goals_6 : St := .seq (.ret (.v 7)) .nop
noncomputable def q_law_goals_5 : St := .seq (.for (.t [8, 9]) (.v 6) w_law_goals_2) q_law_goals_6
noncomputable def q_law_goals_4 : St := .seq (.setv 7 (.lst [])) q_law_goals_5
noncomputable def q_law_goals_3 : St := .seq (.ife (.cmp .lt (.v 4) (.c (.int 5))) (.seq (.setv 6 (.sub (.lst [(.lst []), (.lst [(.tup [(.neg (.c (.int 1))), (.v 5)]), (.tup [(.c (.int 1)), (.v 5)])]), (.c (.lst (jumpL.map apair))), (.c (.lst (slantL.map apair))), (.c (.lst (straightL.map apair)))]) (.v 4))) .nop) .nop) q_law_goals_4
noncomputable def q_law_goals_2 : St := .seq (.setv 6 (.bin .add (.c (.lst (straightL.map apair))) (.c (.lst (slantL.map apair))))) q_law_goals_3
noncomputable def q_law_goals_1 : St := .seq (.setv 5 (.bin .sub (.c (.int 1)) (.bin .mul (.bin .fdiv (.sub (.v 2) (.v 3)) (.c (.int 8))) (.c (.int 2))))) q_law_goals_2
noncomputable def b_law_goals : St := (.seq (.setv 4 (.bin .mod (.sub (.v 2) (.v 3)) (.c (.int 8)))) q_law_goals_1)
noncomputable def t_law_goals : Fun := (sealF (fnT 4 8 b_law_goals)).1
theorem u_law_goals : t_law_goals = fnT 4 8 b_law_goals := (sealF _).2
noncomputable def w_law_held_1 : St := .seq (.ife (.and (.sub (.v 2) (.v 5)) (.and (.cmp .eq (.bin .fdiv (.sub (.v 2) (.v 5)) (.c (.int 8))) (.v 4)) (.isin (.v 3) (.call t_law_goals [(.v 0), (.v 1), (.v 2), (.v 5)])))) (.seq (.ret (.c (.bool true))) .nop) .nop) .nop
noncomputable def q_law_held_1 : St := .seq (.ret (.c (.bool false))) .nop
noncomputable def b_law_held : St := (.seq (.for (.v 5) (.bi .range [(.bi .len [(.v 2)])]) w_law_held_1) q_law_held_1)
noncomputable def t_law_held : Fun := (sealF (fnT 5 1 b_law_held)).1
theorem u_law_held : t_law_held = fnT 5 1 b_law_held := (sealF _).2
noncomputable def w_law_pawn_moves_1_1 : St := .seq (.ife (.cmp .eq (.v 11) (.v 3)) (.seq (.exp (.me .append (.v 10) (.tup [(.v 2), (.v 11), (.c (.int 2)), (.c (.int 0))]))) .nop) .nop) .nop
noncomputable def w_law_pawn_moves_1 : St := .seq (.ife (.and (.sub (.v 1) (.v 11)) (.cmp .ne (.bin .fdiv (.sub (.v 1) (.v 11)) (.c (.int 8))) (.v 8))) (.seq (.exp (.me .append (.v 10) (.tup [(.v 2), (.v 11), (.c (.int 0)), (.c (.int 0))]))) .nop) .nop) w_law_pawn_moves_1_1
noncomputable def w_law_pawn_moves_2 : St := .seq (.exp (.me .append (.v 12) (.tup [(.v 2), (.sub (.v 13) (.c (.int 1))), (.c (.int 1)), (.v 14)]))) .nop
noncomputable def w_law_pawn_moves_3 : St := .seq (.ife (.cmp .eq (.bin .fdiv (.sub (.v 13) (.c (.int 1))) (.v 4)) (.ite (.cmp .eq (.v 8) (.c (.int 0))) (.bin .sub (.v 5) (.c (.int 1))) (.c (.int 0)))) (.seq (.for (.v 14) (.tup [(.c (.int 5)), (.c (.int 2)), (.c (.int 4)), (.c (.int 3))]) w_law_pawn_moves_2) .nop) (.seq (.exp (.me .append (.v 12) (.v 13))) .nop)) .nop
noncomputable def q_law_pawn_moves_8 : St := .seq (.ret (.v 12)) .nop
noncomputable def q_law_pawn_moves_7 : St := .seq (.for (.v 13) (.v 10) w_law_pawn_moves_3) q_law_pawn_moves_8
noncomputable def q_law_pawn_moves_6 : St := .seq (.setv 12 (.lst [])) q_law_pawn_moves_7
noncomputable def q_law_pawn_moves_5 : St := .seq (.for (.v 11) (.call t_law_goals [(.v 4), (.v 5), (.v 1), (.v 2)]) w_law_pawn_moves_1) q_law_pawn_moves_6
noncomputable def q_law_pawn_moves_4 : St := .seq (.ife (.cmp .eq (.sub (.v 1) (.bin .add (.v 2) (.v 9))) (.c (.int 0))) (.seq (.exp (.me .append (.v 10) (.tup [(.v 2), (.bin .add (.v 2) (.v 9)), (.c (.int 0)), (.c (.int 0))]))) (.seq (.ife (.and (.v 6) (.and (.cmp .eq (.bin .fdiv (.v 2) (.v 4)) (.ite (.cmp .eq (.v 8) (.c (.int 0))) (.c (.int 1)) (.bin .sub (.v 5) (.c (.int 2))))) (.cmp .eq (.sub (.v 1) (.bin .add (.v 2) (.bin .mul (.c (.int 2)) (.v 9)))) (.c (.int 0))))) (.seq (.exp (.me .append (.v 10) (.tup [(.v 2), (.bin .add (.v 2) (.bin .mul (.c (.int 2)) (.v 9))), (.c (.int 0)), (.c (.int 0))]))) .nop) .nop) .nop)) .nop) q_law_pawn_moves_5
noncomputable def q_law_pawn_moves_3 : St := .seq (.setv 10 (.lst [])) q_law_pawn_moves_4
noncomputable def q_law_pawn_moves_2 : St := .seq (.setv 9 (.bin .sub (.v 4) (.bin .mul (.bin .mul (.c (.int 2)) (.v 4)) (.v 8)))) q_law_pawn_moves_3
noncomputable def q_law_pawn_moves_1 : St := .seq (.setv 8 (.bin .fdiv (.sub (.v 1) (.v 2)) (.c (.int 8)))) q_law_pawn_moves_2
noncomputable def b_law_pawn_moves : St := (.seq (.sett [4, 5, 6, 7] (.v 0)) q_law_pawn_moves_1)
noncomputable def t_law_pawn_moves : Fun := (sealF (fnT 4 11 b_law_pawn_moves)).1
theorem u_law_pawn_moves : t_law_pawn_moves = fnT 4 11 b_law_pawn_moves := (sealF _).2
noncomputable def w_law_castling_1 : St := .seq (.ife (.sub (.v 1) (.v 9)) (.seq (.ret (.lst [])) .nop) .nop) .nop
noncomputable def w_law_castling_2 : St := .seq (.ife (.call t_law_held [(.v 4), (.v 5), (.v 1), (.v 9), (.bin .sub (.c (.int 1)) (.v 2))]) (.seq (.ret (.lst [])) .nop) .nop) .nop
noncomputable def q_law_castling_5 : St := .seq (.ret (.lst [(.tup [(.v 8), (.bin .sub (.v 8) (.c (.int 2))), (.c (.int 3)), (.c (.int 0))])])) .nop
noncomputable def q_law_castling_4 : St := .seq (.for (.v 9) (.tup [(.v 8), (.bin .sub (.v 8) (.c (.int 1))), (.bin .sub (.v 8) (.c (.int 2)))]) w_law_castling_2) q_law_castling_5
noncomputable def q_law_castling_3 : St := .seq (.for (.v 9) (.bi .range [(.bin .add (.bin .sub (.v 8) (.bin .fdiv (.v 4) (.c (.int 2)))) (.c (.int 1))), (.v 8)]) w_law_castling_1) q_law_castling_4
noncomputable def q_law_castling_2 : St := .seq (.ife (.or (.not (.v 7)) (.not (.bin .band (.v 3) (.ite (.cmp .eq (.v 2) (.c (.int 0))) (.c (.int 2)) (.c (.int 8)))))) (.seq (.ret (.lst [])) .nop) .nop) q_law_castling_3
noncomputable def q_law_castling_1 : St := .seq (.setv 8 (.bin .add (.ite (.cmp .eq (.v 2) (.c (.int 0))) (.c (.int 0)) (.bin .mul (.bin .sub (.v 5) (.c (.int 1))) (.v 4))) (.bin .fdiv (.v 4) (.c (.int 2))))) q_law_castling_2
noncomputable def b_law_castling : St := (.seq (.sett [4, 5, 6, 7] (.v 0)) q_law_castling_1)
noncomputable def t_law_castling : Fun := (sealF (fnT 4 6 b_law_castling)).1
theorem u_law_castling : t_law_castling = fnT 4 6 b_law_castling := (sealF _).2
noncomputable def w_law_moves_1 : St := .seq (.ife (.or (.cmp .eq (.sub (.v 1) (.v 7)) (.c (.int 0))) (.cmp .ne (.bin .fdiv (.sub (.v 1) (.v 7)) (.c (.int 8))) (.v 2))) (.seq (.exp (.me .append (.v 5) (.tup [(.v 6), (.v 7), (.c (.int 0)), (.c (.int 0))]))) .nop) .nop) .nop
noncomputable def w_law_moves_2 : St := .seq (.ife (.and (.sub (.v 1) (.v 6)) (.cmp .eq (.bin .fdiv (.sub (.v 1) (.v 6)) (.c (.int 8))) (.v 2))) (.seq (.ife (.cmp .eq (.bin .mod (.sub (.v 1) (.v 6)) (.c (.int 8))) (.c (.int 1))) (.seq (.exp (.me .extend (.v 5) (.call t_law_pawn_moves [(.v 0), (.v 1), (.v 6), (.v 3)]))) .nop) (.seq (.for (.v 7) (.call t_law_goals [(.sub (.v 0) (.c (.int 0))), (.sub (.v 0) (.c (.int 1))), (.v 1), (.v 6)]) w_law_moves_1) .nop)) .nop) .nop) .nop
noncomputable def q_law_moves_2 : St := .seq (.ret (.v 5)) .nop
noncomputable def q_law_moves_1 : St := .seq (.for (.v 6) (.bi .range [(.bi .len [(.v 1)])]) w_law_moves_2) q_law_moves_2
noncomputable def b_law_moves : St := (.seq (.setv 5 (.call t_law_castling [(.v 0), (.v 1), (.v 2), (.v 4)])) q_law_moves_1)
noncomputable def t_law_moves : Fun := (sealF (fnT 5 3 b_law_moves)).1
theorem u_law_moves : t_law_moves = fnT 5 3 b_law_moves := (sealF _).2
noncomputable def q_law_after_6 : St := .seq (.ret (.v 7)) .nop
noncomputable def q_law_after_5 : St := .seq (.ife (.cmp .eq (.v 5) (.c (.int 3))) (.seq (.sets (.v 7) (.bin .add (.v 4) (.c (.int 1))) (.sub (.v 7) (.bin .sub (.v 4) (.c (.int 1))))) (.seq (.sets (.v 7) (.bin .sub (.v 4) (.c (.int 1))) (.c (.int 0))) .nop)) .nop) q_law_after_6
noncomputable def q_law_after_4 : St := .seq (.ife (.cmp .eq (.v 5) (.c (.int 2))) (.seq (.sets (.v 7) (.bin .add (.bin .sub (.v 3) (.bin .mod (.v 3) (.v 0))) (.bin .mod (.v 4) (.v 0))) (.c (.int 0))) .nop) .nop) q_law_after_5
noncomputable def q_law_after_3 : St := .seq (.sets (.v 7) (.v 3) (.c (.int 0))) q_law_after_4
noncomputable def q_law_after_2 : St := .seq (.sets (.v 7) (.v 4) (.ite (.cmp .ne (.v 5) (.c (.int 1))) (.sub (.v 7) (.v 3)) (.bin .add (.bin .sub (.sub (.v 7) (.v 3)) (.c (.int 1))) (.v 6)))) q_law_after_3
noncomputable def q_law_after_1 : St := .seq (.setv 7 (.bi .list [(.v 1)])) q_law_after_2
noncomputable def b_law_after : St := (.seq (.sett [3, 4, 5, 6] (.v 2)) q_law_after_1)
noncomputable def t_law_after : Fun := (sealF (fnT 3 5 b_law_after)).1
theorem u_law_after : t_law_after = fnT 3 5 b_law_after := (sealF _).2
noncomputable def w_law_pick_1 : St := .seq (.ife (.or (.cmp .gt (.sub (.v 8) (.c (.int 2))) (.c (.int 0))) (.and (.cmp .eq (.bin .mod (.sub (.v 1) (.sub (.v 8) (.c (.int 0)))) (.c (.int 8))) (.c (.int 1))) (.cmp .eq (.bi .abs [(.bin .sub (.sub (.v 8) (.c (.int 0))) (.sub (.v 8) (.c (.int 1))))]) (.bin .mul (.c (.int 2)) (.sub (.v 0) (.c (.int 0))))))) (.seq (.exp (.me .append (.v 7) (.v 8))) .nop) .nop) .nop
noncomputable def w_law_pick_2_2 : St := .seq (.ife (.not (.call t_law_held [(.sub (.v 0) (.c (.int 0))), (.sub (.v 0) (.c (.int 1))), (.v 10), (.me .index (.v 10) (.bin .add (.bin .mul (.v 2) (.c (.int 8))) (.c (.int 6)))), (.bin .sub (.c (.int 1)) (.v 2))])) (.seq (.ret (.v 8)) .nop) .nop) .nop
noncomputable def w_law_pick_2_1 : St := .seq (.setv 10 (.call t_law_after [(.sub (.v 0) (.c (.int 0))), (.v 1), (.v 8)])) w_law_pick_2_2
noncomputable def w_law_pick_2 : St := .seq (.setv 8 (.ite (.cmp .lt (.v 9) (.bi .len [(.v 7)])) (.sub (.v 7) (.bin .mod (.bin .add (.v 5) (.v 9)) (.bi .len [(.v 7)]))) (.sub (.v 6) (.bin .mod (.bin .add (.v 5) (.v 9)) (.bi .len [(.v 6)]))))) w_law_pick_2_1
noncomputable def q_law_pick_5 : St := .seq (.ret (.c .none)) .nop
noncomputable def q_law_pick_4 : St := .seq (.for (.v 9) (.bi .range [(.bin .add (.bi .len [(.v 7)]) (.bi .len [(.v 6)]))]) w_law_pick_2) q_law_pick_5
noncomputable def q_law_pick_3 : St := .seq (.ife (.cmp .eq (.bin .mod (.v 5) (.c (.int 3))) (.c (.int 2))) (.seq (.setv 7 (.lst [])) .nop) .nop) q_law_pick_4
noncomputable def q_law_pick_2 : St := .seq (.for (.v 8) (.v 6) w_law_pick_1) q_law_pick_3
noncomputable def q_law_pick_1 : St := .seq (.setv 7 (.lst [])) q_law_pick_2
noncomputable def b_law_pick : St := (.seq (.setv 6 (.call t_law_moves [(.v 0), (.v 1), (.v 2), (.v 3), (.v 4)])) q_law_pick_1)
noncomputable def t_law_pick : Fun := (sealF (fnT 6 5 b_law_pick)).1
theorem u_law_pick : t_law_pick = fnT 6 5 b_law_pick := (sealF _).2
noncomputable def w_law_board_1_1 : St := .seq (.sets (.v 9) (.bin .add (.v 11) (.bin .fdiv (.v 4) (.c (.int 2)))) (.bin .add (.v 12) (.c (.int 6)))) .nop
noncomputable def w_law_board_1 : St := .seq (.sets (.v 9) (.v 11) (.bin .add (.v 12) (.c (.int 4)))) w_law_board_1_1
noncomputable def v_law_board_1_1 : St := .seq (.for (.t [11, 12]) (.tup [(.tup [(.c (.int 0)), (.c (.int 0))]), (.tup [(.bin .sub (.v 8) (.v 4)), (.c (.int 8))])]) w_law_board_1) .nop
noncomputable def v_law_board_1 : St := .seq (.setv 10 (.c (.int 10))) v_law_board_1_1
noncomputable def v_law_board_2_3 : St := .seq (.sets (.v 9) (.sub (.v 15) (.bin .mod (.sub (.v 1) (.c (.int 2))) (.bi .len [(.v 15)]))) (.c (.int 14))) .nop
noncomputable def v_law_board_2_2 : St := .seq (.sets (.v 9) (.v 13) (.c (.int 6))) v_law_board_2_3
noncomputable def v_law_board_2_1 : St := .seq (.setv 15 (.comp (.v 22) 22 (.bi .range [(.v 8)]) (.or (.cmp .gt (.bi .abs [(.bin .sub (.bin .mod (.v 22) (.v 4)) (.bin .mod (.v 13) (.v 4)))]) (.c (.int 1))) (.cmp .gt (.bi .abs [(.bin .sub (.bin .fdiv (.v 22) (.v 4)) (.bin .fdiv (.v 13) (.v 4)))]) (.c (.int 1)))))) v_law_board_2_2
noncomputable def v_law_board_2 : St := .seq (.setv 13 (.bin .mod (.sub (.v 1) (.c (.int 1))) (.v 8))) v_law_board_2_1
noncomputable def v_law_board_3_1 : St := .seq (.ife (.call t_law_held [(.v 4), (.v 5), (.v 9), (.me .index (.v 9) (.bin .sub (.c (.int 14)) (.bin .mul (.v 3) (.c (.int 8))))), (.v 3)]) (.seq (.sets (.v 9) (.v 14) (.c (.int 0))) .nop) .nop) .nop
noncomputable def v_law_board_3 : St := .seq (.sets (.v 9) (.v 14) (.v 19)) v_law_board_3_1
noncomputable def w_law_board_2 : St := .seq (.ife (.cmp .eq (.sub (.v 9) (.v 14)) (.c (.int 0))) v_law_board_3 .nop) .nop
noncomputable def v_law_board_4_3 : St := .seq (.for (.t [19, 14]) (.tup [(.tup [(.bin .add (.bin .mul (.v 3) (.c (.int 8))) (.c (.int 1))), (.v 17)]), (.tup [(.bin .sub (.c (.int 9)) (.bin .mul (.v 3) (.c (.int 8)))), (.v 18)])]) w_law_board_2) .nop
noncomputable def v_law_board_4_2 : St := .seq (.setv 18 (.bin .add (.bin .add (.v 17) (.bin .mul (.bin .mul (.c (.int 2)) (.v 4)) (.bin .sub (.c (.int 1)) (.bin .mul (.c (.int 2)) (.v 3))))) (.c (.int 1)))) v_law_board_4_3
noncomputable def v_law_board_4_1 : St := .seq (.setv 17 (.bin .add (.bin .mul (.v 4) (.ite (.cmp .eq (.v 3) (.c (.int 0))) (.c (.int 1)) (.bin .sub (.v 5) (.c (.int 2))))) (.v 16))) v_law_board_4_2
noncomputable def v_law_board_4 : St := .seq (.setv 16 (.bin .mod (.bin .fdiv (.sub (.v 1) (.c (.int 3))) (.c (.int 4))) (.bin .sub (.v 4) (.c (.int 1))))) v_law_board_4_1
noncomputable def v_law_board_5_1 : St := .seq (.ife (.call t_law_held [(.v 4), (.v 5), (.v 9), (.me .index (.v 9) (.bin .sub (.c (.int 14)) (.bin .mul (.v 3) (.c (.int 8))))), (.v 3)]) (.seq (.sets (.v 9) (.v 14) (.c (.int 0))) .nop) .nop) .nop
noncomputable def v_law_board_5 : St := .seq (.sets (.v 9) (.v 14) (.bin .add (.bin .mul (.bin .mod (.bin .fdiv (.v 20) (.c (.int 5))) (.c (.int 2))) (.c (.int 8))) (.v 21))) v_law_board_5_1
noncomputable def w_law_board_3_2 : St := .seq (.ife (.and (.cmp .eq (.sub (.v 9) (.v 14)) (.c (.int 0))) (.or (.cmp .ne (.v 21) (.c (.int 1))) (.cmp2 .lt .lt (.c (.int 0)) (.bin .fdiv (.v 14) (.v 4)) (.bin .sub (.v 5) (.c (.int 1)))))) v_law_board_5 .nop) .nop
noncomputable def w_law_board_3_1 : St := .seq (.setv 21 (.bin .add (.c (.int 1)) (.bin .mod (.v 20) (.c (.int 5))))) w_law_board_3_2
noncomputable def w_law_board_3 : St := .seq (.setv 14 (.bin .mod (.bin .fdiv (.v 20) (.c (.int 10))) (.v 8))) w_law_board_3_1
noncomputable def q_law_board_7 : St := .seq (.ret (.tup [(.v 9), (.v 10)])) .nop
noncomputable def q_law_board_6 : St := .seq (.for (.v 20) (.slb (.v 1) (.c (.int 4)) (.bi .min [(.v 2), (.c (.int 11))])) w_law_board_3) q_law_board_7
noncomputable def q_law_board_5 : St := .seq (.ife (.and (.sub (.v 0) (.c (.int 2))) (.cmp .eq (.bin .mod (.bin .fdiv (.sub (.v 1) (.c (.int 3))) (.c (.int 2))) (.c (.int 2))) (.c (.int 0)))) v_law_board_4 .nop) q_law_board_6
noncomputable def q_law_board_4 : St := .seq (.ife (.and (.v 7) (.cmp .eq (.bin .mod (.bin .fdiv (.sub (.v 1) (.c (.int 3))) (.c (.int 2))) (.c (.int 2))) (.c (.int 0)))) v_law_board_1 v_law_board_2) q_law_board_5
noncomputable def q_law_board_3 : St := .seq (.setv 10 (.c (.int 0))) q_law_board_4
noncomputable def q_law_board_2 : St := .seq (.setv 9 (.bin .mul (.lst [(.c (.int 0))]) (.v 8))) q_law_board_3
noncomputable def q_law_board_1 : St := .seq (.setv 8 (.bin .mul (.v 4) (.v 5))) q_law_board_2
noncomputable def b_law_board : St := (.seq (.sett [4, 5, 6, 7] (.v 0)) q_law_board_1)
noncomputable def t_law_board : Fun := (sealF (fnT 4 19 b_law_board)).1
theorem u_law_board : t_law_board = fnT 4 19 b_law_board := (sealF _).2
noncomputable def w_law_position_1 : St := .seq (.ife (.sub (.v 1) (.v 3)) (.seq (.exp (.call t_put_piece [(.v 2), (.sub (.v 1) (.v 3)), (.v 3)])) .nop) .nop) .nop
noncomputable def q_law_position_2 : St := .seq (.ret (.v 2)) .nop
noncomputable def q_law_position_1 : St := .seq (.for (.v 3) (.bi .range [(.bi .len [(.v 1)])]) w_law_position_1) q_law_position_2
noncomputable def b_law_position : St := (.seq (.setv 2 (.new 2 t_Position [(.v 0), (.new 1 t_Zobrist [(.comp (.bin .mul (.lst [(.c (.int 0))]) (.at (.v 0) 2)) 4 (.bi .range [(.c (.int 15))]) .yes), (.bin .mul (.lst [(.c (.int 0))]) (.at (.v 0) 0)), (.bin .mul (.lst [(.c (.int 0))]) (.c (.int 16))), (.c (.int 0))])])) q_law_position_1)
noncomputable def t_law_position : Fun := (sealF (fnT 2 3 b_law_position)).1
theorem u_law_position : t_law_position = fnT 2 3 b_law_position := (sealF _).2
noncomputable def q_law_marks_5 : St := .seq (.ret (.lst [(.c (.int 1)), (.v 6), (.v 7), (.v 5), (.bi .min [(.v 6), (.v 7)]), (.bin .mul (.v 6) (.v 5)), (.sub (.v 8) (.bin .mod (.v 2) (.c (.int 8))))])) .nop
noncomputable def q_law_marks_4 : St := .seq (.setv 8 (.lst [(.c (.int 0)), (.c (.int 0)), (.bi .int [(.cmp .eq (.bin .mul (.v 6) (.v 7)) (.c (.int 0)))]), (.bi .int [(.isin (.v 4) (.tup [(.v 5), (.bin .sub (.bin .sub (.v 0) (.c (.int 1))) (.v 5))]))]), (.bi .int [(.cmp .eq (.v 5) (.bin .sub (.v 1) (.c (.int 2))))]), (.c (.int 0)), (.c (.int 0))])) q_law_marks_5
noncomputable def q_law_marks_3 : St := .seq (.setv 7 (.bi .min [(.v 5), (.bin .sub (.bin .sub (.v 1) (.c (.int 1))) (.v 5))])) q_law_marks_4
noncomputable def q_law_marks_2 : St := .seq (.setv 6 (.bi .min [(.v 4), (.bin .sub (.bin .sub (.v 0) (.c (.int 1))) (.v 4))])) q_law_marks_3
noncomputable def q_law_marks_1 : St := .seq (.setv 5 (.ite (.cmp .lt (.v 2) (.c (.int 8))) (.bin .fdiv (.v 3) (.v 0)) (.bin .sub (.bin .sub (.v 1) (.c (.int 1))) (.bin .fdiv (.v 3) (.v 0))))) q_law_marks_2
noncomputable def b_law_marks : St := (.seq (.setv 4 (.bin .mod (.v 3) (.v 0))) q_law_marks_1)
noncomputable def t_law_marks : Fun := (sealF (fnT 4 5 b_law_marks)).1
theorem u_law_marks : t_law_marks = fnT 4 5 b_law_marks := (sealF _).2
noncomputable def v_law_agree_1_3 : St := .seq (.augv 6 .add (.bin .mul (.v 10) (.bi .sum [(.comp (.bin .mul (.sub (.v 9) (.v 11)) (.sub (.sub (.c (aintss lateL)) (.bin .mod (.v 8) (.c (.int 8)))) (.v 11))) 11 (.bi .range [(.c (.int 7))]) .yes)]))) .nop
noncomputable def v_law_agree_1_2 : St := .seq (.augv 5 .add (.bin .mul (.v 10) (.bi .sum [(.comp (.bin .mul (.sub (.v 9) (.v 11)) (.sub (.sub (.c (aintss earlyL)) (.bin .mod (.v 8) (.c (.int 8)))) (.v 11))) 11 (.bi .range [(.c (.int 7))]) .yes)]))) v_law_agree_1_3
noncomputable def v_law_agree_1_1 : St := .seq (.setv 10 (.ite (.cmp .lt (.v 8) (.c (.int 8))) (.c (.int 1)) (.neg (.c (.int 1))))) v_law_agree_1_2
noncomputable def v_law_agree_1 : St := .seq (.setv 9 (.call t_law_marks [(.at (.v 4) 0), (.at (.v 4) 1), (.v 8), (.v 7)])) v_law_agree_1_1
noncomputable def w_law_agree_1_1 : St := .seq (.ife (.v 8) v_law_agree_1 .nop) .nop
noncomputable def w_law_agree_1 : St := .seq (.setv 8 (.sub (.v 1) (.v 7))) w_law_agree_1_1
noncomputable def q_law_agree_4 : St := .seq (.ret (.and (.cmp .eq (.at (.v 0) 20) (.v 1)) (.and (.cmp .eq (.call t_psq_of [(.v 0), (.v 2)]) (.v 3)) (.cmp .eq (.tup [(.call t_mg_of [(.v 3)]), (.call t_eg_of [(.v 3)])]) (.tup [(.v 5), (.v 6)]))))) .nop
noncomputable def q_law_agree_3 : St := .seq (.for (.v 7) (.bi .range [(.bi .len [(.v 1)])]) w_law_agree_1) q_law_agree_4
noncomputable def q_law_agree_2 : St := .seq (.setv 6 (.c (.int 0))) q_law_agree_3
noncomputable def q_law_agree_1 : St := .seq (.setv 5 (.c (.int 0))) q_law_agree_2
noncomputable def b_law_agree : St := (.seq (.setv 4 (.at (.v 0) 18)) q_law_agree_1)
noncomputable def t_law_agree : Fun := (sealF (fnT 4 8 b_law_agree)).1
theorem u_law_agree : t_law_agree = fnT 4 8 b_law_agree := (sealF _).2
noncomputable def w_law_form_1 : St := .seq (.ife (.cmp .le (.v 4) (.v 3)) (.seq (.augv 2 .add (.sub (.sub (.c (aintss ownWeights)) (.v 3)) (.v 4))) .nop) .nop) .nop
noncomputable def w_law_form_2 : St := .seq (.ife (.cmp .le (.v 4) (.v 3)) (.seq (.augv 2 .add (.sub (.sub (.c (aintss foeWeights)) (.v 3)) (.v 4))) .nop) .nop) .nop
noncomputable def w_law_form_3_1 : St := .seq (.for (.v 4) (.v 1) w_law_form_2) .nop
noncomputable def w_law_form_3 : St := .seq (.for (.v 4) (.v 0) w_law_form_1) w_law_form_3_1
noncomputable def q_law_form_2 : St := .seq (.ret (.v 2)) .nop
noncomputable def q_law_form_1 : St := .seq (.for (.v 3) (.v 0) w_law_form_3) q_law_form_2
noncomputable def r_law_refused : Fun := fun xs M Q => ∃ d tb s fs gf b cs bd pc, xs = [.inst 2 d, tb, .int s] ∧ M d = some (.flds fs) ∧ fs.lookup 18 = some (.obj 0 gf) ∧ fs.lookup 20 = some (.ref b) ∧ gf.lookup 12 = some (.lst cs) ∧ M b = some (.list bd) ∧
  0 ≤ s ∧ s < 64 ∧ bd[s.toNat]? = some (.int pc) ∧ 0 ≤ pc ∧ pc < 16 ∧ cs.length = 4 ∧ (∀ x ∈ cs, x = .none ∨ ∃ a b r, x = .tup (.int a :: .int b :: r) ∧ a ≠ b) ∧ Q (.bool true) M
noncomputable def t_law_refused : Fun := (sealF r_law_refused).1
theorem u_law_refused : t_law_refused = r_law_refused := (sealF _).2
noncomputable def b_law_form : St := (.seq (.setv 2 (.c (.int 0))) q_law_form_1)
noncomputable def t_law_form : Fun := (sealF (fnT 2 3 b_law_form)).1
theorem u_law_form : t_law_form = fnT 2 3 b_law_form := (sealF _).2
noncomputable def w_law_whole_1 : St := .seq (.exp (.me .append (.v 6) (.ite (.v 8) (.bin .mod (.bin .add (.v 8) (.c (.int 8))) (.c (.int 16))) (.c (.int 0))))) .nop
noncomputable def w_law_whole_2 : St := .seq (.for (.v 8) (.slb (.v 2) (.bin .mul (.v 7) (.v 5)) (.bin .add (.bin .mul (.v 7) (.v 5)) (.v 5))) w_law_whole_1) .nop
noncomputable def w_law_whole_3_1 : St := .seq (.exp (.me .append (.v 9) (.ite (.cmp .gt (.me .count (.v 11) (.c (.int 3))) (.c (.int 1))) (.bin .add (.v 11) (.lst [(.c (.int 0))])) (.v 11)))) .nop
noncomputable def w_law_whole_3 : St := .seq (.setv 11 (.comp (.bin .mod (.v 16) (.c (.int 8))) 16 (.v 2) (.and (.isin (.bin .mod (.v 16) (.c (.int 8))) (.tup [(.c (.int 1)), (.c (.int 2)), (.c (.int 3)), (.c (.int 4)), (.c (.int 5))])) (.cmp .eq (.bin .fdiv (.v 16) (.c (.int 8))) (.v 10))))) w_law_whole_3_1
noncomputable def q_law_whole_12 : St := .seq (.ret (.and (.cmp .eq (.call t_psq_plain [(.v 1)]) (.v 4)) (.and (.cmp .eq (.call t_psq_of [(.v 15), (.v 3)]) (.neg (.v 4))) (.and (.cmp .eq (.call t_counts_of [(.v 1)]) (.v 12)) (.and (.cmp .eq (.call t_counts_of [(.v 15)]) (.lst [(.sub (.v 12) (.c (.int 1))), (.sub (.v 12) (.c (.int 0)))])) (.and (.cmp .eq (.lst [(.call t_imbalance [(.v 12), (.c (.int 0))]), (.call t_imbalance [(.v 12), (.c (.int 1))])]) (.v 13)) (.and (.cmp .eq (.call t_imbalance_value [(.v 12)]) (.v 14)) (.cmp .eq (.call t_imbalance_value [(.lst [(.sub (.v 12) (.c (.int 1))), (.sub (.v 12) (.c (.int 0)))])]) (.neg (.v 14)))))))))) .nop
noncomputable def q_law_whole_11 : St := .seq (.ife (.or (.cmp .ne (.bi .len [(.v 3)]) (.c (.int 15))) (.cmp .ne (.bin .add (.bin .add (.sub (.v 3) (.c (.int 0))) (.sub (.v 3) (.c (.int 7)))) (.sub (.v 3) (.c (.int 8)))) (.bin .mul (.lst [(.c (.int 0))]) (.bin .mul (.c (.int 3)) (.at (.v 0) 2))))) (.seq (.ret (.c (.bool false))) .nop) .nop) q_law_whole_12
noncomputable def q_law_whole_10 : St := .seq (.ife (.or (.not (.call t_law_agree [(.v 1), (.v 2), (.v 3), (.v 4)])) (.not (.call t_law_refused [(.v 1), (.v 3), (.me .index (.v 2) (.c (.int 6)))]))) (.seq (.ret (.c (.bool false))) .nop) .nop) q_law_whole_11
noncomputable def q_law_whole_9 : St := .seq (.setv 15 (.call t_law_position [(.v 0), (.v 6)])) q_law_whole_10
noncomputable def q_law_whole_8 : St := .seq (.ife (.cmp .lt (.sub (.v 13) (.c (.int 0))) (.sub (.v 13) (.c (.int 1)))) (.seq (.setv 14 (.neg (.v 14))) .nop) .nop) q_law_whole_9
noncomputable def q_law_whole_7 : St := .seq (.setv 14 (.bin .fdiv (.bi .abs [(.bin .sub (.sub (.v 13) (.c (.int 0))) (.sub (.v 13) (.c (.int 1))))]) (.c (.int 16)))) q_law_whole_8
noncomputable def q_law_whole_6 : St := .seq (.setv 13 (.lst [(.call t_law_form [(.sub (.v 9) (.c (.int 0))), (.sub (.v 9) (.c (.int 1)))]), (.call t_law_form [(.sub (.v 9) (.c (.int 1))), (.sub (.v 9) (.c (.int 0)))])])) q_law_whole_7
noncomputable def q_law_whole_5 : St := .seq (.setv 12 (.comp (.comp (.me .count (.v 16) (.v 17)) 17 (.bi .range [(.c (.int 6))]) .yes) 16 (.v 9) .yes)) q_law_whole_6
noncomputable def q_law_whole_4 : St := .seq (.for (.v 10) (.tup [(.c (.int 0)), (.c (.int 1))]) w_law_whole_3) q_law_whole_5
noncomputable def q_law_whole_3 : St := .seq (.setv 9 (.lst [])) q_law_whole_4
noncomputable def q_law_whole_2 : St := .seq (.for (.v 7) (.bi .range [(.bin .sub (.at (.v 0) 1) (.c (.int 1))), (.neg (.c (.int 1))), (.neg (.c (.int 1)))]) w_law_whole_2) q_law_whole_3
noncomputable def q_law_whole_1 : St := .seq (.setv 6 (.lst [])) q_law_whole_2
noncomputable def b_law_whole : St := (.seq (.setv 5 (.at (.v 0) 0)) q_law_whole_1)
noncomputable def t_law_whole : Fun := (sealF (fnT 5 13 b_law_whole)).1
theorem u_law_whole : t_law_whole = fnT 5 13 b_law_whole := (sealF _).2
noncomputable def w_law_1 : St := .seq (.ife (.and (.bin .band (.v 8) (.v 20)) (.or (.isin (.v 15) (.tup [(.v 21), (.bin .add (.v 21) (.bin .fdiv (.v 4) (.c (.int 2))))])) (.cmp .eq (.v 16) (.v 21)))) (.seq (.augv 8 .sub (.v 20)) .nop) .nop) .nop
noncomputable def w_law_2_10 : St := .seq (.ife (.not (.call t_law_agree [(.v 9), (.v 7), (.v 10), (.v 11)])) (.seq (.ret (.c (.bool false))) .nop) .nop) .nop
noncomputable def w_law_2_9 : St := .seq (.setv 5 (.bin .sub (.c (.int 1)) (.v 5))) w_law_2_10
noncomputable def w_law_2_8 : St := .seq (.for (.t [20, 21]) (.tup [(.tup [(.c (.int 2)), (.c (.int 0))]), (.tup [(.c (.int 8)), (.bin .sub (.bi .len [(.v 7)]) (.v 4))])]) w_law_1) w_law_2_9
noncomputable def w_law_2_7 : St := .seq (.setv 7 (.call t_law_after [(.v 4), (.v 7), (.v 14)])) w_law_2_8
noncomputable def w_law_2_6 : St := .seq (.setv 12 (.ite (.and (.cmp .eq (.bin .mod (.sub (.v 7) (.v 15)) (.c (.int 8))) (.c (.int 1))) (.cmp .eq (.bi .abs [(.bin .sub (.v 15) (.v 16))]) (.bin .mul (.c (.int 2)) (.v 4)))) (.bin .fdiv (.bin .add (.v 15) (.v 16)) (.c (.int 2))) (.neg (.c (.int 1))))) w_law_2_7
noncomputable def w_law_2_5 : St := .seq (.exp (.call t_do_move [(.v 9), (.v 19)])) w_law_2_6
noncomputable def w_law_2_4 : St := .seq (.augv 11 .add (.call t_psq_change [(.v 9), (.v 19), (.v 10)])) w_law_2_5
noncomputable def w_law_2_3 : St := .seq (.setv 19 (.bin .add (.bin .add (.bin .add (.v 16) (.bin .mul (.c (.int 64)) (.v 15))) (.bin .mul (.c (.int 4096)) (.bi .max [(.bin .sub (.v 18) (.c (.int 2))), (.c (.int 0))]))) (.bin .mul (.c (.int 16384)) (.v 17)))) w_law_2_4
noncomputable def w_law_2_2 : St := .seq (.sett [15, 16, 17, 18] (.v 14)) w_law_2_3
noncomputable def w_law_2_1 : St := .seq (.ife (.isn false (.v 14)) (.seq .brk .nop) .nop) w_law_2_2
noncomputable def w_law_2 : St := .seq (.setv 14 (.call t_law_pick [(.v 3), (.v 7), (.v 5), (.v 12), (.v 8), (.sub (.v 1) (.bin .add (.c (.int 11)) (.v 13)))])) w_law_2_1
noncomputable def q_law_16 : St := .seq (.ret (.call t_law_whole [(.v 6), (.v 9), (.v 7), (.v 10), (.v 11)])) .nop
noncomputable def q_law_15 : St := .seq (.for (.v 13) (.bi .range [(.bin .add (.c (.int 2)) (.bi .min [(.c (.int 3)), (.bin .fdiv (.v 2) (.c (.int 6)))]))]) w_law_2) q_law_16
noncomputable def q_law_14 : St := .seq (.ife (.not (.call t_law_whole [(.v 6), (.v 9), (.v 7), (.v 10), (.v 11)])) (.seq (.ret (.c (.bool false))) .nop) .nop) q_law_15
noncomputable def q_law_13 : St := .seq (.setv 12 (.neg (.c (.int 1)))) q_law_14
noncomputable def q_law_12 : St := .seq (.setv 11 (.call t_psq_of [(.v 9), (.v 10)])) q_law_13
noncomputable def q_law_11 : St := .seq (.setv 10 (.call t_make_psqt [(.v 6)])) q_law_12
noncomputable def q_law_10 : St := .seq (.seta (.v 9) 16 (.v 8)) q_law_11
noncomputable def q_law_9 : St := .seq (.seta (.v 9) 17 (.v 5)) q_law_10
noncomputable def q_law_8 : St := .seq (.setv 9 (.call t_law_position [(.v 6), (.v 7)])) q_law_9
noncomputable def q_law_7 : St := .seq (.sett [7, 8] (.call t_law_board [(.v 3), (.v 1), (.v 2), (.v 5)])) q_law_8
noncomputable def q_law_6 : St := .seq (.setv 6 (.call t_make_geometry [(.v 4), (.sub (.v 3) (.c (.int 1))), (.sub (.v 3) (.c (.int 2))), (.sub (.v 3) (.c (.int 3)))])) q_law_7
noncomputable def q_law_5 : St := .seq (.setv 5 (.bin .mod (.sub (.v 1) (.c (.int 3))) (.c (.int 2)))) q_law_6
noncomputable def q_law_4 : St := .seq (.setv 4 (.sub (.v 3) (.c (.int 0)))) q_law_5
noncomputable def q_law_3 : St := .seq (.setv 3 (.sub (.call t_law_shapes []) (.bin .mod (.sub (.v 1) (.c (.int 0))) (.c (.int 4))))) q_law_4
noncomputable def q_law_2 : St := .seq (.setv 1 (.bin .add (.v 1) (.bin .mul (.lst [(.c (.int 0))]) (.bin .sub (.c (.int 24)) (.v 2))))) q_law_3
noncomputable def q_law_1 : St := .seq (.setv 2 (.bi .len [(.v 1)])) q_law_2
noncomputable def b_law : St := (.seq (.setv 1 (.slh (.bi .list [(.v 0)]) (.c (.int 24)))) q_law_1)
noncomputable def n_law : Nat := 21
noncomputable def tab : Tabl where
  consts := [("WHITE", .int 0), ("BLACK", .int 1), ("NO_KIND", .int 0), ("PAWN", .int 1), ("KNIGHT", .int 2), ("BISHOP", .int 3), ("ROOK", .int 4), ("QUEEN", .int 5), ("EMPTY", .int 0),
    ("PROMOTION", .int 1), ("EN_PASSANT", .int 2), ("CASTLING", .int 3), ("HALF", .int 32768), ("WORD", .int 65536), ("PIECE_VALUES", .lst (pieceValues.map apair)),
    ("STEP_FILES", .tup (stepFiles.map .int)), ("STEP_RANKS", .tup (stepRanks.map .int)), ("OWN_WEIGHTS", aintss ownWeights), ("FOE_WEIGHTS", aintss foeWeights),
    ("_law_straight", .lst (straightL.map apair)), ("_law_slant", .lst (slantL.map apair)), ("_law_jump", .lst (jumpL.map apair)), ("_law_early", aintss earlyL), ("_law_late", aintss lateL),
    ("_law_ours", aintss ownWeights), ("_law_theirs", aintss foeWeights)]
  fns := [(("make_piece" : Str), 1, t_make_piece),
    (("side_of" : Str), 1, t_side_of),
    (("kind_of" : Str), 1, t_kind_of),
    (("move_from" : Str), 1, t_move_from),
    (("move_to" : Str), 1, t_move_to),
    (("move_special" : Str), 1, t_move_special),
    (("move_promo" : Str), 1, t_move_promo),
    (("wrap_half" : Str), 1, t_wrap_half),
    (("divide" : Str), 1, t_divide),
    (("make_score" : Str), 1, t_make_score),
    (("mg_of" : Str), 3, t_mg_of),
    (("eg_of" : Str), 3, t_eg_of),
    (("own_rank" : Str), 1, t_own_rank),
    (("from_edge" : Str), 1, t_from_edge),
    (("is_long_diagonal" : Str), 1, t_is_long_diagonal),
    (("pawn_bonus" : Str), 1, t_pawn_bonus),
    (("knight_bonus" : Str), 1, t_knight_bonus),
    (("bishop_bonus" : Str), 1, t_bishop_bonus),
    (("rook_bonus" : Str), 1, t_rook_bonus),
    (("queen_bonus" : Str), 1, t_queen_bonus),
    (("king_bonus" : Str), 1, t_king_bonus),
    (("square_bonus" : Str), 3, t_square_bonus),
    (("square_score" : Str), 5, t_square_score),
    (("make_psqt" : Str), 7, t_make_psqt),
    (("psq_of" : Str), 1, t_psq_of),
    (("psq_plain" : Str), 7, t_psq_plain),
    (("castle_change" : Str), 3, t_castle_change),
    (("psq_change" : Str), 5, t_psq_change),
    (("is_growing" : Str), 1, t_is_growing),
    (("add_masks" : Str), 1, t_add_masks),
    (("inner_squares" : Str), 1, t_inner_squares),
    (("add_rays" : Str), 3, t_add_rays),
    (("add_pawns" : Str), 1, t_add_pawns),
    (("add_knights" : Str), 1, t_add_knights),
    (("add_castles" : Str), 1, t_add_castles),
    (("make_geometry" : Str), 5, t_make_geometry),
    (("put_piece" : Str), 3, t_put_piece),
    (("take_piece" : Str), 3, t_take_piece),
    (("shift_piece" : Str), 3, t_shift_piece),
    (("moved_piece" : Str), 3, t_moved_piece),
    (("taken_square" : Str), 3, t_taken_square),
    (("rook_step" : Str), 1, t_rook_step),
    (("passed_square" : Str), 1, t_passed_square),
    (("kept_rights" : Str), 1, t_kept_rights),
    (("clear_ep_key" : Str), 1, t_clear_ep_key),
    (("set_ep_key" : Str), 1, t_set_ep_key),
    (("set_rights_key" : Str), 1, t_set_rights_key),
    (("do_move" : Str), 5, t_do_move),
    (("count_bits" : Str), 1, t_count_bits),
    (("count_of" : Str), 3, t_count_of),
    (("counts_of" : Str), 5, t_counts_of),
    (("imbalance" : Str), 1, t_imbalance),
    (("imbalance_value" : Str), 3, t_imbalance_value),
    (("_law_shapes" : Str), 1, t_law_shapes),
    (("_law_goals" : Str), 1, t_law_goals),
    (("_law_held" : Str), 3, t_law_held),
    (("_law_pawn_moves" : Str), 3, t_law_pawn_moves),
    (("_law_castling" : Str), 5, t_law_castling),
    (("_law_moves" : Str), 7, t_law_moves),
    (("_law_after" : Str), 1, t_law_after),
    (("_law_pick" : Str), 9, t_law_pick),
    (("_law_board" : Str), 5, t_law_board),
    (("_law_position" : Str), 5, t_law_position),
    (("_law_marks" : Str), 1, t_law_marks),
    (("_law_agree" : Str), 5, t_law_agree),
    (("_law_form" : Str), 1, t_law_form),
    (("_law_refused" : Str), 9, t_law_refused),
    (("_law_whole" : Str), 11, t_law_whole)]
  clss := [(("Geometry" : Str), 0, 1, t_Geometry), (("Zobrist" : Str), 1, 1, t_Zobrist), (("Position" : Str), 2, 1, t_Position)]
  attrs := ["files", "ranks", "size", "full", "has_double", "has_castling", "file_masks", "rank_masks", "rays", "king", "knight", "pawn", "castles", "rights_lost",
    "pieces", "ep", "rights", "side", "geo", "zob", "board", "kinds", "sides", "half", "key", "history"]
end
end Vg
end
section
set_option autoImplicit false
set_option linter.all false
namespace Vg
open PySem PySem.W PyProof.Rows

section
variable {m : List AV} {M : Mem} {a b c o : X} {x y : AV} {Q : AV → Mem → Prop} {T : Prop → Mem → Prop} {G : AV → Prop} {J : Int → Prop} {p : Prop} {i j : Int} {op : Op2} {cm cm' : Cm}

noncomputable def KV (M : Mem) (Q : AV → Mem → Prop) : AV → Prop := fun v => Q v M
noncomputable def KT (T : Prop → Mem → Prop) : AV → Mem → Prop := fun v M => truthP v fun p => T p M
noncomputable def KB1 (op : Op2) (b : X) (m : List AV) (Q : AV → Mem → Prop) : AV → Mem → Prop := fun x M => b.e m M fun y M => binP M op x y Q
noncomputable def KB2 (op : Op2) (x : AV) (Q : AV → Mem → Prop) : AV → Mem → Prop := fun y M => binP M op x y Q
noncomputable def KI (M : Mem) (Q : AV → Mem → Prop) : Int → Prop := fun r => Q (.int r) M
noncomputable def KN (Q : AV → Mem → Prop) : AV → Mem → Prop := fun x M => negP x fun i => Q (.int (-i)) M
noncomputable def KIv (Q : AV → Mem → Prop) : AV → Mem → Prop := fun x M => negP x fun i => Q (.int (Builtin.bitNot i)) M
noncomputable def KNot (T : Prop → Mem → Prop) : Prop → Mem → Prop := fun p M => T (¬ p) M
noncomputable def KAnd (b : X) (m : List AV) (T : Prop → Mem → Prop) : Prop → Mem → Prop := fun p M => (p → b.t m M T) ∧ (¬ p → T False M)
noncomputable def KOr (b : X) (m : List AV) (T : Prop → Mem → Prop) : Prop → Mem → Prop := fun p M => (p → T True M) ∧ (¬ p → b.t m M T)
noncomputable def KAndE (b : X) (m : List AV) (Q : AV → Mem → Prop) : AV → Mem → Prop := fun x M => truthP x fun p => (p → b.e m M Q) ∧ (¬ p → Q x M)
noncomputable def KOrE (b : X) (m : List AV) (Q : AV → Mem → Prop) : AV → Mem → Prop := fun x M => truthP x fun p => (p → Q x M) ∧ (¬ p → b.e m M Q)
noncomputable def KIte (a b : X) (m : List AV) (Q : AV → Mem → Prop) : Prop → Mem → Prop := fun p M => (p → a.e m M Q) ∧ (¬ p → b.e m M Q)
noncomputable def KP (M : Mem) (T : Prop → Mem → Prop) : Prop → Prop := fun p => T p M
noncomputable def KC1 (cm : Cm) (b : X) (m : List AV) (T : Prop → Mem → Prop) : AV → Mem → Prop := fun x M => b.e m M fun y M => cmpP M cm x y fun p => T p M
noncomputable def KC2 (cm : Cm) (x : AV) (T : Prop → Mem → Prop) : AV → Mem → Prop := fun y M => cmpP M cm x y fun p => T p M
noncomputable def KD1 (cm cm' : Cm) (b c : X) (m : List AV) (T : Prop → Mem → Prop) : AV → Mem → Prop := fun x M => b.e m M fun y M => cmpP M cm x y fun p => (p → c.e m M fun z M => cmpP M cm' y z fun q => T q M) ∧ (¬ p → T False M)
noncomputable def KD2 (cm cm' : Cm) (x : AV) (c : X) (m : List AV) (T : Prop → Mem → Prop) : AV → Mem → Prop := fun y M => cmpP M cm x y fun p => (p → c.e m M fun z M => cmpP M cm' y z fun q => T q M) ∧ (¬ p → T False M)
noncomputable def KD3 (cm' : Cm) (y : AV) (c : X) (m : List AV) (M : Mem) (T : Prop → Mem → Prop) : Prop → Prop := fun p => (p → c.e m M fun z M => cmpP M cm' y z fun q => T q M) ∧ (¬ p → T False M)
noncomputable def KIn1 (b : X) (m : List AV) (T : Prop → Mem → Prop) : AV → Mem → Prop := fun x M => b.e m M fun y M => inP M x y fun p => T p M
noncomputable def KIn2 (x : AV) (T : Prop → Mem → Prop) : AV → Mem → Prop := fun y M => inP M x y fun p => T p M
noncomputable def KIs (neg : Bool) (T : Prop → Mem → Prop) : AV → Mem → Prop := fun x M => T ((neg != isNoneB x) = true) M
noncomputable def KE (r : List X) (m : List AV) (Q : List AV → Mem → Prop) : AV → Mem → Prop := fun x M => evs r m M fun xs M => Q (x :: xs) M
noncomputable def KE2 (x : AV) (Q : List AV → Mem → Prop) : List AV → Mem → Prop := fun xs M => Q (x :: xs) M
noncomputable def KBi (f : Bi) (Q : AV → Mem → Prop) : List AV → Mem → Prop := fun xs M => biP M f xs Q
noncomputable def KM1 (f : Me) (a : X) (m : List AV) (Q : AV → Mem → Prop) : AV → Mem → Prop := fun x M => listP M x (fun _ => True) ∧ a.e m M fun y M => meP M f x y Q
noncomputable def KM2 (f : Me) (x : AV) (Q : AV → Mem → Prop) : AV → Mem → Prop := fun y M => meP M f x y Q
noncomputable def KAt (i : Nat) (Q : AV → Mem → Prop) : AV → Mem → Prop := fun x M => atP M x i fun v => Q v M
noncomputable def KS1 (b : X) (m : List AV) (Q : AV → Mem → Prop) : AV → Mem → Prop := fun x M => b.e m M fun y M => subP M x y fun v => Q v M
noncomputable def KS2 (x : AV) (Q : AV → Mem → Prop) : AV → Mem → Prop := fun y M => subP M x y fun v => Q v M
noncomputable def KSl1 (b : X) (m : List AV) (Q : AV → Mem → Prop) : AV → Mem → Prop := fun x M => b.e m M fun z M => slP M x (.int 0) z Q
noncomputable def KSl2 (x y : AV) (Q : AV → Mem → Prop) : AV → Mem → Prop := fun z M => slP M x y z Q
noncomputable def KSb1 (l h : X) (m : List AV) (Q : AV → Mem → Prop) : AV → Mem → Prop := fun x M => l.e m M fun y M => h.e m M fun z M => slP M x y z Q
noncomputable def KSb2 (x : AV) (h : X) (m : List AV) (Q : AV → Mem → Prop) : AV → Mem → Prop := fun y M => h.e m M fun z M => slP M x y z Q
noncomputable def KL (Q : AV → Mem → Prop) : List AV → Mem → Prop := fun xs M => newL M xs Q
noncomputable def KTu (Q : AV → Mem → Prop) : List AV → Mem → Prop := fun xs M => Q (.tup xs) M
noncomputable def KCa (F : Fun) (Q : AV → Mem → Prop) : List AV → Mem → Prop := fun xs M => F xs M Q
noncomputable def KNe (c : Nat) (F : Fun) (Q : AV → Mem → Prop) : List AV → Mem → Prop := fun xs M => ∀ d, M d = none → F (.inst c d :: xs) (M.set d (.flds [])) fun r M' => r = .none ∧ Q (.inst c d) M'
noncomputable def KNe2 (c : Nat) (d : Addr) (Q : AV → Mem → Prop) : AV → Mem → Prop := fun r M' => r = .none ∧ Q (.inst c d) M'
noncomputable def KCo (elt : X) (t : Nat) (c : X) (m : List AV) (Q : AV → Mem → Prop) : AV → Mem → Prop := fun v M => itemsP M v fun xs => xs.length ≤ 1000000 ∧ compP c elt t v xs m M fun ys M => ∀ a, M a = none → Q (.ref a) (M.set a (.list ys))
noncomputable def KCo2 (elt : X) (t : Nat) (c : X) (v : AV) (m : List AV) (M : Mem) (Q : AV → Mem → Prop) : List AV → Prop := fun xs => xs.length ≤ 1000000 ∧ compP c elt t v xs m M fun ys M => ∀ a, M a = none → Q (.ref a) (M.set a (.list ys))

section
variable {D : Prop → Prop}
end
section
variable {E : List AV → Mem → Prop} {xs : List AV} {r as : List X}
end


variable {N B : List AV → Mem → Prop} {R : AV → Mem → Prop} {s t u : St} {n : Nat}
noncomputable def KSq (t : St) (N B : List AV → Mem → Prop) (R : AV → Mem → Prop) : List AV → Mem → Prop := fun m M => t m M N B R
noncomputable def KSet (n : Nat) (m : List AV) (N : List AV → Mem → Prop) : AV → Mem → Prop := fun v M => N (m.set n v) M
noncomputable def KStt (is : List Nat) (m : List AV) (N : List AV → Mem → Prop) : AV → Mem → Prop := fun v M => tupP is.length v fun xs => N (bindSlots is xs m) M
noncomputable def KMe (m : List AV) (N : List AV → Mem → Prop) : Mem → Prop := fun M => N m M
noncomputable def KSa1 (o : X) (n : Nat) (m : List AV) (N : List AV → Mem → Prop) : AV → Mem → Prop := fun v M => o.e m M fun x M => setAtP M x n v fun M => N m M
noncomputable def KSa2 (n : Nat) (v : AV) (m : List AV) (N : List AV → Mem → Prop) : AV → Mem → Prop := fun x M => setAtP M x n v fun M => N m M
noncomputable def KSs1 (o b : X) (m : List AV) (N : List AV → Mem → Prop) : AV → Mem → Prop := fun v M => o.e m M fun x M => b.e m M fun y M => setSubP M x y v fun M => N m M
noncomputable def KSs2 (b : X) (v : AV) (m : List AV) (N : List AV → Mem → Prop) : AV → Mem → Prop := fun x M => b.e m M fun y M => setSubP M x y v fun M => N m M
noncomputable def KSs3 (x v : AV) (m : List AV) (N : List AV → Mem → Prop) : AV → Mem → Prop := fun y M => setSubP M x y v fun M => N m M
noncomputable def KG1 (n : Nat) (op : Op2) (b : X) (m : List AV) (M : Mem) (N : List AV → Mem → Prop) : Int → Prop := fun a => b.e m M fun y M => negP y fun b => intP op a b fun r => N (m.set n (.int r)) M
noncomputable def KG2 (n : Nat) (op : Op2) (a : Int) (m : List AV) (N : List AV → Mem → Prop) : AV → Mem → Prop := fun y M => negP y fun b => intP op a b fun r => N (m.set n (.int r)) M
noncomputable def KG3 (n : Nat) (m : List AV) (M : Mem) (N : List AV → Mem → Prop) : Int → Prop := fun r => N (m.set n (.int r)) M
noncomputable def KH1 (n : Nat) (op : Op2) (b : X) (m : List AV) (N : List AV → Mem → Prop) : AV → Mem → Prop := fun x M => atP M x n fun old => negP old fun a => b.e m M fun y M => negP y fun b => intP op a b fun r => setAtP M x n (.int r) fun M => N m M
noncomputable def KH2 (n : Nat) (op : Op2) (b : X) (x : AV) (m : List AV) (M : Mem) (N : List AV → Mem → Prop) : AV → Prop := fun old => negP old fun a => b.e m M fun y M => negP y fun b => intP op a b fun r => setAtP M x n (.int r) fun M => N m M
noncomputable def KH3 (n : Nat) (op : Op2) (a : Int) (x : AV) (m : List AV) (N : List AV → Mem → Prop) : AV → Mem → Prop := fun y M => negP y fun b => intP op a b fun r => setAtP M x n (.int r) fun M => N m M
noncomputable def KH4 (n : Nat) (x : AV) (m : List AV) (M : Mem) (N : List AV → Mem → Prop) : Int → Prop := fun r => setAtP M x n (.int r) fun M => N m M
noncomputable def KU1 (k : X) (op : Op2) (b : X) (m : List AV) (N : List AV → Mem → Prop) : AV → Mem → Prop := fun x M => k.e m M fun y M => subP M x y fun old => negP old fun a => b.e m M fun z M => negP z fun b => intP op a b fun r => setSubP M x y (.int r) fun M => N m M
noncomputable def KU2 (op : Op2) (b : X) (x : AV) (m : List AV) (N : List AV → Mem → Prop) : AV → Mem → Prop := fun y M => subP M x y fun old => negP old fun a => b.e m M fun z M => negP z fun b => intP op a b fun r => setSubP M x y (.int r) fun M => N m M
noncomputable def KU3 (op : Op2) (b : X) (x y : AV) (m : List AV) (M : Mem) (N : List AV → Mem → Prop) : AV → Prop := fun old => negP old fun a => b.e m M fun z M => negP z fun b => intP op a b fun r => setSubP M x y (.int r) fun M => N m M
noncomputable def KU4 (op : Op2) (a : Int) (x y : AV) (m : List AV) (N : List AV → Mem → Prop) : AV → Mem → Prop := fun z M => negP z fun b => intP op a b fun r => setSubP M x y (.int r) fun M => N m M
noncomputable def KU5 (x y : AV) (m : List AV) (M : Mem) (N : List AV → Mem → Prop) : Int → Prop := fun r => setSubP M x y (.int r) fun M => N m M
noncomputable def KIf (s t : St) (m : List AV) (N B : List AV → Mem → Prop) (R : AV → Mem → Prop) : Prop → Mem → Prop := fun p M => (p → s m M N B R) ∧ (¬ p → t m M N B R)
noncomputable def KFor (tg : Tg) (s : St) (m : List AV) (N : List AV → Mem → Prop) (R : AV → Mem → Prop) : AV → Mem → Prop := fun v M => itemsP M v fun xs => forP tg s v xs m M N R
noncomputable def KFo2 (tg : Tg) (s : St) (v : AV) (m : List AV) (M : Mem) (N : List AV → Mem → Prop) (R : AV → Mem → Prop) : List AV → Prop := fun xs => forP tg s v xs m M N R
noncomputable def KEx (m : List AV) (N : List AV → Mem → Prop) : AV → Mem → Prop := fun v M => dropP v ∧ N m M
noncomputable def XN (M : Mem) (Q : AV → Mem → Prop) : List AV → Mem → Prop := fun _ M' => Exit M Q .none M'
noncomputable def XB : List AV → Mem → Prop := fun _ _ => False
noncomputable def XR (M : Mem) (Q : AV → Mem → Prop) : AV → Mem → Prop := fun v M' => Exit M Q v M'

theorem fnT.gs {f : Fun} {np q : Nat} {xs : List AV} (e : f = fnT np q s) (hl : xs.length = np) (h : s (xs ++ List.replicate q .undef) M (XN M Q) XB (XR M Q)) : f xs M Q := e ▸ ⟨hl, h⟩
theorem XN.mk (h : Q .none M) {M₀ : Mem} : XN M₀ Q [] M := Exit.keep h
theorem XR.mk (h : Q x M) {M₀ : Mem} : XR M₀ Q x M := Exit.keep h
end
end Vg
end
section
set_option autoImplicit false
set_option linter.all false
namespace Vg
open PySem PySem.W PyProof.Rows
noncomputable def iL (l : List Int) : AO := .list (l.map .int)
noncomputable def gz (l : List Int) (i : Int) : Int := l.getD i.toNat 0
noncomputable def sz (l : List Int) (i v : Int) : List Int := l.set i.toNat v
noncomputable abbrev Ix (i : Int) (n : Nat) : Prop := 0 ≤ i ∧ i.toNat < n
theorem ixI {a : Int} {n : Nat} (h : 0 ≤ a) (h' : a < n) : Ix a n := ⟨h, (Int.toNat_lt h).mpr h'⟩
theorem ixL {a : Int} {n : Nat} (h : Ix a n) : a < n := (Int.toNat_lt h.1).mp h.2
theorem ixT {a w : Int} (h : 0 ≤ a) (h' : a < w) : Ix a w.toNat := ixI h (Int.lt_of_lt_of_le h' (Int.self_le_toNat w))
theorem ixW {a w : Int} (h : Ix a w.toNat) : a < w := Int.lt_of_toNat_lt h.2
theorem tnI {i j : Int} (hi : 0 ≤ i) (hj : 0 ≤ j) (e : i.toNat = j.toNat) : i = j := by rw [← Int.toNat_of_nonneg hi, e, Int.toNat_of_nonneg hj]
theorem iP {p A B : Prop} (h : p) (a : A) : (p → A) ∧ (¬ p → B) := ⟨fun zz => a, fun q => absurd h q⟩
theorem iN {p A B : Prop} (h : ¬ p) (b : B) : (p → A) ∧ (¬ p → B) := ⟨fun q => absurd q h, fun zz => b⟩
section
variable {M : Mem} {Q : AV → Mem → Prop} {G : AV → Prop} {N : Mem → Prop} {l : List Int} {xs : List AV} {a : Addr} {i j v : Int} {fs : List (Nat × AV)} {n c : Nat} {x : AV}
theorem gz_get (h : Ix i l.length) : (l.map AV.int)[i.toNat]? = some (.int (gz l i)) := by
  rw [List.getElem?_map, List.getElem?_eq_getElem h.2]
  unfold gz
  rw [List.getD_eq_getElem?_getD, List.getElem?_eq_getElem h.2]
  rfl
theorem subI (h : M a = some (iL l)) (hi : Ix i l.length) (q : G (.int (gz l i))) : subP M (.ref a) (.int i) G := ⟨hi.1, _, h, _, gz_get hi, q⟩
theorem subL (hi : Ix i l.length) (q : G (.int (gz l i))) : 0 ≤ i ∧ ∃ x, (l.map AV.int)[i.toNat]? = some x ∧ G x := ⟨hi.1, _, gz_get hi, q⟩
theorem subX (h : M a = some (.list xs)) (hi : 0 ≤ i) (hx : xs[i.toNat]? = some x) (q : G x) : subP M (.ref a) (.int i) G := ⟨hi, _, h, _, hx, q⟩
theorem subF (hi : 0 ≤ i) (hx : xs[i.toNat]? = some x) (q : G x) : 0 ≤ i ∧ ∃ x, xs[i.toNat]? = some x ∧ G x := ⟨hi, _, hx, q⟩
theorem atI (h : M a = some (.flds fs)) (hv : fs.lookup n = some x) (q : G x) : atP M (.inst c a) n G := ⟨_, h, _, hv, q⟩
theorem setI (h : M a = some (iL l)) (hi : Ix i l.length) (q : N (M.set a (iL (sz l i v)))) : setSubP M (.ref a) (.int i) (.int v) N :=
  ⟨_, h, hi.1, (List.length_map AV.int).symm ▸ hi.2, by rw [← List.map_set]; exact q⟩
theorem sz_len : (sz l i v).length = l.length := List.length_set
theorem gz_sz (hi : Ix i l.length) (hj : 0 ≤ j) : gz (sz l i v) j = if j = i then v else gz l j := by
  unfold gz sz
  rw [List.getD_eq_getElem?_getD, List.getElem?_set, List.getD_eq_getElem?_getD]
  by_cases h : j = i
  · rw [if_pos (by rw [h]), if_pos hi.2, if_pos h]; rfl
  · rw [if_neg (fun q => h (tnI hj hi.1 q.symm)), if_neg h]
end
end Vg
end
section
set_option autoImplicit false
set_option linter.all false
namespace Vg
open PySem PySem.W PyProof.Rows
structure Ad where
  d : Addr
  b : Addr
  k : Addr
  s : Addr
  h : Addr
structure Ls where
  cells : List Int
  kinds : List Int
  sides : List Int
  hist : List AV
structure Sc where
  side : Int
  rights : Int
  ep : Int
  half : Int
  full : Int
  key : Int
structure Ap (a : Ad) : Prop where
  bd : a.b ≠ a.d
  kd : a.k ≠ a.d
  kb : a.k ≠ a.b
  sd : a.s ≠ a.d
  sb : a.s ≠ a.b
  sk : a.s ≠ a.k
  hd : a.h ≠ a.d
  hb : a.h ≠ a.b
  hk : a.h ≠ a.k
  hs : a.h ≠ a.s
noncomputable def pf (g z : AV) (a : Ad) (c : Sc) : List (Nat × AV) :=
  [(18, g), (19, z), (20, .ref a.b), (21, .ref a.k), (22, .ref a.s), (17, .int c.side), (16, .int c.rights), (15, .int c.ep), (23, .int c.half), (3, .int c.full), (24, .int c.key), (25, .ref a.h)]
noncomputable def MP (M : Mem) (g z : AV) (a : Ad) (l : Ls) (c : Sc) : Mem := fun x => if x = a.d then some (.flds (pf g z a c)) else if x = a.b then some (iL l.cells) else if x = a.k then some (iL l.kinds) else if x = a.s then some (iL l.sides) else if x = a.h then some (.list l.hist) else M x
section
variable {M : Mem} {g z v : AV} {a : Ad} {l : Ls} {c c' : Sc} {Q : AV → Mem → Prop} {G : AV → Prop} {N : Mem → Prop} {n : Nat} {x y : AO} {i w : Int}
theorem MP.d : MP M g z a l c a.d = some (.flds (pf g z a c)) := if_pos rfl
theorem MP.b (h : Ap a) : MP M g z a l c a.b = some (iL l.cells) := (if_neg h.bd).trans (if_pos rfl)
theorem MP.k (h : Ap a) : MP M g z a l c a.k = some (iL l.kinds) := (if_neg h.kd).trans ((if_neg h.kb).trans (if_pos rfl))
theorem MP.s (h : Ap a) : MP M g z a l c a.s = some (iL l.sides) := (if_neg h.sd).trans ((if_neg h.sb).trans ((if_neg h.sk).trans (if_pos rfl)))
theorem MP.h (h : Ap a) : MP M g z a l c a.h = some (.list l.hist) := (if_neg h.hd).trans ((if_neg h.hb).trans ((if_neg h.hk).trans ((if_neg h.hs).trans (if_pos rfl))))
theorem MP.ext {M' : Mem} (hd : M' a.d = some (.flds (pf g z a c))) (hb : M' a.b = some (iL l.cells)) (hk : M' a.k = some (iL l.kinds)) (hs : M' a.s = some (iL l.sides)) (hh : M' a.h = some (.list l.hist))
    (ho : ∀ x, x ≠ a.d → x ≠ a.b → x ≠ a.k → x ≠ a.s → x ≠ a.h → M' x = M x) : M' = MP M g z a l c := by
  funext x
  unfold MP
  by_cases h1 : x = a.d
  · rw [if_pos h1, h1, hd]
  · rw [if_neg h1]
    by_cases h2 : x = a.b
    · rw [if_pos h2, h2, hb]
    · rw [if_neg h2]
      by_cases h3 : x = a.k
      · rw [if_pos h3, h3, hk]
      · rw [if_neg h3]
        by_cases h4 : x = a.s
        · rw [if_pos h4, h4, hs]
        · rw [if_neg h4]
          by_cases h5 : x = a.h
          · rw [if_pos h5, h5, hh]
          · rw [if_neg h5]; exact ho x h1 h2 h3 h4 h5
theorem MP.out (h1 : n ≠ a.d) (h2 : n ≠ a.b) (h3 : n ≠ a.k) (h4 : n ≠ a.s) (h5 : n ≠ a.h) : MP M g z a l c n = M n := by
  unfold MP; rw [if_neg h1, if_neg h2, if_neg h3, if_neg h4, if_neg h5]
theorem MP.setd (h : Ap a) : (MP M g z a l c).set a.d (.flds (pf g z a c')) = MP M g z a l c' :=
  MP.ext (Mem.set_self _ _ _) ((Mem.set_ne _ _ h.bd).trans (MP.b h)) ((Mem.set_ne _ _ h.kd).trans (MP.k h)) ((Mem.set_ne _ _ h.sd).trans (MP.s h)) ((Mem.set_ne _ _ h.hd).trans (MP.h h)) fun x h1 h2 h3 h4 h5 => (Mem.set_ne _ _ h1).trans (MP.out h1 h2 h3 h4 h5)
theorem MP.setb (h : Ap a) {r : List Int} : (MP M g z a l c).set a.b (iL r) = MP M g z a { l with cells := r } c :=
  MP.ext ((Mem.set_ne _ _ h.bd.symm).trans MP.d) (Mem.set_self _ _ _) ((Mem.set_ne _ _ h.kb).trans (MP.k h)) ((Mem.set_ne _ _ h.sb).trans (MP.s h)) ((Mem.set_ne _ _ h.hb).trans (MP.h h)) fun x h1 h2 h3 h4 h5 => (Mem.set_ne _ _ h2).trans (MP.out h1 h2 h3 h4 h5)
theorem MP.setk (h : Ap a) {r : List Int} : (MP M g z a l c).set a.k (iL r) = MP M g z a { l with kinds := r } c :=
  MP.ext ((Mem.set_ne _ _ h.kd.symm).trans MP.d) ((Mem.set_ne _ _ h.kb.symm).trans (MP.b h)) (Mem.set_self _ _ _) ((Mem.set_ne _ _ h.sk).trans (MP.s h)) ((Mem.set_ne _ _ h.hk).trans (MP.h h)) fun x h1 h2 h3 h4 h5 => (Mem.set_ne _ _ h3).trans (MP.out h1 h2 h3 h4 h5)
theorem MP.sets (h : Ap a) {r : List Int} : (MP M g z a l c).set a.s (iL r) = MP M g z a { l with sides := r } c :=
  MP.ext ((Mem.set_ne _ _ h.sd.symm).trans MP.d) ((Mem.set_ne _ _ h.sb.symm).trans (MP.b h)) ((Mem.set_ne _ _ h.sk.symm).trans (MP.k h)) (Mem.set_self _ _ _) ((Mem.set_ne _ _ h.hs).trans (MP.h h)) fun x h1 h2 h3 h4 h5 => (Mem.set_ne _ _ h4).trans (MP.out h1 h2 h3 h4 h5)
theorem MP.seth (h : Ap a) {r : List AV} : (MP M g z a l c).set a.h (.list r) = MP M g z a { l with hist := r } c :=
  MP.ext ((Mem.set_ne _ _ h.hd.symm).trans MP.d) ((Mem.set_ne _ _ h.hb.symm).trans (MP.b h)) ((Mem.set_ne _ _ h.hk.symm).trans (MP.k h)) ((Mem.set_ne _ _ h.hs.symm).trans (MP.s h)) (Mem.set_self _ _ _) fun x h1 h2 h3 h4 h5 => (Mem.set_ne _ _ h5).trans (MP.out h1 h2 h3 h4 h5)
theorem pAt (hv : (pf g z a c).lookup n = some v) (q : G v) : atP (MP M g z a l c) (.inst 2 a.d) n G := ⟨_, MP.d, _, hv, q⟩
theorem pSet (h : Ap a) (hf : setF n v (pf g z a c) = pf g z a c') (q : N (MP M g z a l c')) : setAtP (MP M g z a l c) (.inst 2 a.d) n v N := ⟨_, MP.d, Nat.le_of_ble_eq_true rfl, by rw [hf, MP.setd h]; exact q⟩
theorem bSet (h : Ap a) (hi : Ix i l.cells.length) (q : N (MP M g z a { l with cells := sz l.cells i w } c)) : setSubP (MP M g z a l c) (.ref a.b) (.int i) (.int w) N := setI (MP.b h) hi (by rw [MP.setb h]; exact q)
theorem kSet (h : Ap a) (hi : Ix i l.kinds.length) (q : N (MP M g z a { l with kinds := sz l.kinds i w } c)) : setSubP (MP M g z a l c) (.ref a.k) (.int i) (.int w) N := setI (MP.k h) hi (by rw [MP.setk h]; exact q)
theorem sSet (h : Ap a) (hi : Ix i l.sides.length) (q : N (MP M g z a { l with sides := sz l.sides i w } c)) : setSubP (MP M g z a l c) (.ref a.s) (.int i) (.int w) N := setI (MP.s h) hi (by rw [MP.sets h]; exact q)
theorem p_side (h : Ap a) (q : N (MP M g z a l ⟨w, c.rights, c.ep, c.half, c.full, c.key⟩)) : setAtP (MP M g z a l c) (.inst 2 a.d) 17 (.int w) N := pSet h rfl q
theorem p_rights (h : Ap a) (q : N (MP M g z a l ⟨c.side, w, c.ep, c.half, c.full, c.key⟩)) : setAtP (MP M g z a l c) (.inst 2 a.d) 16 (.int w) N := pSet h rfl q
theorem p_ep (h : Ap a) (q : N (MP M g z a l ⟨c.side, c.rights, w, c.half, c.full, c.key⟩)) : setAtP (MP M g z a l c) (.inst 2 a.d) 15 (.int w) N := pSet h rfl q
theorem p_half (h : Ap a) (q : N (MP M g z a l ⟨c.side, c.rights, c.ep, w, c.full, c.key⟩)) : setAtP (MP M g z a l c) (.inst 2 a.d) 23 (.int w) N := pSet h rfl q
theorem p_full (h : Ap a) (q : N (MP M g z a l ⟨c.side, c.rights, c.ep, c.half, w, c.key⟩)) : setAtP (MP M g z a l c) (.inst 2 a.d) 3 (.int w) N := pSet h rfl q
theorem p_key (h : Ap a) (q : N (MP M g z a l ⟨c.side, c.rights, c.ep, c.half, c.full, w⟩)) : setAtP (MP M g z a l c) (.inst 2 a.d) 24 (.int w) N := pSet h rfl q
theorem hApp (h : Ap a) (hl : l.hist.length ≤ 1000000) (q : Q .none (MP M g z a { l with hist := l.hist ++ [v] } c)) : meP (MP M g z a l c) .append (.ref a.h) v Q := ⟨_, MP.h h, hl, by rw [MP.seth h]; exact q⟩
end
end Vg
end
section
set_option autoImplicit false
set_option linter.all false
namespace Vg
open PySem PySem.W PyProof.Rows
structure Za where
  d : Addr
  a : Addr
  b : Addr
  c : Addr
  r : List Addr
structure Zo (M : Mem) (z : Za) (n f : Nat) : Prop where
  hd : M z.d = some (.flds [(14, .ref z.a), (15, .ref z.b), (16, .ref z.c), (17, .int 0)])
  ha : M z.a = some (.list (z.r.map .ref))
  len : z.r.length = 15
  hr : ∀ (i : Nat) (r : Addr), z.r[i]? = some r → M r = some (iL (List.replicate n 0))
  hb : M z.b = some (iL (List.replicate f 0))
  hc : M z.c = some (iL (List.replicate 16 0))
theorem Zo.le {M M' : Mem} {z : Za} {n f : Nat} (h : Zo M z n f) (l : M.le M') : Zo M' z n f :=
  ⟨l _ _ h.hd, l _ _ h.ha, h.len, fun i r e => l _ _ (h.hr i r e), l _ _ h.hb, l _ _ h.hc⟩
structure PO (M : Mem) (z : Za) (a : Ad) (n f : Nat) : Prop where
  ap : Ap a
  fd : M a.d = none
  fb : M a.b = none
  fk : M a.k = none
  fs : M a.s = none
  fh : M a.h = none
  zo : Zo M z n f
section
variable {M : Mem} {g : AV} {z : Za} {a : Ad} {l : Ls} {c : Sc} {n f : Nat} {Q : AV → Mem → Prop} {G : AV → Prop}
theorem PO.le (P : PO M z a n f) : M.le (MP M g (.inst 1 z.d) a l c) := fun x o e => by
  rw [MP.out]
  · exact e
  all_goals rintro rfl
  · rw [P.fd] at e; cases e
  · rw [P.fb] at e; cases e
  · rw [P.fk] at e; cases e
  · rw [P.fs] at e; cases e
  · rw [P.fh] at e; cases e
theorem PO.zz (P : PO M z a n f) : Zo (MP M g (.inst 1 z.d) a l c) z n f := P.zo.le P.le
theorem gz_rep {i : Int} : gz (List.replicate n 0) i = 0 := by
  unfold gz
  rw [List.getD_eq_getElem?_getD, List.getElem?_replicate]
  split <;> rfl
theorem Zo.row {M : Mem} (h : Zo M z n f) {pc : Int} (hp : Ix pc 15) : ∃ r, (z.r.map AV.ref)[pc.toNat]? = some (.ref r) ∧ M r = some (iL (List.replicate n 0)) := by
  have e := List.getElem?_eq_getElem (h.len ▸ hp.2 : pc.toNat < z.r.length)
  exact ⟨_, by rw [List.getElem?_map, e]; rfl, h.hr _ _ e⟩

noncomputable abbrev bit (s : Int) : Int := 1 * 2 ^ s.toNat
noncomputable def Ls.put (l : Ls) (s pc : Int) : Ls := ⟨sz l.cells s pc, sz l.kinds (Builtin.bitAnd pc 7) (Builtin.bitOr (gz l.kinds (Builtin.bitAnd pc 7)) (bit s)), sz l.sides (pc / 8) (Builtin.bitOr (gz l.sides (pc / 8)) (bit s)), l.hist⟩
noncomputable def Ls.take (l : Ls) (s pc : Int) : Ls := ⟨sz l.cells s 0, sz l.kinds (Builtin.bitAnd pc 7) (Builtin.bitXor (gz l.kinds (Builtin.bitAnd pc 7)) (bit s)), sz l.sides (pc / 8) (Builtin.bitXor (gz l.sides (pc / 8)) (bit s)), l.hist⟩
noncomputable def bits2 (s t : Int) : Int := Builtin.bitOr (bit s) (bit t)
noncomputable def Ls.shift (l : Ls) (s t pc : Int) : Ls := ⟨sz (sz l.cells s 0) t pc, sz l.kinds (Builtin.bitAnd pc 7) (Builtin.bitXor (gz l.kinds (Builtin.bitAnd pc 7)) (bits2 s t)), sz l.sides (pc / 8) (Builtin.bitXor (gz l.sides (pc / 8)) (bits2 s t)), l.hist⟩
structure Pc (l : Ls) (pc : Int) : Prop where
  p : Ix pc 15
  k : Ix (Builtin.bitAnd pc 7) l.kinds.length
  s : Ix (pc / 8) l.sides.length
theorem sm1 : sm 1 := by unfold sm; decide
theorem C_kind_of {M : Mem} {i : Int} (q : Q (.int (Builtin.bitAnd i 7)) M) : t_kind_of [.int i] M Q := fnT.gs u_kind_of rfl <| XR.mk q
theorem C_side_of {M : Mem} {i : Int} (q : Q (.int (i / 8)) M) : t_side_of [.int i] M Q := fnT.gs u_side_of rfl <| .intro (by decide : (0 : Int) ≤ 3) <| XR.mk q
theorem C_put (P : PO M z a n f) {s pc : Int} (hs : Ix s n) (h1 : s ≤ 1000) (hc : n = l.cells.length) (hp : Pc l pc) (q : Q .none (MP M g (.inst 1 z.d) a (l.put s pc) { c with key := Builtin.bitXor c.key (gz (List.replicate n 0) s) })) :
    t_put_piece [.inst 2 a.d, .int pc, .int s] (MP M g (.inst 1 z.d) a l c) Q := by
  refine go1 fun G hG => ?_
  obtain ⟨r, e1, e2⟩ := P.zo.row hp.p
  refine hG ?_
  exact fnT.gs u_put_piece rfl <| .intro sm1 <| .intro hs.1 <| .intro h1 <| pAt rfl <| bSet P.ap (hc ▸ hs) <| pAt rfl <| C_kind_of <| subI (MP.k P.ap) hp.k <| kSet P.ap hp.k <| pAt rfl <| C_side_of <| subI (MP.s P.ap) hp.s <| sSet P.ap hp.s <|
    pAt rfl <| pAt rfl <| atI P.zz.hd rfl <| subX P.zz.ha hp.p.1 e1 <| subI (P.le _ _ e2) (List.length_replicate ▸ hs) <| pSet P.ap rfl (XN.mk q)
theorem C_take (P : PO M z a n f) {s pc : Int} (hs : Ix s n) (h1 : s ≤ 1000) (hc : n = l.cells.length) (hp : Pc l pc) (he : gz l.cells s = pc) (q : Q (.int pc) (MP M g (.inst 1 z.d) a (l.take s pc) { c with key := Builtin.bitXor c.key (gz (List.replicate n 0) s) })) :
    t_take_piece [.inst 2 a.d, .int s] (MP M g (.inst 1 z.d) a l c) Q := by
  refine go1 fun G hG => ?_
  obtain ⟨r, e1, e2⟩ := P.zo.row hp.p
  refine hG ?_
  subst he
  exact fnT.gs u_take_piece rfl <| pAt rfl <| subI (MP.b P.ap) (hc ▸ hs) <| .intro sm1 <| .intro hs.1 <| .intro h1 <| pAt rfl <| bSet P.ap (hc ▸ hs) <| pAt rfl <| C_kind_of <| subI (MP.k P.ap) hp.k <| kSet P.ap hp.k <| pAt rfl <| C_side_of <| subI (MP.s P.ap) hp.s <| sSet P.ap hp.s <|
    pAt rfl <| pAt rfl <| atI P.zz.hd rfl <| subX P.zz.ha hp.p.1 e1 <| subI (P.le _ _ e2) (List.length_replicate ▸ hs) <| pSet P.ap rfl (XR.mk q)
theorem ixz {l : List Int} {i j v : Int} (h : Ix i l.length) : Ix i (sz l j v).length := sz_len.symm ▸ h
theorem C_shift (P : PO M z a n f) {s t pc : Int} (hs : Ix s n) (h1 : s ≤ 1000) (ht : Ix t n) (h2 : t ≤ 1000) (hc : n = l.cells.length) (hp : Pc l pc) (he : gz l.cells s = pc)
    (q : Q .none (MP M g (.inst 1 z.d) a (l.shift s t pc) { c with key := Builtin.bitXor c.key (Builtin.bitXor (gz (List.replicate n 0) s) (gz (List.replicate n 0) t)) })) :
    t_shift_piece [.inst 2 a.d, .int s, .int t] (MP M g (.inst 1 z.d) a l c) Q := by
  obtain ⟨r, e1, e2⟩ := P.zo.row hp.p
  subst he
  exact fnT.gs u_shift_piece rfl <| pAt rfl <| subI (MP.b P.ap) (hc ▸ hs) <| .intro sm1 <| .intro hs.1 <| .intro h1 <| .intro sm1 <| .intro ht.1 <| .intro h2 <| pAt rfl <| bSet P.ap (hc ▸ hs) <| pAt rfl <| bSet P.ap (ixz (hc ▸ ht)) <|
    pAt rfl <| C_kind_of <| subI (MP.k P.ap) hp.k <| kSet P.ap hp.k <| pAt rfl <| C_side_of <| subI (MP.s P.ap) hp.s <| sSet P.ap hp.s <|
    pAt rfl <| atI P.zz.hd rfl <| subX P.zz.ha hp.p.1 e1 <| pAt rfl <| subI (P.le _ _ e2) (List.length_replicate ▸ hs) <| subI (P.le _ _ e2) (List.length_replicate ▸ ht) <| pSet P.ap rfl (XN.mk q)
end
end Vg
end
section
set_option autoImplicit false
set_option linter.all false
namespace Vg
open PySem PySem.W PyProof.Rows
structure Geo where
  f : Int
  r : Int
  full : AV
  dbl : AV
  cas : AV
  fm : AV
  rm : AV
  rays : AV
  king : AV
  knight : AV
  p0 : List Int
  p1 : List Int
  castles : List AV
  lost : List Int
noncomputable def Geo.fl (g : Geo) : List (Nat × AV) := [(0, .int g.f), (1, .int g.r), (2, .int (g.f * g.r)), (3, g.full), (4, g.dbl), (5, g.cas), (6, g.fm), (7, g.rm), (8, g.rays), (9, g.king), (10, g.knight), (11, .lst [aints g.p0, aints g.p1]), (12, .lst g.castles), (13, aints g.lost)]
noncomputable def Geo.av (g : Geo) : AV := .obj 0 g.fl
theorem gAt {g : Geo} {n : Nat} {x : AV} {G : AV → Prop} (hv : g.fl.lookup n = some x) (q : G x) : ∃ v, g.fl.lookup n = some v ∧ G v := ⟨_, hv, q⟩
inductive Sh : Int → Int → Prop
  | a : Sh 3 4
  | b : Sh 6 3
  | c : Sh 3 6
  | d : Sh 4 5
theorem Sh.le {f r : Int} (h : Sh f r) : f * r ≤ 20 ∧ 0 < f ∧ f ≤ 6 ∧ 0 < r ∧ 12 ≤ f * r := by cases h <;> decide
theorem Sh.n20 {f r : Int} (h : Sh f r) : (f * r).toNat ≤ 20 := Int.toNat_le.mpr h.le.1
theorem Sh.six {f r : Int} (h : Sh f r) (e : f = 6) : r = 3 := by cases h <;> first | rfl | exact absurd e (by decide)
structure GW (g : Geo) : Prop where
  sh : Sh g.f g.r
  l0 : g.p0.length = (g.f * g.r).toNat
  l1 : g.p1.length = (g.f * g.r).toNat
  ll : g.lost.length = (g.f * g.r).toNat
  cas : g.f = 6 → g.castles = [.none, .tup [.int 3, .int 1, .int 0, .int 2], .none, .tup [.int 15, .int 13, .int 12, .int 14]]
  nocas : g.f ≠ 6 → g.castles = [.none, .none, .none, .none]
noncomputable def Geo.n (g : Geo) : Nat := (g.f * g.r).toNat
structure Num (n o t sp : Int) : Prop where
  o : Builtin.bitAnd (n / 64) 63 = o
  t : Builtin.bitAnd n 63 = t
  sp : Builtin.bitAnd (n / 16384) 3 = sp
theorem bitAnd_nat (m n : Nat) : Builtin.bitAnd (m : Int) (n : Int) = ((m &&& n : Nat) : Int) := by
  rfl
theorem bitAnd_le {r x : Int} (h : 0 ≤ r) : 0 ≤ Builtin.bitAnd r x ∧ Builtin.bitAnd r x ≤ r := by
  obtain ⟨m, rfl⟩ := Int.eq_ofNat_of_zero_le h
  have key : ∀ k : Nat, k ≤ m → 0 ≤ (k : Int) ∧ (k : Int) ≤ m := fun k hk => ⟨Int.natCast_nonneg _, Int.ofNat_le.mpr hk⟩
  cases x with
  | ofNat n => exact key _ Nat.and_le_left
  | negSucc n =>
    have h := key _ (Nat.and_le_left (n := m) (m := (Builtin.bitNot (.negSucc n)).toNat))
    exact ⟨Int.sub_nonneg_of_le h.2, Int.sub_le_self _ h.1⟩
section
variable {M : Mem} {g : Geo} {z : Za} {a : Ad} {l : Ls} {c : Sc} {n : Int} {Q : AV → Mem → Prop} {G : AV → Prop} {o t sp pc : Int}
theorem C_move_from {M : Mem} {x : Int} (h : Builtin.bitAnd (n / 64) 63 = x) (q : Q (.int x) M) : t_move_from [.int n] M Q := fnT.gs u_move_from rfl <| .intro (by decide : (0 : Int) ≤ 6) <| XR.mk (h ▸ q)
theorem C_move_to {M : Mem} {x : Int} (h : Builtin.bitAnd n 63 = x) (q : Q (.int x) M) : t_move_to [.int n] M Q := fnT.gs u_move_to rfl <| XR.mk (h ▸ q)
theorem C_move_special {M : Mem} {x : Int} (h : Builtin.bitAnd (n / 16384) 3 = x) (q : Q (.int x) M) : t_move_special [.int n] M Q := fnT.gs u_move_special rfl <| .intro (by decide : (0 : Int) ≤ 14) <| XR.mk (h ▸ q)
theorem C_move_promo {M : Mem} {x : Int} (hs : Builtin.bitAnd (n / 16384) 3 = 1) (h : Builtin.bitAnd (n / 4096) 3 + 2 = x) (q : Q (.int x) M) : t_move_promo [.int n] M Q := fnT.gs u_move_promo rfl <| .intro (by decide : (0 : Int) ≤ 14) <| iN (fun h => h hs) <| .intro (by decide : (0 : Int) ≤ 12) <| XR.mk (h ▸ q)
theorem C_make_piece {M : Mem} {i j : Int} (h : sm i) (q : Q (.int (i * 8 + j)) M) : t_make_piece [.int i, .int j] M Q := fnT.gs u_make_piece rfl <| .intro h <| XR.mk q
theorem C_moved (P : PO M z a g.n g.f.toNat) (hn : Num n o t sp) (ho : Ix o l.cells.length) (ho' : ¬ g.f * g.r ≤ o) (ht : ¬ g.f * g.r ≤ t) (he : gz l.cells o = pc) (hp : pc ≠ 0) (hs : pc / 8 = c.side) (q : Q (.int pc) (MP M g.av (.inst 1 z.d) a l c)) :
    t_moved_piece [.inst 2 a.d, .int n] (MP M g.av (.inst 1 z.d) a l c) Q :=
  fnT.gs u_moved_piece rfl <| C_move_from hn.o <| pAt rfl <| gAt rfl <| .intro (fun h => absurd h ho') fun zz => C_move_to hn.t <| pAt rfl <| gAt rfl <| iN ht <| pAt rfl <| subI (MP.b P.ap) ho <|
    .intro (fun h => absurd (he ▸ h) hp) fun zz => C_side_of <| pAt rfl <| iN (fun h => h (he ▸ hs)) <| XR.mk (he.symm ▸ q)
theorem C_taken {w : Int} (hn : Num n o t sp) (hw : (if sp ≠ 2 then t else if c.side = 0 then t - g.f else t + g.f) = w) (q : Q (.int w) (MP M g.av (.inst 1 z.d) a l c)) :
    t_taken_square [.inst 2 a.d, .int n] (MP M g.av (.inst 1 z.d) a l c) Q :=
  fnT.gs u_taken_square rfl <| C_move_to hn.t <| C_move_special hn.sp <| .intro (fun h => XR.mk (by rw [if_pos h] at hw; rw [hw]; exact q)) fun h => pAt rfl <| .intro (fun h' => pAt rfl <| gAt rfl <| XR.mk (by rw [if_neg h, if_pos h'] at hw; rw [hw]; exact q)) fun h' => pAt rfl <| gAt rfl <| XR.mk (by rw [if_neg h, if_neg h'] at hw; rw [hw]; exact q)
theorem C_rook_step {M : Mem} (hc : g.castles = [.none, .tup [.int 3, .int 1, .int 0, .int 2], .none, .tup [.int 15, .int 13, .int 12, .int 14]]) {s : Int} (hs : s = 0 ∨ s = 1) (q : Q (.tup [.int (12 * s), .int (2 + 12 * s)]) M) :
    t_rook_step [g.av, .int s, .int (1 + 12 * s)] M Q := by
  rcases hs with rfl | rfl
  · exact fnT.gs u_rook_step rfl <| .intro (by unfold sm; decide) <| .intro (by unfold sm; decide) <| forP.of <| gAt rfl <| subF (x := .none) (by decide) (by rw [hc]; rfl) <| .intro (fun h => nomatch h) fun zz => iN id <| .intro trivial <|
      gAt rfl <| subF (x := .tup [.int 3, .int 1, .int 0, .int 2]) (by decide) (by rw [hc]; rfl) <| .intro (fun zz => subF (by decide) rfl <| iP rfl <| subF (by decide) rfl <| subF (by decide) rfl <| XR.mk q) fun h => absurd rfl h
  · exact fnT.gs u_rook_step rfl <| .intro (by unfold sm; decide) <| .intro (by unfold sm; decide) <| forP.of <| gAt rfl <| subF (x := .none) (by decide) (by rw [hc]; rfl) <| .intro (fun h => nomatch h) fun zz => iN id <| .intro trivial <|
      gAt rfl <| subF (x := .tup [.int 15, .int 13, .int 12, .int 14]) (by decide) (by rw [hc]; rfl) <| .intro (fun zz => subF (by decide) rfl <| iP rfl <| subF (by decide) rfl <| subF (by decide) rfl <| XR.mk q) fun h => absurd rfl h
end
end Vg
end
section
set_option autoImplicit false
set_option linter.all false
namespace Vg
open PySem PySem.W PyProof.Rows
theorem andS {p q A B S : Prop} (s : S) (h1 : p → q → A) (h2 : B) : (p → S ∧ (q → A) ∧ (¬ q → B)) ∧ (¬ p → (False → A) ∧ (¬ False → B)) := ⟨fun x => ⟨s, h1 x, fun zz => h2⟩, fun zz => ⟨False.elim, fun zz => h2⟩⟩
theorem sm2 : sm 2 := by unfold sm; decide
theorem ix_mod {i f : Int} (h : 0 < f) : Ix (i % f) f.toNat := by
  exact ixT (Int.emod_nonneg i (Int.ne_of_gt h)) (Int.emod_lt_of_pos i h)
theorem ix_rep {i : Int} {n : Nat} (h : Ix i n) : Ix i (List.replicate n (0 : Int)).length := List.length_replicate.symm ▸ h
theorem GW.pawn {g : Geo} (h : GW g) {s : Int} (hs : s = 0 ∨ s = 1) : 0 ≤ s ∧ ∃ l : List Int, [aints g.p0, aints g.p1][s.toNat]? = some (aints l) ∧ l.length = g.n := by
  rcases hs with rfl | rfl
  · exact ⟨by decide, _, rfl, h.l0⟩
  · exact ⟨by decide, _, rfl, h.l1⟩
section
variable {M : Mem} {g : Geo} {z : Za} {a : Ad} {l : Ls} {c : Sc} {n : Int} {Q : AV → Mem → Prop} {G : AV → Prop} {o t sp pc : Int}
theorem mid2 {o t : Int} {n : Nat} (ho : Ix o n) (ht : Ix t n) : Ix ((o + t) / 2) n := ixI (Int.ediv_nonneg (Int.add_nonneg ho.1 ht.1) (by decide)) (Int.ediv_lt_of_lt_mul (by decide) (by have := ixL ho; have := ixL ht; lia))
theorem C_passed (P : PO M z a g.n g.f.toNat) (W : GW g) {s : Int} (hs : s = 0 ∨ s = 1) (ho : Ix o g.n) (ht : Ix t g.n) (hk : l.kinds.length = 7) (hl : l.sides.length = 2) (q : ∀ x : Int, Q (.int x) (MP M g.av (.inst 1 z.d) a l c)) :
    t_passed_square [.inst 2 a.d, .int s, .int o, .int t] (MP M g.av (.inst 1 z.d) a l c) Q := by
  obtain ⟨h0, pl, e, hp⟩ := W.pawn hs
  have ix : Ix ((o + t) / 2) pl.length := hp ▸ mid2 ho ht
  exact fnT.gs u_passed_square rfl <| pAt rfl <| gAt rfl <| .intro sm2 <| andS sm2 (fun zz zz => XR.mk (q _)) <| .intro (by decide) <| .intro (by decide) <| pAt rfl <| subI (i := 1) (MP.k P.ap) (hk ▸ by decide) <|
    pAt rfl <| subI (i := 1 - s) (MP.s P.ap) (by rw [hl]; rcases hs with rfl | rfl <;> decide) <| pAt rfl <| gAt rfl <| subF h0 e <| subL ix <| .intro (fun zz => XR.mk (q _)) fun zz => XR.mk (q _)
theorem C_kept (W : GW g) (ho : Ix o g.n) (ht : Ix t g.n) (hr : 0 ≤ c.rights) (q : ∀ x : Int, 0 ≤ x → x ≤ c.rights → Q (.int x) (MP M g.av (.inst 1 z.d) a l c)) :
    t_kept_rights [.inst 2 a.d, .int o, .int t] (MP M g.av (.inst 1 z.d) a l c) Q := by
  have hl : g.lost.length = g.n := W.ll
  refine fnT.gs u_kept_rights rfl <| pAt rfl <| gAt rfl <| subL (hl ▸ ho) <| pAt rfl <| gAt rfl <| subL (hl ▸ ht) <| pAt rfl <| pAt rfl <| XR.mk (q _ ?_ ?_)
  · exact Int.sub_nonneg_of_le (bitAnd_le hr).2
  · exact Int.sub_le_self _ (bitAnd_le hr).1
theorem C_clear_ep (P : PO M z a g.n g.f.toNat) (hf : 0 < g.f) (q : ∀ e k, Q .none (MP M g.av (.inst 1 z.d) a l ⟨c.side, c.rights, e, c.half, c.full, k⟩)) :
    t_clear_ep_key [.inst 2 a.d] (MP M g.av (.inst 1 z.d) a l c) Q :=
  fnT.gs u_clear_ep_key rfl <| pAt rfl <| .intro (fun zz => pAt rfl <| pAt rfl <| atI P.zz.hd rfl <| pAt rfl <| pAt rfl <| gAt rfl <| .intro hf <| subI P.zz.hb (ix_rep (ix_mod hf)) <| p_key P.ap <| p_ep P.ap <| XN.mk (q _ _)) fun zz => XN.mk (q _ _)
theorem C_set_ep (P : PO M z a g.n g.f.toNat) (hf : 0 < g.f) {x : Int} (q : ∀ e k, Q .none (MP M g.av (.inst 1 z.d) a l ⟨c.side, c.rights, e, c.half, c.full, k⟩)) :
    t_set_ep_key [.inst 2 a.d, .int x] (MP M g.av (.inst 1 z.d) a l c) Q :=
  fnT.gs u_set_ep_key rfl <| .intro (fun zz => pAt rfl <| pAt rfl <| atI P.zz.hd rfl <| pAt rfl <| gAt rfl <| .intro hf <| subI P.zz.hb (ix_rep (ix_mod hf)) <| p_key P.ap <| p_ep P.ap <| XN.mk (q _ _)) fun zz => p_ep P.ap <| XN.mk (q _ _)
theorem C_set_rights (P : PO M z a g.n g.f.toNat) (hr : Ix c.rights 16) {x : Int} (hx : Ix x 16) (q : ∀ k, Q .none (MP M g.av (.inst 1 z.d) a l ⟨c.side, x, c.ep, c.half, c.full, k⟩)) :
    t_set_rights_key [.inst 2 a.d, .int x] (MP M g.av (.inst 1 z.d) a l c) Q :=
  fnT.gs u_set_rights_key rfl <| pAt rfl <| .intro (fun zz => pAt rfl <| pAt rfl <| atI P.zz.hd rfl <| pAt rfl <| subI P.zz.hc (ix_rep hr) <| pAt rfl <| atI P.zz.hd rfl <| subI P.zz.hc (ix_rep hx) <| p_key P.ap <| p_rights P.ap <| XN.mk (q _))
    fun h => XN.mk (by have e : c.rights = x := Decidable.byContradiction fun e => h (Ne.symm e); subst e; exact q _)
end
end Vg
end
section
set_option autoImplicit false
set_option linter.all false
namespace Vg
open PySem PySem.W PyProof.Rows
noncomputable abbrev okc (x : Int) : Prop := Ix x 15 ∧ Ix (Builtin.bitAnd x 7) 7 ∧ Ix (x / 8) 2
structure V (n : Nat) (l : Ls) : Prop where
  c : l.cells.length = n
  k : l.kinds.length = 7
  s : l.sides.length = 2
  h : l.hist.length ≤ 1000
  ok : ∀ x ∈ l.cells, okc x
theorem gz_mem {l : List Int} {i : Int} : gz l i = 0 ∨ gz l i ∈ l := by
  unfold gz
  rw [List.getD_eq_getElem?_getD]
  cases e : l[i.toNat]? with
  | none => exact .inl rfl
  | some x => exact .inr (List.mem_of_getElem? e)
theorem ok_sz {l : List Int} {i v : Int} (h : ∀ x ∈ l, okc x) (hv : okc v) : ∀ x ∈ sz l i v, okc x := fun x hx => (List.mem_or_eq_of_mem_set hx).elim (h x) fun e => e ▸ hv
section
variable {n : Nat} {l : Ls} {s t x : Int}
theorem V.at (v : V n l) : okc (gz l.cells s) := gz_mem.elim (fun e => e ▸ by decide) (v.ok _)
theorem V.pc (v : V n l) (h : okc x) : Pc l x := ⟨h.1, v.k.symm ▸ h.2.1, v.s.symm ▸ h.2.2⟩
theorem V.put (v : V n l) (h : okc x) : V n (l.put s x) := ⟨sz_len.trans v.c, sz_len.trans v.k, sz_len.trans v.s, v.h, ok_sz v.ok h⟩
theorem V.take (v : V n l) : V n (l.take s x) := ⟨sz_len.trans v.c, sz_len.trans v.k, sz_len.trans v.s, v.h, ok_sz v.ok (by decide)⟩
theorem V.shift (v : V n l) (h : okc x) : V n (l.shift s t x) := ⟨sz_len.trans (sz_len.trans v.c), sz_len.trans v.k, sz_len.trans v.s, v.h, ok_sz (ok_sz v.ok (by decide)) h⟩
end
section
variable {M : Mem} {g : Geo} {z : Za} {a : Ad} {l : Ls} {c : Sc} {n : Int} {Q : AV → Mem → Prop} {o t sp pc sd w tk : Int} {rk : AV} {N B : List AV → Mem → Prop} {R : AV → Mem → Prop}
noncomputable abbrev dm (a : Ad) (n pc sd o t sp w tk : Int) (rk : AV) : List AV := [.inst 2 a.d, .int n, .int pc, .int sd, .int o, .int t, .int sp, rk, .int w, .int tk]
theorem dm18 (P : PO M z a g.n g.f.toNat) (h : Ix c.rights 16) (q : ∀ m c', c'.side = 1 - sd → Ix c'.rights 16 → N m (MP M g.av (.inst 1 z.d) a l c')) :
    q_do_move_18 (dm a n pc sd o t sp w tk rk) (MP M g.av (.inst 1 z.d) a l c) N B R := p_side P.ap <| pAt rfl <| pAt rfl <| atI P.zz.hd rfl <| p_key P.ap <| q _ _ (by rfl) (by exact h)
theorem dm16 (P : PO M z a g.n g.f.toNat) (W : GW g) (ho : Ix o g.n) (ht : Ix t g.n) (h : Ix c.rights 16) (q : ∀ m c', c'.side = 1 - sd → Ix c'.rights 16 → N m (MP M g.av (.inst 1 z.d) a l c')) :
    q_do_move_16 (dm a n pc sd o t sp w tk rk) (MP M g.av (.inst 1 z.d) a l c) N B R := C_kept W ho ht h.1 fun x h1 h2 => by
  have hx : Ix x 16 := ⟨h1, Nat.lt_of_le_of_lt (Int.toNat_le_toNat h2) h.2⟩
  exact C_set_rights P h hx fun k => .intro trivial <| .intro (fun zz => pAt rfl <| p_full P.ap <| dm18 P (by exact hx) q) fun zz => dm18 P (by exact hx) q
theorem dm15 (P : PO M z a g.n g.f.toNat) (W : GW g) (v : V g.n l) (hs : sd = 0 ∨ sd = 1) (ho : Ix o g.n) (ht : Ix t g.n) (h : Ix c.rights 16) (q : ∀ m c', c'.side = 1 - sd → Ix c'.rights 16 → N m (MP M g.av (.inst 1 z.d) a l c')) :
    q_do_move_15 (dm a n pc sd o t sp w tk rk) (MP M g.av (.inst 1 z.d) a l c) N B R :=
  C_kind_of <| .intro (fun zz => p_half P.ap <| C_passed P W hs ho ht v.k v.s fun x => C_set_ep P W.sh.le.2.1 fun e k => .intro trivial <| dm16 P W ho ht (by exact h) q) fun zz => dm16 P W ho ht h q
noncomputable def Ls.mv1 (l : Ls) (w : Int) : Ls := if gz l.cells w ≠ 0 then l.take w (gz l.cells w) else l
noncomputable def Ls.mv2 (l : Ls) (o t sp np : Int) : Ls := if sp = 1 then (l.take o (gz l.cells o)).put t np else l.shift o t (gz l.cells o)
noncomputable def Ls.mv3 (l : Ls) (sp sd : Int) : Ls := if sp = 3 then l.shift (12 * sd) (2 + 12 * sd) (gz l.cells (12 * sd)) else l
theorem dm14 (P : PO M z a g.n g.f.toNat) (W : GW g) (v : V g.n l) (hs : sd = 0 ∨ sd = 1) (ho : Ix o g.n) (ht : Ix t g.n) (hr : sp = 3 → rk = .tup [.int (12 * sd), .int (2 + 12 * sd)] ∧ Ix (12 * sd) g.n ∧ Ix (2 + 12 * sd) g.n) (h : Ix c.rights 16)
    (q : ∀ m c', c'.side = 1 - sd → Ix c'.rights 16 → N m (MP M g.av (.inst 1 z.d) a (l.mv3 sp sd) c')) : q_do_move_14 (dm a n pc sd o t sp w tk rk) (MP M g.av (.inst 1 z.d) a l c) N B R := by
  refine .intro (fun e => ?_) fun e => dm15 P W v hs ho ht h ?_
  · obtain ⟨rfl, h1, h2⟩ := hr e
    have hl := W.sh.le.1
    rw [show l.mv3 sp sd = _ from if_pos e] at q
    exact subF (Int.le_refl 0) rfl <| subF (by decide : (0 : Int) ≤ 1) rfl <| C_shift P h1 (by rcases hs with rfl | rfl <;> decide) h2 (by rcases hs with rfl | rfl <;> decide) v.c.symm (v.pc v.at) rfl <| .intro trivial <| dm15 P W (v.shift v.at) hs ho ht (by exact h) q
  · rw [show l.mv3 sp sd = _ from if_neg e] at q
    exact q
theorem le1000 {g : Geo} (W : GW g) {s : Int} (h : Ix s g.n) : s ≤ 1000 := by
  exact Int.le_trans (Int.le_of_lt (ixW h)) (Int.le_trans W.sh.le.1 (by decide))
theorem dm13 {np : Int} (P : PO M z a g.n g.f.toNat) (W : GW g) (v : V g.n l) (hs : sd = 0 ∨ sd = 1) (ho : Ix o g.n) (ht : Ix t g.n) (hr : sp = 3 → rk = .tup [.int (12 * sd), .int (2 + 12 * sd)] ∧ Ix (12 * sd) g.n ∧ Ix (2 + 12 * sd) g.n) (h : Ix c.rights 16)
    (hn : Num n o t sp) (hp : sp = 1 → sd * 8 + (Builtin.bitAnd (n / 4096) 3 + 2) = np ∧ okc np)
    (q : ∀ m c', c'.side = 1 - sd → Ix c'.rights 16 → N m (MP M g.av (.inst 1 z.d) a ((l.mv2 o t sp np).mv3 sp sd) c')) : q_do_move_13 (dm a n pc sd o t sp w tk rk) (MP M g.av (.inst 1 z.d) a l c) N B R := by
  refine .intro (fun e => ?_) fun e => ?_
  · obtain ⟨e1, e2⟩ := hp e
    rw [show l.mv2 o t sp np = _ from if_pos e] at q
    exact C_take P ho (le1000 W ho) v.c.symm (v.pc v.at) rfl <| .intro trivial <| C_move_promo (hn.sp.trans e) rfl <| C_make_piece (by rcases hs with rfl | rfl <;> exact (by unfold sm; decide)) <| e1 ▸ C_put P ht (le1000 W ht) (v.take).c.symm (v.take.pc e2) (.intro trivial <| dm14 P W (v.take.put e2) hs ho ht hr (by exact h) q)
  · rw [show l.mv2 o t sp np = _ from if_neg e] at q
    exact C_shift P ho (le1000 W ho) ht (le1000 W ht) v.c.symm (v.pc v.at) rfl <| .intro trivial <| dm14 P W (v.shift v.at) hs ho ht hr (by exact h) q
theorem dm10 {np : Int} (P : PO M z a g.n g.f.toNat) (W : GW g) (v : V g.n l) (hs : sd = 0 ∨ sd = 1) (ho : Ix o g.n) (ht : Ix t g.n) (hwx : Ix w g.n) (hr : sp = 3 → rk = .tup [.int (12 * sd), .int (2 + 12 * sd)] ∧ Ix (12 * sd) g.n ∧ Ix (2 + 12 * sd) g.n) (h : Ix c.rights 16)
    (hn : Num n o t sp) (hp : sp = 1 → sd * 8 + (Builtin.bitAnd (n / 4096) 3 + 2) = np ∧ okc np)
    (q : ∀ m c', c'.side = 1 - sd → Ix c'.rights 16 → N m (MP M g.av (.inst 1 z.d) a (((l.mv1 w).mv2 o t sp np).mv3 sp sd) c')) : q_do_move_10 (dm a n pc sd o t sp w (gz l.cells w) rk) (MP M g.av (.inst 1 z.d) a l c) N B R := by
  refine C_clear_ep P W.sh.le.2.1 fun e k => .intro trivial <| pAt rfl <| p_half P.ap <| .intro (fun h1 => ?_) fun h1 => ?_
  · rw [show l.mv1 w = _ from if_pos h1] at q
    exact C_take P hwx (le1000 W hwx) v.c.symm (v.pc v.at) rfl <| .intro trivial <| p_half P.ap <| dm13 P W v.take hs ho ht hr (by exact h) hn hp q
  · rw [show l.mv1 w = _ from if_neg h1] at q
    exact dm13 P W v hs ho ht hr (by exact h) hn hp q
theorem n_le {g : Geo} {x : Int} (hx : Ix x g.n) : ¬ g.f * g.r ≤ x := Int.not_le.mpr (ixW hx)
theorem C_do_move {np : Int} (P : PO M z a g.n g.f.toNat) (W : GW g) (v : V g.n l) (hs : c.side = 0 ∨ c.side = 1) (hn : Num n o t sp) (ho : Ix o g.n) (ht : Ix t g.n) (he : gz l.cells o ≠ 0) (hsd : gz l.cells o / 8 = c.side) (hw : (if sp ≠ 2 then t else if c.side = 0 then t - g.f else t + g.f) = w) (hwx : Ix w g.n)
    (hr : sp = 3 → g.f = 6 ∧ t = 1 + 12 * c.side) (h : Ix c.rights 16) (hp : sp = 1 → c.side * 8 + (Builtin.bitAnd (n / 4096) 3 + 2) = np ∧ okc np) (hh : l.hist.length < 1000)
    (q : ∀ H c', H.length = l.hist.length + 1 → c'.side = 1 - c.side → Ix c'.rights 16 → Q .none (MP M g.av (.inst 1 z.d) a (((Ls.mv1 { l with hist := H } w).mv2 o t sp np).mv3 sp c.side) c')) :
    t_do_move [.inst 2 a.d, .int n] (MP M g.av (.inst 1 z.d) a l c) Q := by
  have nle : ∀ {x : Int}, Ix x g.n → ¬ g.f * g.r ≤ x := fun hx => n_le hx
  have key : ∀ rk, (sp = 3 → rk = .tup [.int (12 * c.side), .int (2 + 12 * c.side)] ∧ Ix (12 * c.side) g.n ∧ Ix (2 + 12 * c.side) g.n) → q_do_move_7 [.inst 2 a.d, .int n, .int (gz l.cells o), .int c.side, .int o, .int t, .int sp, rk, .undef, .undef] (MP M g.av (.inst 1 z.d) a l c) (XN (MP M g.av (.inst 1 z.d) a l c) Q) XB (XR (MP M g.av (.inst 1 z.d) a l c) Q) := by
    intro rk hrk
    refine C_taken hn hw <| pAt rfl <| subI (MP.b P.ap) (v.c.symm ▸ hwx) <| pAt rfl <| .intro ⟨_, MP.h P.ap, trivial⟩ <| pAt rfl <| pAt rfl <| pAt rfl <| pAt rfl <| hApp (Q := fun v M => dropP v ∧ q_do_move_10 _ M _ _ _) P.ap (Nat.le_of_lt (Nat.lt_trans hh (by decide))) <| .intro trivial <| dm10 (l := { l with hist := l.hist ++ [_] }) P W ⟨v.c, v.k, v.s, by rw [List.length_append]; exact hh, v.ok⟩ hs ho ht hwx hrk h hn hp fun m c' h2 h3 => XN.mk (q _ c' List.length_append h2 h3)
  refine fnT.gs u_do_move rfl <| C_moved P hn (v.c.symm ▸ ho) (nle ho) (nle ht) rfl he hsd <| pAt rfl <| C_move_from hn.o <| C_move_to hn.t <| C_move_special hn.sp <| .intro (fun e => ?_) fun e => key _ fun e' => absurd e' e
  obtain ⟨h6, rfl⟩ := hr e
  have h3 : g.n = 18 := by unfold Geo.n; rw [W.sh.six h6, h6]; rfl
  exact pAt rfl <| C_rook_step (W.cas h6) hs <| key _ fun zz => ⟨rfl, by rw [h3]; rcases hs with e | e <;> rw [e] <;> decide⟩
end
end Vg
end
section
set_option autoImplicit false
set_option linter.all false
namespace Vg
open PySem PySem.W PyProof.Rows
noncomputable def ownRank (f r side sq : Int) : Int := if side = 0 then sq / f else r - 1 - sq / f
noncomputable def edge (n size : Int) : Int := min n (size - 1 - n)
noncomputable def knB (a b : Int) : Int := if a = 0 ∨ b = 0 then 30 else 0
noncomputable def biB (f a b : Int) : Int := if a = b ∨ a + b = f - 1 then 14 else 0
noncomputable def roB (r b : Int) : Int := if b = r - 2 then 14 else 0
noncomputable def sqB (f r k fi rk ri fl : Int) : Int × Int :=
  if k = 1 then (4 * fi + 2 * fi * (rk - 1) - 8, 7 * (rk - 1) - 3 * fi)
  else if k = 2 then (20 * (fi + ri) - 66 - knB fi ri, 15 * (fi + ri) - 54 - knB fi ri)
  else if k = 3 then (8 * (fi + ri) - 18 + biB f fl rk, 7 * (fi + ri) - 24)
  else if k = 4 then (6 * fi - 15 + roB r rk, 2 * rk - 6 + roB r rk)
  else if k = 5 then (3 * min fi ri - 2, 12 * (fi + ri) - 40)
  else (270 - 40 * fi - 55 * rk, 14 * (fi + ri) + 30 * min fi ri)
noncomputable def sqBonus (f r side k sq : Int) : Int × Int := sqB f r k (edge (sq % f) f) (ownRank f r side sq) (edge (ownRank f r side sq) r) (sq % f)
noncomputable def pv (k : Int) : Int × Int := pieceValues.getD k.toNat (0, 0)
noncomputable def scMg (f r p sq : Int) : Int := (pv (Builtin.bitAnd p 7)).1 + (sqBonus f r (p / 8) (Builtin.bitAnd p 7) sq).1
noncomputable def scEg (f r p sq : Int) : Int := (pv (Builtin.bitAnd p 7)).2 + (sqBonus f r (p / 8) (Builtin.bitAnd p 7) sq).2
noncomputable def sqScore (f r p sq : Int) : Int := scEg f r p sq * 65536 + scMg f r p sq
noncomputable abbrev pr2 (p : Int × Int) : AV := .tup [.int p.1, .int p.2]
noncomputable def fin3 (C : Int → Int → Int → Int → Bool) : Bool := [((3 : Int), (4 : Int)), (6, 3), (3, 6), (4, 5)].all fun b => (List.range 15).all fun p => (List.range (b.1 * b.2).toNat).all fun s => C b.1 b.2 p s
theorem fin3_at {C : Int → Int → Int → Int → Bool} (h : fin3 C = true) {f r p s : Int} (hs : Sh f r) (hp : Ix p 15) (hx : Ix s (f * r).toNat) : C f r p s = true := by
  have key : ∀ b : Int × Int, b ∈ [((3 : Int), (4 : Int)), (6, 3), (3, 6), (4, 5)] → Ix s (b.1 * b.2).toNat → C b.1 b.2 p s = true := fun b hb hx => by
    have := List.all_eq_true.mp (List.all_eq_true.mp (List.all_eq_true.mp h b hb) p.toNat (List.mem_range.mpr hp.2)) s.toNat (List.mem_range.mpr hx.2)
    rw [Int.toNat_of_nonneg hp.1, Int.toNat_of_nonneg hx.1] at this
    exact this
  cases hs
  · exact key (3, 4) (by simp) hx
  · exact key (6, 3) (by simp) hx
  · exact key (3, 6) (by simp) hx
  · exact key (4, 5) (by simp) hx
section
variable {M : Mem} {Q : AV → Mem → Prop} {g : Geo} {a b k s x y : Int}
theorem C_from_edge (q : Q (.int (edge a b)) M) : t_from_edge [.int a, .int b] M Q := fnT.gs u_from_edge rfl <| XR.mk q
theorem C_own_rank (hf : 0 < g.f ∧ g.f ≤ 6) (q : Q (.int (ownRank g.f g.r x y)) M) : t_own_rank [g.av, .int x, .int y] M Q := by
  unfold ownRank at q
  exact fnT.gs u_own_rank rfl <| gAt rfl <| .intro hf.1 <| .intro (Int.le_trans hf.2 (by decide)) <| .intro (fun h => XR.mk (by rw [if_pos h] at q; exact q)) fun h => gAt rfl <| XR.mk (by rw [if_neg h] at q; exact q)
theorem smc {i : Int} (h : decide (-1000000 ≤ i ∧ i ≤ 1000000) = true) : sm i := ⟨Int.le_trans (by decide) (of_decide_eq_true h).1, Int.le_trans (of_decide_eq_true h).2 (by decide)⟩
theorem C_pawn_bonus (h : sm (2 * a)) (q : Q (pr2 (4 * a + 2 * a * (b - 1) - 8, 7 * (b - 1) - 3 * a)) M) : t_pawn_bonus [.int a, .int b] M Q := fnT.gs u_pawn_bonus rfl <| .intro (smc rfl) <| .intro (smc rfl) <| .intro h <| .intro (smc rfl) <| .intro (smc rfl) <| XR.mk q
theorem C_knight_bonus (q : Q (pr2 (20 * (a + b) - 66 - knB a b, 15 * (a + b) - 54 - knB a b)) M) : t_knight_bonus [.int a, .int b] M Q := by
  unfold knB at q
  exact fnT.gs u_knight_bonus rfl <| .intro (fun h => .intro (fun zz => .intro (smc rfl) <| .intro (smc rfl) <| XR.mk (by rw [if_pos (.inl h)] at q; exact q)) (absurd trivial)) fun h =>
    .intro (fun h' => .intro (smc rfl) <| .intro (smc rfl) <| XR.mk (by rw [if_pos (.inr h')] at q; exact q)) fun h' => .intro (smc rfl) <| .intro (smc rfl) <| XR.mk (by rw [if_neg (not_or.mpr ⟨h, h'⟩)] at q; exact q)
theorem C_is_long (q : ∀ u : Bool, (u = true ↔ (x = y ∨ x + y = g.f - 1)) → Q (.bool u) M) : t_is_long_diagonal [g.av, .int x, .int y] M Q :=
  fnT.gs u_is_long_diagonal rfl <| fun u hu => .intro (fun h => XR.mk (q u ⟨fun zz => .inl (hu.mp h), fun zz => h⟩)) fun h => gAt rfl <| fun v hv => XR.mk (q v ⟨fun e => .inr (hv.mp e), fun e => hv.mpr (e.resolve_left fun e => h (hu.mpr e))⟩)
theorem C_bishop_bonus {u : Bool} {d : Int} (h1 : u = true → d = 14) (h0 : ¬ u = true → d = 0) (q : Q (pr2 (8 * (a + b) - 18 + d, 7 * (a + b) - 24)) M) : t_bishop_bonus [.int a, .int b, .bool u] M Q :=
  fnT.gs u_bishop_bonus rfl <| .intro (smc rfl) <| .intro (fun h => .intro (smc rfl) <| XR.mk (h1 h ▸ q)) fun h => .intro (smc rfl) <| XR.mk (h0 h ▸ q)
theorem C_rook_bonus (q : Q (pr2 (6 * a - 15 + roB x b, 2 * b - 6 + roB x b)) M) : t_rook_bonus [.int x, .int a, .int b] M Q := by
  unfold roB at q
  exact fnT.gs u_rook_bonus rfl <| .intro (fun h => .intro (smc rfl) <| .intro (smc rfl) <| XR.mk (by rw [if_pos h] at q; exact q)) fun h => .intro (smc rfl) <| .intro (smc rfl) <| XR.mk (by rw [if_neg h] at q; exact q)
theorem C_queen_bonus (q : Q (pr2 (3 * min a b - 2, 12 * (a + b) - 40)) M) : t_queen_bonus [.int a, .int b] M Q := fnT.gs u_queen_bonus rfl <| .intro (smc rfl) <| .intro (smc rfl) <| XR.mk q
theorem C_king_bonus (q : Q (pr2 (270 - 40 * a - 55 * x, 14 * (a + b) + 30 * min a b)) M) : t_king_bonus [.int a, .int x, .int b] M Q := fnT.gs u_king_bonus rfl <| .intro (smc rfl) <| .intro (smc rfl) <| .intro (smc rfl) <| .intro (smc rfl) <| XR.mk q
theorem C_square_bonus (hf : 0 < g.f ∧ g.f ≤ 6) (hs : sm (2 * edge (s % g.f) g.f)) (q : Q (pr2 (sqBonus g.f g.r x k s)) M) : t_square_bonus [g.av, .int x, .int k, .int s] M Q := by
  refine fnT.gs u_square_bonus rfl <| gAt rfl <| .intro hf.1 <| C_own_rank hf <| gAt rfl <| C_from_edge <| gAt rfl <| C_from_edge ?_
  unfold sqBonus sqB at q
  refine .intro (fun h => C_pawn_bonus hs <| XR.mk (by rw [if_pos h] at q; exact q)) fun h => ?_
  rw [if_neg h] at q
  refine .intro (fun h => C_knight_bonus <| XR.mk (by rw [if_pos h] at q; exact q)) fun h => ?_
  rw [if_neg h] at q
  refine .intro (fun h => C_is_long fun u hu => C_bishop_bonus (fun e => if_pos (hu.mp e)) (fun e => if_neg fun e' => e (hu.mpr e')) <| XR.mk (by rw [if_pos h] at q; exact q)) fun h => ?_
  rw [if_neg h] at q
  refine .intro (fun h => gAt rfl <| C_rook_bonus <| XR.mk (by rw [if_pos h] at q; exact q)) fun h => ?_
  rw [if_neg h] at q
  refine .intro (fun h => C_queen_bonus <| XR.mk (by rw [if_pos h] at q; exact q)) fun h => ?_
  rw [if_neg h] at q
  exact C_king_bonus <| XR.mk q
end
end Vg
end
section
set_option autoImplicit false
set_option linter.all false
namespace Vg
open PySem PySem.W PyProof.Rows
noncomputable def sumN (F : Nat → Int) (n : Nat) : Int := Nat.rec 0 (fun i s => s + F i) n
section
variable {b : St} {m : List AV} {M : Mem} {N : List AV → Mem → Prop} {R : AV → Mem → Prop} {t : Nat} {n : Int}
theorem for0 (I : Nat → List AV → Mem → Prop) (h0 : I 0 m M) (hs : ∀ (i : Nat) m M, Ix i n.toNat → I i m M → b (m.set t (.int i)) M (fun m M => True ∧ I (i + 1) m M) N R) (he : ∀ m M, I n.toNat m M → N m M) :
    forP (.v t) b (.rng 0 n 1) (rngL 0 n 1) m M N R := by
  have hl : (rngL 0 n 1).length = n.toNat := by rw [rngL, if_pos rfl, List.length_map, List.length_range, Int.sub_zero]
  refine ⟨I, h0, fun i x m M e h => ?_, fun m M h => he m M (hl ▸ h)⟩
  obtain ⟨hi, _⟩ := List.getElem?_eq_some_iff.mp e
  rw [rngL_get (.inl rfl) hi, Int.mul_one, Int.zero_add] at e
  cases e
  exact hs i m M ⟨Int.natCast_nonneg i, hl ▸ hi⟩ h
end
structure TabS (t : List (List Int)) (n : Nat) : Prop where
  len : t.length = 15
  row : ∀ r ∈ t, r.length = n
noncomputable def rw_ (t : List (List Int)) (p : Int) : List Int := t.getD p.toNat []
noncomputable def tv (t : List (List Int)) (p s : Int) : Int := gz (rw_ t p) s
theorem TabS.at {t : List (List Int)} {n : Nat} (h : TabS t n) {p : Int} (hp : Ix p 15) : (t.map aints)[p.toNat]? = some (aints (rw_ t p)) ∧ (rw_ t p).length = n := by
  have e := List.getElem?_eq_getElem (h.len.symm ▸ hp.2 : p.toNat < t.length)
  have e2 : rw_ t p = t[p.toNat]'(h.len.symm ▸ hp.2) := by unfold rw_; rw [List.getD_eq_getElem?_getD, e]; rfl
  rw [List.getElem?_map, e, e2]
  exact ⟨rfl, h.row _ (List.getElem_mem _)⟩
section
variable {M : Mem} {Q : AV → Mem → Prop} {g : Geo} {z : Za} {a : Ad} {l : Ls} {c : Sc} {t : List (List Int)} {p s : Int}
theorem eg_ok : fin3 (fun f r p s => decide (-1000000 ≤ scEg f r p s ∧ scEg f r p s ≤ 1000000) && decide (-1000000 ≤ 2 * edge (s % f) f ∧ 2 * edge (s % f) f ≤ 1000000)) = true := by decide +kernel
theorem pvs {k : Int} (h : Ix k 7) : (pieceValues.map apair)[k.toNat]? = some (apair (pv k)) := by
  unfold pv
  rw [List.getElem?_map, List.getD_eq_getElem?_getD, List.getElem?_eq_getElem (show k.toNat < pieceValues.length from h.2)]
  rfl
theorem C_kind {M : Mem} {i k : Int} (h : Builtin.bitAnd i 7 = k) (q : Q (.int k) M) : t_kind_of [.int i] M Q := C_kind_of (h ▸ q)
theorem C_make_score {M : Mem} {x y : Int} (h : sm y) (q : Q (.int (y * 65536 + x)) M) : t_make_score [.int x, .int y] M Q := fnT.gs u_make_score rfl <| .intro h <| .intro (by decide : (0 : Int) ≤ 16) <| .intro (by decide : (16 : Int) ≤ 1000) <| XR.mk q
theorem C_square_score (h : Sh g.f g.r) (hp : okc p) (hs : Ix s g.n) (q : Q (.int (sqScore g.f g.r p s)) M) : t_square_score [g.av, .int p, .int s] M Q := by
  have e := Bool.and_eq_true_iff.mp (fin3_at eg_ok h hp.1 hs)
  have hk := hp.2.1
  have he := smc e.1
  unfold sqScore scMg scEg at q
  unfold scEg at he
  generalize hb : Builtin.bitAnd p 7 = k at q hk he
  exact fnT.gs u_square_score rfl <| C_kind hb <| C_side_of <| C_square_bonus ⟨h.le.2.1, h.le.2.2.1⟩ (smc e.2) <| .intro rfl <| subF hk.1 (pvs hk) <| subF (by decide : (0 : Int) ≤ 0) rfl <| subF hk.1 (pvs hk) <| subF (by decide : (0 : Int) ≤ 1) rfl <|
    C_make_score he <| XR.mk q
theorem okr {g : Geo} (h : Sh g.f g.r) : okR (g.f * g.r) := ⟨Int.le_trans (by decide) h.le.2.2.2.2, Int.le_trans h.le.1 (by decide)⟩
end
structure Rd (M : Mem) (g z : AV) (a : Ad) (l : Ls) (c : Sc) : Prop where
  d : M a.d = some (.flds (pf g z a c))
  b : M a.b = some (iL l.cells)
  k : M a.k = some (iL l.kinds)
  s : M a.s = some (iL l.sides)
theorem Rd.le {M M' : Mem} {g z : AV} {a : Ad} {l : Ls} {c : Sc} (R : Rd M g z a l c) (h : M.le M') : Rd M' g z a l c := ⟨h _ _ R.d, h _ _ R.b, h _ _ R.k, h _ _ R.s⟩
theorem Ap.rd {M : Mem} {g z : AV} {a : Ad} {l : Ls} {c : Sc} (h : Ap a) : Rd (MP M g z a l c) g z a l c := ⟨MP.d, MP.b h, MP.k h, MP.s h⟩
section
variable {M : Mem} {Q : AV → Mem → Prop} {g : Geo} {zv : AV} {a : Ad} {l : Ls} {c : Sc} {t : List (List Int)} {p s : Int}
theorem C_psq_of (R : Rd M g.av zv a l c) (h : Sh g.f g.r) (v : V g.n l) (ht : TabS t g.n) (q : Q (.int (sumN (fun i => tv t (gz l.cells i) i) g.n)) M) : t_psq_of [.inst 2 a.d, aintss t] M Q := by
  refine fnT.gs u_psq_of rfl <| atI (c := 2) R.d rfl <| gAt rfl <| .intro (okr h) <| for0 (fun i m M' => ∃ x, m = [.inst 2 a.d, aintss t, .int (sumN (fun i => tv t (gz l.cells i) i) i), x] ∧ M = M') ⟨_, rfl, rfl⟩ ?_ ?_
  · rintro i _ _ hi ⟨x, rfl, rfl⟩
    obtain ⟨e1, e2⟩ := ht.at (v.at (s := i)).1
    exact atI (c := 2) R.d rfl <| subI R.b (v.c.symm ▸ hi) <| subF v.at.1.1 e1 <| subL (e2.symm ▸ hi) <| .intro trivial ⟨_, rfl, rfl⟩
  · rintro _ _ ⟨x, rfl, rfl⟩
    exact XR.mk q
noncomputable def plainV (f r : Int) (cells : List Int) (s : Int) : Int := if gz cells s ≠ 0 then (if gz cells s / 8 = 0 then sqScore f r (gz cells s) s else -sqScore f r (gz cells s) s) else 0
theorem plain0 {f r : Int} {cells : List Int} {s : Int} (h : ¬ gz cells s ≠ 0) {t : Int} : t = t + plainV f r cells s := by unfold plainV; rw [if_neg h, Int.add_zero]
theorem plain1 {f r : Int} {cells : List Int} {s : Int} (h : gz cells s ≠ 0) (h' : gz cells s / 8 = 0) {t : Int} : t + sqScore f r (gz cells s) s = t + plainV f r cells s := by unfold plainV; rw [if_pos h, if_pos h']
theorem plain2 {f r : Int} {cells : List Int} {s : Int} (h : gz cells s ≠ 0) (h' : ¬ gz cells s / 8 = 0) {t : Int} : t + -sqScore f r (gz cells s) s = t + plainV f r cells s := by unfold plainV; rw [if_pos h, if_neg h']
theorem C_psq_plain (R : Rd M g.av zv a l c) (h : Sh g.f g.r) (v : V g.n l) (q : Q (.int (sumN (fun i => plainV g.f g.r l.cells i) g.n)) M) : t_psq_plain [.inst 2 a.d] M Q := by
  refine fnT.gs u_psq_plain rfl <| atI (c := 2) R.d rfl <| gAt rfl <| .intro (okr h) <| for0 (fun i m M' => ∃ t x y z', t = sumN (fun i => plainV g.f g.r l.cells i) i ∧ m = [.inst 2 a.d, .int t, x, y, z'] ∧ M = M') ⟨_, _, _, _, rfl, rfl, rfl⟩ ?_ ?_
  · rintro i _ _ hi ⟨t, x, y, z', rfl, rfl, rfl⟩
    exact atI (c := 2) R.d rfl <| subI R.b (v.c.symm ▸ hi) <| .intro (fun h0 => atI (c := 2) R.d rfl <| C_square_score h v.at hi <| C_side_of <| .intro (fun h1 => .intro trivial ⟨_, _, _, _, plain1 h0 h1, rfl, rfl⟩) fun h1 => .intro trivial ⟨_, _, _, _, plain2 h0 h1, rfl, rfl⟩) fun h0 => .intro trivial ⟨_, _, _, _, plain0 h0, rfl, rfl⟩
  · rintro _ _ ⟨t, x, y, z', rfl, rfl, rfl⟩
    exact XR.mk q
end
end Vg
end
section
set_option autoImplicit false
set_option linter.all false
namespace Vg
open PySem PySem.W PyProof.Rows
theorem TabS.r {t : List (List Int)} {n : Nat} (h : TabS t n) {p : Int} (hp : Ix p 15) : (t.map aints)[p.toNat]? = some (aints (rw_ t p)) := (h.at hp).1
theorem TabS.i {t : List (List Int)} {n : Nat} (h : TabS t n) {p s : Int} (hp : Ix p 15) (hs : Ix s n) : Ix s (rw_ t p).length := (h.at hp).2.symm ▸ hs
section
variable {M : Mem} {Q : AV → Mem → Prop} {g : Geo} {z : Za} {a : Ad} {l : Ls} {c : Sc} {t : List (List Int)} {n o to sp s w : Int}
theorem C_castle_change (hc : g.castles = [.none, .tup [.int 3, .int 1, .int 0, .int 2], .none, .tup [.int 15, .int 13, .int 12, .int 14]]) (hs : s = 0 ∨ s = 1) (ht : TabS t 18)
    (hw : tv t (8 * s + 6) (1 + 12 * s) - tv t (8 * s + 6) (3 + 12 * s) + tv t (8 * s + 4) (2 + 12 * s) - tv t (8 * s + 4) (12 * s) = w) (q : Q (.int w) M) :
    t_castle_change [g.av, .int (8 * s + 6), .int (3 + 12 * s), .int (1 + 12 * s), aintss t] M Q := by
  subst hw
  rcases hs with rfl | rfl
  · refine fnT.gs u_castle_change rfl <| C_side_of <| C_make_piece (by unfold sm; decide) <| .intro (by unfold sm; decide) <| .intro (by unfold sm; decide) <| forP.of <| gAt rfl <| subF (x := .none) (by decide) (by rw [hc]; rfl) <| .intro (fun h => nomatch h) fun zz => iN id <| .intro trivial <|
      gAt rfl <| subF (x := .tup [.int 3, .int 1, .int 0, .int 2]) (by decide) (by rw [hc]; rfl) <| .intro (fun zz => subF (by decide) rfl <| .intro (fun zz => subF (by decide) rfl <| iP rfl <| ?_) fun h => absurd rfl h) fun h => absurd rfl h
    have p6 : Ix (8 * 0 + 6) 15 := by decide
    have p4 : Ix ((8 * 0 + 6) / 8 * 8 + 4) 15 := by decide
    exact subF p6.1 (ht.r p6) <| subL (ht.i p6 (by decide)) <| subF p6.1 (ht.r p6) <| subL (ht.i p6 (by decide)) <| subF p4.1 (ht.r p4) <| subF (by decide : (0 : Int) ≤ 3) rfl <| subL (ht.i p4 (by decide)) <| subF p4.1 (ht.r p4) <| subF (by decide : (0 : Int) ≤ 2) rfl <| subL (ht.i p4 (by decide)) <| XR.mk q
  · refine fnT.gs u_castle_change rfl <| C_side_of <| C_make_piece (by unfold sm; decide) <| .intro (by unfold sm; decide) <| .intro (by unfold sm; decide) <| forP.of <| gAt rfl <| subF (x := .none) (by decide) (by rw [hc]; rfl) <| .intro (fun h => nomatch h) fun zz => iN id <| .intro trivial <|
      gAt rfl <| subF (x := .tup [.int 15, .int 13, .int 12, .int 14]) (by decide) (by rw [hc]; rfl) <| .intro (fun zz => subF (by decide) rfl <| .intro (fun zz => subF (by decide) rfl <| iP rfl <| ?_) fun h => absurd rfl h) fun h => absurd rfl h
    have p6 : Ix (8 * 1 + 6) 15 := by decide
    have p4 : Ix ((8 * 1 + 6) / 8 * 8 + 4) 15 := by decide
    exact subF p6.1 (ht.r p6) <| subL (ht.i p6 (by decide)) <| subF p6.1 (ht.r p6) <| subL (ht.i p6 (by decide)) <| subF p4.1 (ht.r p4) <| subF (by decide : (0 : Int) ≤ 3) rfl <| subL (ht.i p4 (by decide)) <| subF p4.1 (ht.r p4) <| subF (by decide : (0 : Int) ≤ 2) rfl <| subL (ht.i p4 (by decide)) <| XR.mk q

structure Chg (g : Geo) (c : List Int) (n o to sp cm ta : Int) : Prop where
  num : Num n o to sp
  io : Ix o g.n
  it : Ix to g.n
  ec : cm = if sp = 1 then gz c o / 8 * 8 + (Builtin.bitAnd (n / 4096) 3 + 2) else gz c o
  ic : Ix cm 15
  s8 : sm (gz c o / 8)
  ea : ta = if sp = 2 then o - o % g.f + to % g.f else to
  ia : Ix ta g.n
theorem C_psq_castle (P : PO M z a g.n g.f.toNat) (v : V g.n l) (hc : g.castles = [.none, .tup [.int 3, .int 1, .int 0, .int 2], .none, .tup [.int 15, .int 13, .int 12, .int 14]]) (hs : s = 0 ∨ s = 1) (ht : TabS t 18)
    (hn : Num n (3 + 12 * s) (1 + 12 * s) 3) (ho : Ix (3 + 12 * s) g.n) (hp : gz l.cells (3 + 12 * s) = 8 * s + 6)
    (hw : tv t (8 * s + 6) (1 + 12 * s) - tv t (8 * s + 6) (3 + 12 * s) + tv t (8 * s + 4) (2 + 12 * s) - tv t (8 * s + 4) (12 * s) = w) (q : Q (.int w) (MP M g.av (.inst 1 z.d) a l c)) :
    t_psq_change [.inst 2 a.d, .int n, aintss t] (MP M g.av (.inst 1 z.d) a l c) Q :=
  fnT.gs u_psq_change rfl <| C_move_from hn.o <| C_move_to hn.t <| C_move_special hn.sp <| pAt rfl <| subI (MP.b P.ap) (v.c.symm ▸ ho) <| iP rfl <| pAt rfl <| hp.symm ▸ C_castle_change hc hs ht hw <| XR.mk q
theorem C_psq_change (P : PO M z a g.n g.f.toNat) (hf : 0 < g.f) (v : V g.n l) (ht : TabS t g.n) {cm ta : Int} (C : Chg g l.cells n o to sp cm ta) (h3 : ¬ sp = 3)
    (hw : tv t cm to - tv t (gz l.cells o) o - tv t (gz l.cells ta) ta = w) (q : Q (.int w) (MP M g.av (.inst 1 z.d) a l c)) :
    t_psq_change [.inst 2 a.d, .int n, aintss t] (MP M g.av (.inst 1 z.d) a l c) Q := by
  have e9 : ∀ x, cm = x → q_psq_change_9 [.inst 2 a.d, .int n, aintss t, .int o, .int to, .int sp, .int (gz l.cells o), .int ta, .int x] (MP M g.av (.inst 1 z.d) a l c) (XN (MP M g.av (.inst 1 z.d) a l c) Q) XB (XR (MP M g.av (.inst 1 z.d) a l c) Q) :=
    fun x hx => by cases hx; exact subF C.ic.1 (ht.r C.ic) <| subL (ht.i C.ic C.it) <| subF v.at.1.1 (ht.r v.at.1) <| subL (ht.i v.at.1 C.io) <| pAt rfl <| subI (MP.b P.ap) (v.c.symm ▸ C.ia) <| subF v.at.1.1 (ht.r v.at.1) <| subL (ht.i v.at.1 C.ia) <| XR.mk (hw ▸ q)
  have e7 : ∀ y, ta = y → q_psq_change_7 [.inst 2 a.d, .int n, aintss t, .int o, .int to, .int sp, .int (gz l.cells o), .int y, .undef] (MP M g.av (.inst 1 z.d) a l c) (XN (MP M g.av (.inst 1 z.d) a l c) Q) XB (XR (MP M g.av (.inst 1 z.d) a l c) Q) :=
    fun y hy => by cases hy; exact .intro (fun h => C_side_of <| C_move_promo (C.num.sp.trans h) rfl <| C_make_piece C.s8 <| e9 _ (C.ec.trans (if_pos h))) fun h => e9 _ (C.ec.trans (if_neg h))
  exact fnT.gs u_psq_change rfl <| C_move_from C.num.o <| C_move_to C.num.t <| C_move_special C.num.sp <| pAt rfl <| subI (MP.b P.ap) (v.c.symm ▸ C.io) <| iN h3 <|
    .intro (fun h => pAt rfl <| gAt rfl <| .intro hf <| pAt rfl <| gAt rfl <| .intro hf <| e7 _ (C.ea.trans (if_pos h))) fun h => e7 _ (C.ea.trans (if_neg h))
end
end Vg
end
section
set_option autoImplicit false
set_option linter.all false
namespace Vg
open PySem PySem.W PyProof.Rows
theorem or3 {a b c d : Nat} (h : a + b = c + d) : (c : Int) + d - b = a := Int.sub_eq_iff_eq_add.mpr (congrArg Int.ofNat h.symm)
theorem xo3 {a b c d : Nat} (h : a + 2 * b = c + d) : (c : Int) + d - 2 * b = a := Int.sub_eq_iff_eq_add.mpr (congrArg Int.ofNat h.symm)
theorem bitOr_nat (m n : Nat) : Builtin.bitOr (m : Int) (n : Int) = ((m ||| n : Nat) : Int) := by
  rw [bitOr_and, bitAnd_nat]; exact or3 (nat_or_add_and m n)
theorem xa3 {m n x y : Nat} (h : x / 2 + 2 * (y / 2) = m / 2 + n / 2) (h' : x % 2 + 2 * (y % 2) = m % 2 + n % 2) : x + 2 * y = m + n := by lia
theorem xa2 : ∀ a b : Fin 2, (a.val ^^^ b.val) + 2 * (a.val &&& b.val) = a.val + b.val := by decide
theorem xor_and_nat (m : Nat) : ∀ n : Nat, (m ^^^ n) + 2 * (m &&& n) = m + n := by
  induction m using Nat.strongRecOn with
  | _ m ih =>
    intro n
    by_cases hm : m = 0
    · subst hm; rw [Nat.zero_xor, Nat.zero_and, Nat.mul_zero, Nat.add_zero, Nat.zero_add]
    · refine xa3 ?_ ?_
      · rw [Nat.xor_div_two, Nat.and_div_two]; exact ih _ (Nat.div_lt_self (Nat.pos_of_ne_zero hm) (by decide)) _
      · have e1 : (m ^^^ n) % 2 = (m % 2) ^^^ (n % 2) := @Nat.xor_mod_two_pow m n 1
        have e2 : (m &&& n) % 2 = (m % 2) &&& (n % 2) := @Nat.and_mod_two_pow m n 1
        rw [e1, e2]
        exact xa2 ⟨m % 2, Nat.mod_lt _ (by decide)⟩ ⟨n % 2, Nat.mod_lt _ (by decide)⟩
theorem bitXor_nat (m n : Nat) : Builtin.bitXor (m : Int) (n : Int) = ((m ^^^ n : Nat) : Int) := by
  rw [bitXor_and, bitAnd_nat]; exact xo3 (xor_and_nat m n)
noncomputable def bb (P : Int → Bool) (l : List Int) : Nat := List.rec 0 (fun c _ n => (if P c then 1 else 0) + 2 * n) l
theorem bb_two {p : Prop} [Decidable p] {n : Nat} : ((if p then 1 else 0) + 2 * n) / 2 = n ∧ ((if p then 1 else 0) + 2 * n) % 2 = (if p then 1 else 0) := by split <;> exact ⟨(Nat.add_mul_div_left _ _ (by decide)).trans (Nat.zero_add n), Nat.add_mul_mod_self_left _ _ _⟩
theorem bb_bit {P : Int → Bool} : ∀ {l : List Int} {i : Nat}, (bb P l).testBit i = (l[i]?).any P := by
  intro l
  induction l with
  | nil => intro i; exact Nat.zero_testBit i
  | cons c r ih =>
    intro i
    cases i with
    | zero => rw [Nat.testBit_zero]; show decide (((if P c then 1 else 0) + 2 * bb P r) % 2 = 1) = P c; rw [bb_two.2]; cases P c <;> rfl
    | succ i => rw [Nat.testBit_succ]; show Nat.testBit (((if P c then 1 else 0) + 2 * bb P r) / 2) i = (r[i]?).any P; rw [bb_two.1]; exact ih
theorem dmL {a b k : Int} (h : 0 ≤ a ∧ a < k) : (a + k * b) % k = a ∧ (a + k * b) / k = b := ⟨by rw [Int.add_mul_emod_self_left, Int.emod_eq_of_lt h.1 h.2], by rw [Int.add_mul_ediv_left _ _ (Int.ne_of_gt (Int.lt_of_le_of_lt h.1 h.2)), Int.ediv_eq_zero_of_lt h.1 h.2, Int.zero_add]⟩
noncomputable def pcF (k : Nat) : Nat → Nat := Nat.rec (motive := fun _ => Nat → Nat) (fun _ => 0) (fun _ ih n => n % 2 + ih (n / 2)) k
noncomputable def pc (n : Nat) : Nat := pcF n n
theorem pcF1 {k : Nat} : ∀ n, n ≤ k → pcF (k + 1) n = pcF k n := by
  induction k with
  | zero => intro n h; rw [Nat.le_zero.mp h]; rfl
  | succ k ih => exact fun n h => congrArg (n % 2 + ·) (ih (n / 2) (by lia))
theorem pcF2 {k n : Nat} (h : n ≤ k) : pcF k n = pc n := by
  induction h with
  | refl => rfl
  | step h ih => exact (pcF1 n h).trans ih
theorem pc_eq (n : Nat) : pc n = n % 2 + pc (n / 2) := by
  cases n with
  | zero => rfl
  | succ n => exact congrArg ((n + 1) % 2 + ·) (pcF2 (by lia))
theorem pc_bb {P : Int → Bool} {l : List Int} : pc (bb P l) = l.countP P := by
  induction l with
  | nil => rfl
  | cons c r ih =>
    rw [pc_eq, List.countP_cons, ← ih]
    show ((if P c then 1 else 0) + 2 * bb P r) % 2 + pc (((if P c then 1 else 0) + 2 * bb P r) / 2) = _
    rw [bb_two.1, bb_two.2, Nat.add_comm]
theorem bb_and {P Q : Int → Bool} {l : List Int} : bb P l &&& bb Q l = bb (fun c => P c && Q c) l := by
  refine Nat.eq_of_testBit_eq fun i => ?_
  rw [Nat.testBit_and, bb_bit, bb_bit, bb_bit]
  cases l[i]? <;> rfl
theorem clear1 {k : Nat} : (2 * k + 1) &&& (2 * k) = 2 * k := by
  refine Nat.eq_of_testBit_eq fun i => ?_
  rw [Nat.testBit_and]
  cases i with
  | zero => rw [Nat.testBit_zero, Nat.testBit_zero, Nat.mul_mod_right, Bool.and_comm]; exact Bool.false_and _
  | succ i => rw [Nat.testBit_succ, Nat.testBit_succ, show (2 * k + 1) / 2 = 2 * k / 2 from (Nat.mul_add_div (by decide) k 1).trans (Nat.mul_div_cancel_left k (by decide)).symm, Bool.and_self]
theorem clear2 {k : Nat} : (2 * (k + 1)) &&& (2 * k + 1) = 2 * ((k + 1) &&& k) := by
  refine Nat.eq_of_testBit_eq fun i => ?_
  rw [Nat.testBit_and]
  cases i with
  | zero => rw [Nat.testBit_zero (2 * (k + 1)), Nat.testBit_zero (2 * _), Nat.mul_mod_right, Nat.mul_mod_right]; exact Bool.false_and _
  | succ i => rw [Nat.testBit_succ, Nat.testBit_succ, Nat.testBit_succ, Nat.mul_div_cancel_left _ (by decide), Nat.mul_div_cancel_left _ (by decide), show (2 * k + 1) / 2 = k from Nat.mul_add_div (by decide) k 1, Nat.testBit_and]
theorem pc2 {k : Nat} : pc (2 * k) = pc k := by rw [pc_eq, Nat.mul_mod_right, Nat.mul_div_cancel_left _ (by decide), Nat.zero_add]
theorem pc_clear : ∀ n : Nat, pc ((n + 1) &&& n) + 1 = pc (n + 1) := by
  intro n
  induction n using Nat.strongRecOn with
  | _ n ih =>
    rcases Nat.mod_two_eq_zero_or_one n with h | h
    · obtain ⟨k, rfl⟩ : ∃ k, n = 2 * k := ⟨n / 2, (Nat.mul_div_cancel' (Nat.dvd_of_mod_eq_zero h)).symm⟩
      rw [clear1, pc_eq (2 * k + 1), pc2, show (2 * k + 1) / 2 = k from Nat.mul_add_div (by decide) k 1, show (2 * k + 1) % 2 = 1 from Nat.mul_add_mod 2 k 1, Nat.add_comm]
    · obtain ⟨k, rfl⟩ : ∃ k, n = 2 * k + 1 := ⟨n / 2, h ▸ (Nat.div_add_mod n 2).symm⟩
      rw [show 2 * k + 1 + 1 = 2 * (k + 1) from rfl, clear2, pc2, pc2]
      exact ih k (by lia)
section
variable {M : Mem} {Q : AV → Mem → Prop} {n : Nat}
theorem cast1 {k : Nat} (h : (k : Int) ≠ 0) : ∃ j : Nat, k = j + 1 ∧ (k : Int) - 1 = j := by
  cases k with
  | zero => exact absurd rfl h
  | succ j => exact ⟨j, rfl, show (j : Int) + 1 - 1 = j from Int.add_sub_cancel _ _⟩
theorem C_count_bits (q : Q (.int (pc n)) M) : t_count_bits [.int n] M Q := by
  refine fnT.gs u_count_bits rfl <| ⟨fun j m M' => ∃ c : Nat, m = [.int (j : Nat), .int c] ∧ pc j + c = pc n ∧ M' = M, ⟨n, 0, rfl, rfl, rfl⟩, ?_⟩
  rintro j _ _ ⟨c, rfl, h, rfl⟩
  refine .intro (fun h0 => ?_) fun h0 => XR.mk ?_
  · obtain ⟨i, rfl, e⟩ := cast1 h0
    have h' := pc_clear i
    refine ⟨(i + 1) &&& i, Nat.lt_succ_of_le Nat.and_le_right, c + 1, ?_, by lia, rfl⟩
    rw [← bitAnd_nat, ← e]; rfl
  · have : j = 0 := by lia
    subst this
    rw [← h] at q
    exact show Q (.int (c : Nat)) _ from by rw [show pc 0 = 0 from rfl, Nat.zero_add] at q; exact q
end
theorem Mem.set_set (M : Mem) (a : Addr) (o o' : AO) : (M.set a o).set a o' = M.set a o' := by
  funext b; unfold Mem.set; by_cases h : b = a <;> simp [h]
theorem Mem.set_comm (M : Mem) {a b : Addr} (o o' : AO) (h : a ≠ b) : (M.set a o).set b o' = (M.set b o').set a o := by
  funext x; unfold Mem.set
  by_cases h1 : x = a
  · rw [if_pos h1, if_neg (fun e => h (h1.symm.trans e)), if_pos h1]
  · rw [if_neg h1, if_neg h1]
section
variable {M M' X : Mem} {Q : AV → Mem → Prop} {a b : Addr} {xs ys : List AV} {v : AV} {o : AO}
theorem appS (hl : xs.length ≤ 1000000) (q : Q .none (X.set b (.list (xs ++ [v])))) : meP (X.set b (.list xs)) .append (.ref b) v Q := ⟨xs, Mem.set_self _ _ _, hl, (Mem.set_set X b (.list xs) _).symm ▸ q⟩
theorem Exit.l (h : M' a = some (.list xs)) (hf : M a = none) (hl : M.le M') (q : Q (.lst xs) M) : Exit M Q (.ref a) M' :=
  ⟨fun x => decide (x = a), 1, M, fun b hb => by rw [of_decide_eq_true hb]; exact hf, hl, fun b hb => by rw [of_decide_eq_true hb]; exact hf, by
    have e : frz (fun x => decide (x = a)) M' 1 (.ref a) = .lst xs := by
      show (if decide (a = a) then (match M' a with | some (.list xs) => AV.lst (xs.map fun x => x) | _ => .ref a) else .ref a) = _
      rw [if_pos (decide_eq_true rfl), h]; exact congrArg AV.lst (List.map_id' _)
    rw [e]; exact q⟩
theorem Exit.ll {rs : List Addr} {ls : List (List Int)} (h : M' a = some (.list (rs.map .ref))) (hr : ∀ (i : Nat) (r : Addr), rs[i]? = some r → ∃ l, ls[i]? = some l ∧ M' r = some (iL l)) (hn : rs.length = ls.length) (hf : M a = none) (hf' : ∀ r ∈ rs, M r = none)
    (hl : M.le M') (q : Q (aintss ls) M) : Exit M Q (.ref a) M' := by
  have zf : ∀ b, decide (b = a ∨ b ∈ rs) = true → M b = none := fun b hb => (of_decide_eq_true hb).elim (fun e => e ▸ hf) (hf' b)
  refine ⟨fun x => decide (x = a ∨ x ∈ rs), 2, M, zf, hl, zf, ?_⟩
  have e1 : ∀ r l, r ∈ rs → M' r = some (iL l) → frz (fun x => decide (x = a ∨ x ∈ rs)) M' 1 (.ref r) = aints l := fun r l hm he => by
    show (if decide (r = a ∨ r ∈ rs) then (match M' r with | some (.list xs) => AV.lst (xs.map fun x => x) | _ => .ref r) else .ref r) = _
    rw [if_pos (decide_eq_true (.inr hm)), he]; exact congrArg AV.lst (List.map_id' _)
  have e : frz (fun x => decide (x = a ∨ x ∈ rs)) M' 2 (.ref a) = aintss ls := by
    show (if decide (a = a ∨ a ∈ rs) then (match M' a with | some (.list xs) => AV.lst (xs.map (frz (fun x => decide (x = a ∨ x ∈ rs)) M' 1)) | _ => .ref a) else .ref a) = _
    rw [if_pos (decide_eq_true (.inl rfl)), h]
    refine congrArg AV.lst (List.ext_getElem? fun i => ?_)
    rw [List.getElem?_map, List.getElem?_map, List.getElem?_map]
    cases e2 : rs[i]? with
    | none => rw [List.getElem?_eq_none (hn ▸ List.getElem?_eq_none_iff.mp e2)]; rfl
    | some r => obtain ⟨l, h1, h2⟩ := hr i r e2; rw [h1]; exact congrArg some (e1 r l (List.mem_of_getElem? e2) h2)
  rw [e]; exact q
end
noncomputable def isK (k : Int) (c : Int) : Bool := decide (c ≠ 0 ∧ Builtin.bitAnd c 7 = k)
noncomputable def isS (s : Int) (c : Int) : Bool := decide (c ≠ 0 ∧ c / 8 = s)
structure BW (l : Ls) : Prop where
  k : ∀ k : Int, 1 ≤ k → k < 7 → gz l.kinds k = (bb (isK k) l.cells : Nat)
  s : ∀ s : Int, 0 ≤ s → s < 2 → gz l.sides s = (bb (isS s) l.cells : Nat)
noncomputable def men (cells : List Int) (s k : Int) : Nat := cells.countP fun c => isK k c && isS s c
noncomputable def big (n : Int) : Int := if 1 < n then 1 else 0
noncomputable def cntRow (cells : List Int) (s : Int) : List Int := [big (men cells s 3), men cells s 1, men cells s 2, men cells s 3, men cells s 4, men cells s 5]
section
variable {M X : Mem} {g : Geo} {z : AV} {a : Ad} {l : Ls} {c : Sc} {n : Nat} {Q : AV → Mem → Prop} {G : AV → Prop} {s k : Int} {N B : List AV → Mem → Prop} {R : AV → Mem → Prop}
theorem C_count_of (r : Rd M g.av z a l c) (v : V n l) (w : BW l) (hs : 0 ≤ s ∧ s < 2) (hk : 1 ≤ k ∧ k < 7) (q : Q (.int (men l.cells s k : Nat)) M) : t_count_of [.inst 2 a.d, .int s, .int k] M Q := by
  refine fnT.gs u_count_of rfl <| atI (c := 2) r.d rfl <| subI r.k (v.k.symm ▸ ⟨by omega, by omega⟩) <| atI (c := 2) r.d rfl <| subI r.s (v.s.symm ▸ ⟨by omega, by omega⟩) ?_
  rw [w.k k hk.1 hk.2, w.s s hs.1 hs.2]
  refine show t_count_bits [.int (Builtin.bitAnd _ _)] M _ from ?_
  rw [bitAnd_nat, bb_and]
  refine C_count_bits (XR.mk ?_)
  rw [pc_bb]
  exact q
end
end Vg
end
section
set_option autoImplicit false
set_option linter.all false
namespace Vg
open PySem PySem.W PyProof.Rows
noncomputable def isF (f : Int → Int) (k c : Int) : Bool := decide (c ≠ 0 ∧ f c = k)
section
variable {P : Int → Bool} {l : List Int} {s t x : Int} {i j : Nat}
theorem bbs (h : i < l.length) : (bb P (l.set i x)).testBit j = if j = i then P x else (bb P l).testBit j := by
  rw [bb_bit, bb_bit, List.getElem?_set]
  by_cases q : i = j
  · rw [if_pos q, if_pos h, if_pos q.symm]; rfl
  · rw [if_neg q, if_neg (Ne.symm q)]
theorem bb_at (h : Ix s l.length) : (bb P l).testBit s.toNat = P (gz l s) := by
  rw [bb_bit, List.getElem?_eq_getElem h.2]
  unfold gz
  rw [List.getD_eq_getElem?_getD, List.getElem?_eq_getElem h.2]; rfl
theorem bb_same (h : Ix s l.length) (e : P x = P (gz l s)) : bb P (sz l s x) = bb P l := by
  refine Nat.eq_of_testBit_eq fun j => ?_
  unfold sz
  rw [bbs h.2]
  by_cases q : j = s.toNat
  · rw [if_pos q, q, bb_at h, e]
  · rw [if_neg q]
theorem bb_or (h : Ix s l.length) (e : P x = true) : bb P (sz l s x) = bb P l ||| 2 ^ s.toNat := by
  refine Nat.eq_of_testBit_eq fun j => ?_
  unfold sz
  rw [bbs h.2, Nat.testBit_or, Nat.testBit_two_pow]
  by_cases q : j = s.toNat
  · rw [if_pos q, e, decide_eq_true q.symm, Bool.or_true]
  · rw [if_neg q, decide_eq_false (Ne.symm q), Bool.or_false]
theorem bb_xor (h : Ix s l.length) (e : P x = !P (gz l s)) : bb P (sz l s x) = bb P l ^^^ 2 ^ s.toNat := by
  refine Nat.eq_of_testBit_eq fun j => ?_
  unfold sz
  rw [bbs h.2, Nat.testBit_xor, Nat.testBit_two_pow]
  by_cases q : j = s.toNat
  · rw [if_pos q, e, decide_eq_true q.symm, Bool.xor_true, q, bb_at h]
  · rw [if_neg q, decide_eq_false (Ne.symm q), Bool.xor_false]
theorem or_xor {i j : Nat} (h : i ≠ j) : 2 ^ i ||| 2 ^ j = 2 ^ i ^^^ 2 ^ j := by
  refine Nat.eq_of_testBit_eq fun k => ?_
  rw [Nat.testBit_or, Nat.testBit_xor, Nat.testBit_two_pow, Nat.testBit_two_pow]
  by_cases q : i = k
  · rw [decide_eq_true q, decide_eq_false (fun e => h (q.trans e.symm))]; rfl
  · rw [decide_eq_false q]; cases decide (j = k) <;> rfl
theorem bit_nat : bit s = ((2 ^ s.toNat : Nat) : Int) := by unfold bit; rw [Int.one_mul]; push_cast; rfl
end
section
variable {f : Int → Int} {cells ms : List Int} {s t x k : Int}
theorem isF_t {c : Int} (h : c ≠ 0) (e : k = f c) : isF f k c = true := decide_eq_true ⟨h, e.symm⟩
theorem isF_n {c : Int} (e : k ≠ f c) : isF f k c = false := decide_eq_false fun q => e q.2.symm
theorem isF_0 : isF f k 0 = false := decide_eq_false fun q => q.1 rfl
theorem bb_put (hs : Ix s cells.length) (hx : x ≠ 0) (h0 : gz cells s = 0) (hi : Ix (f x) ms.length) (hk : 0 ≤ k) (e : gz ms k = (bb (isF f k) cells : Nat)) : gz (sz ms (f x) (Builtin.bitOr (gz ms (f x)) (bit s))) k = (bb (isF f k) (sz cells s x) : Nat) := by
  rw [gz_sz hi hk]
  by_cases q : k = f x
  · rw [if_pos q, ← q, e, bit_nat, bitOr_nat, bb_or hs (isF_t hx q)]
  · rw [if_neg q, e, bb_same hs (by rw [h0, isF_n q, isF_0])]
theorem bb_take (hs : Ix s cells.length) (h0 : gz cells s ≠ 0) (hi : Ix (f (gz cells s)) ms.length) (hk : 0 ≤ k) (e : gz ms k = (bb (isF f k) cells : Nat)) : gz (sz ms (f (gz cells s)) (Builtin.bitXor (gz ms (f (gz cells s))) (bit s))) k = (bb (isF f k) (sz cells s 0) : Nat) := by
  rw [gz_sz hi hk]
  by_cases q : k = f (gz cells s)
  · rw [if_pos q, ← q, e, bit_nat, bitXor_nat, bb_xor hs (by rw [isF_0, isF_t h0 q]; rfl)]
  · rw [if_neg q, e, bb_same hs (by rw [isF_n q, isF_0])]
theorem bb_shift (hs : Ix s cells.length) (ht : Ix t cells.length) (hst : t ≠ s) (h0 : gz cells s ≠ 0) (h1 : gz cells t = 0) (hi : Ix (f (gz cells s)) ms.length) (hk : 0 ≤ k) (e : gz ms k = (bb (isF f k) cells : Nat)) :
    gz (sz ms (f (gz cells s)) (Builtin.bitXor (gz ms (f (gz cells s))) (bits2 s t))) k = (bb (isF f k) (sz (sz cells s 0) t (gz cells s)) : Nat) := by
  have e1 : gz (sz cells s 0) t = 0 := by rw [gz_sz hs ht.1, if_neg hst, h1]
  have ht' : Ix t (sz cells s 0).length := ixz ht
  rw [gz_sz hi hk]
  by_cases q : k = f (gz cells s)
  · unfold bits2
    rw [if_pos q, ← q, e, bit_nat, bit_nat, bitOr_nat, bitXor_nat, bb_xor ht' (by rw [e1, isF_0, isF_t h0 q]; rfl), bb_xor hs (by rw [isF_0, isF_t h0 q]; rfl), Nat.xor_assoc, or_xor fun z => hst (by have := hs.1; have := ht.1; lia)]
  · rw [if_neg q, e, bb_same ht' (by rw [e1, isF_n q, isF_0]), bb_same hs (by rw [isF_n q, isF_0])]
end
section
variable {n : Nat} {l : Ls} {s t x : Int}
theorem BW.put (w : BW l) (v : V n l) (hs : Ix s n) (hx : okc x) (hn : x ≠ 0) (h0 : gz l.cells s = 0) : BW (l.put s x) :=
  ⟨fun k h1 h2 => bb_put (f := fun c => Builtin.bitAnd c 7) (v.c.symm ▸ hs) hn h0 (v.k.symm ▸ hx.2.1) (Int.le_trans (by decide) h1) (w.k k h1 h2), fun k h1 h2 => bb_put (f := fun c => c / 8) (v.c.symm ▸ hs) hn h0 (v.s.symm ▸ hx.2.2) h1 (w.s k h1 h2)⟩
theorem BW.take (w : BW l) (v : V n l) (hs : Ix s n) (h0 : gz l.cells s ≠ 0) : BW (l.take s (gz l.cells s)) :=
  ⟨fun k h1 h2 => bb_take (f := fun c => Builtin.bitAnd c 7) (v.c.symm ▸ hs) h0 (v.k.symm ▸ v.at.2.1) (Int.le_trans (by decide) h1) (w.k k h1 h2), fun k h1 h2 => bb_take (f := fun c => c / 8) (v.c.symm ▸ hs) h0 (v.s.symm ▸ v.at.2.2) h1 (w.s k h1 h2)⟩
theorem BW.shift (w : BW l) (v : V n l) (hs : Ix s n) (ht : Ix t n) (hst : t ≠ s) (h0 : gz l.cells s ≠ 0) (h1 : gz l.cells t = 0) : BW (l.shift s t (gz l.cells s)) :=
  ⟨fun k h2 h3 => bb_shift (f := fun c => Builtin.bitAnd c 7) (v.c.symm ▸ hs) (v.c.symm ▸ ht) hst h0 h1 (v.k.symm ▸ v.at.2.1) (Int.le_trans (by decide) h2) (w.k k h2 h3), fun k h2 h3 => bb_shift (f := fun c => c / 8) (v.c.symm ▸ hs) (v.c.symm ▸ ht) hst h0 h1 (v.s.symm ▸ v.at.2.2) h2 (w.s k h2 h3)⟩
end
section
variable {M X : Mem} {g : Geo} {z : AV} {a : Ad} {l : Ls} {c : Sc} {n : Nat} {Q : AV → Mem → Prop} {s : Int} {N B : List AV → Mem → Prop} {R : AV → Mem → Prop} {o : Addr} {ys : List AV} {v3 v4 : AV}
theorem nle {a b : Nat} (h : Nat.ble a b = true) : a ≤ b := Nat.le_of_ble_eq_true h
theorem six {b : Addr} {X : Mem} {x0 x1 x2 x3 x4 x5 v : Int} {P : Mem → Prop} (q : P (X.set b (iL [v, x1, x2, x3, x4, x5]))) : setSubP (X.set b (iL [x0, x1, x2, x3, x4, x5])) (.ref b) (.int 0) (.int v) P :=
  ⟨_, Mem.set_self _ _ _, Int.le_refl 0, (by decide : 0 < 6), (Mem.set_set X b _ _).symm ▸ q⟩
theorem cnt_row (r : Rd X g.av z a l c) (v : V n l) (w : BW l) (hs : 0 ≤ s ∧ s < 2) (hf : X o = none) (hl : ys.length ≤ 1000)
    (q : ∀ b, b ≠ o → X b = none → ∀ v4, N [.inst 2 a.d, .ref o, .int s, .ref b, v4] ((X.set b (iL (cntRow l.cells s))).set o (.list (ys ++ [.ref b])))) :
    w_counts_of_2 [.inst 2 a.d, .ref o, .int s, v3, v4] (X.set o (.list ys)) N B R := by
  refine .intro (by decide) fun b hb => forP.of ?_
  have hob : o ≠ b := fun e => by subst e; rw [Mem.set_self] at hb; cases hb
  have hXb : X b = none := by rw [← hb, Mem.set_ne _ _ hob.symm]
  have tail : ∀ v, big (men l.cells s 3) = v → (St.seq (.exp (.me .append (.v 1) (.v 3))) .nop) [.inst 2 a.d, .ref o, .int s, .ref b, .int 5] (((X.set o (.list ys)).set b (iL [v, men l.cells s 1, men l.cells s 2, men l.cells s 3, men l.cells s 4, men l.cells s 5]))) N B R := by
    intro v hv
    subst hv
    rw [Mem.set_comm X _ _ hob]
    exact .intro ⟨_, Mem.set_self _ _ _, trivial⟩ <| appS (Q := fun v M => dropP v ∧ N _ M) (v := .ref b) (Nat.le_trans hl (by decide)) <| .intro trivial <| q b hob.symm hXb _
  have r' : ∀ xs, Rd ((X.set o (.list ys)).set b xs) g.av z a l c := fun xs => (r.le (Mem.le_set hf)).le (Mem.le_set hb)
  have pb : ∀ {xs : List AV}, listP ((X.set o (.list ys)).set b (.list xs)) (.ref b) fun zz => True := ⟨_, Mem.set_self _ _ _, trivial⟩
  refine .intro pb <| C_count_of (r' _) v w hs (by decide) <| appS (nle rfl) <| .intro trivial <| .intro trivial <| .intro pb <| C_count_of (r' _) v w hs (by decide) <| appS (nle rfl) <| .intro trivial <| .intro trivial <| .intro pb <| C_count_of (r' _) v w hs (by decide) <| appS (nle rfl) <| .intro trivial <| .intro trivial <|
    .intro pb <| C_count_of (r' _) v w hs (by decide) <| appS (nle rfl) <| .intro trivial <| .intro trivial <| .intro pb <| C_count_of (r' _) v w hs (by decide) <| appS (nle rfl) <| .intro trivial <| .intro trivial <| subX (Mem.set_self _ _ _) (by decide : (0 : Int) ≤ 3) rfl <| .intro (fun h => six <| tail _ (if_pos h)) fun h => six <| tail _ (if_neg h)
theorem C_counts_of {M : Mem} (r : Rd M g.av z a l c) (v : V n l) (w : BW l) (q : Q (aintss [cntRow l.cells 0, cntRow l.cells 1]) M) : t_counts_of [.inst 2 a.d] M Q := by
  refine fnT.gs u_counts_of rfl <| .intro (by decide) fun o ho => forP.of <| cnt_row r v w (by decide) ho (by decide) fun b hb hbf v4 => .intro trivial ?_
  have h1 := Mem.le_set (o := iL (cntRow l.cells 0)) hbf
  have ho' : (M.set b (iL (cntRow l.cells 0))) o = none := (Mem.set_ne _ _ hb.symm).trans ho
  refine cnt_row (r.le h1) v w (by decide) ho' (nle rfl) fun b' hb' hbf' v4 => .intro trivial <| ?_
  have hbb : b ≠ b' := fun e => by subst e; rw [Mem.set_self] at hbf'; cases hbf'
  have e1 : M b' = none := (Mem.set_ne _ _ hbb.symm).symm.trans hbf'
  have h2 := h1.trans (Mem.le_set (o := iL (cntRow l.cells 1)) hbf')
  refine Exit.ll (rs := [b, b']) (ls := [cntRow l.cells 0, cntRow l.cells 1]) (Mem.set_self _ _ _) (fun i r e => ?_) rfl ho (fun r hr => ?_) (h2.trans (Mem.le_set ((Mem.set_ne _ _ hb'.symm).trans ho'))) q
  · match i, e with
    | 0, e => cases e; exact ⟨_, rfl, (Mem.set_ne _ _ hb).trans ((Mem.set_ne _ _ hbb).trans (Mem.set_self _ _ _))⟩
    | 1, e => cases e; exact ⟨_, rfl, (Mem.set_ne _ _ hb').trans (Mem.set_self _ _ _)⟩
  · rcases List.mem_cons.mp hr with rfl | hr
    · exact hbf
    · rw [List.mem_singleton.mp hr]; exact e1
end
end Vg
end
section
set_option autoImplicit false
set_option linter.all false
namespace Vg
open PySem PySem.W PyProof.Rows
inductive LI (M : Mem) (ns : List Int) : AV → Prop
  | lst : LI M ns (aints ns)
  | ref {a : Addr} (h : M a = some (iL ns)) : LI M ns (.ref a)
section
variable {M M' : Mem} {ns : List Int} {x : AV} {i : Int} {G : AV → Prop} {L : List AV → Prop}
theorem LI.le (h : LI M ns x) (l : M.le M') : LI M' ns x := match h with
  | .lst => .lst
  | .ref h => .ref (l _ _ h)
theorem LI.d (h : LI M ns x) (q : G x) : defd x G := match h with
  | .lst => q
  | .ref _ => q
theorem LI.sub (h : LI M ns x) (hi : Ix i ns.length) (q : G (.int (gz ns i))) : subP M x (.int i) G := match h with
  | .lst => subL hi q
  | .ref h => subI h hi q
theorem LI.seq (h : LI M ns x) (q : L (ns.map .int)) : seqP M x L := match h with
  | .lst => q
  | .ref h => ⟨_, h, q⟩
theorem LI.list (h : LI M ns x) (q : L (ns.map .int)) : listP M x L := match h with
  | .lst => q
  | .ref h => ⟨_, h, q⟩
end
theorem rwG {t : List (List Int)} {p : Int} (h : Ix p t.length) : (t.map aints)[p.toNat]? = some (aints (rw_ t p)) := by
  have e := List.getElem?_eq_getElem h.2
  unfold rw_
  rw [List.getD_eq_getElem?_getD, List.getElem?_map, e]; rfl
noncomputable def imbK (own foe : List Int) (k : Nat) : Int := sumN (fun j => gz (rw_ ownWeights k) j * gz own j + gz (rw_ foeWeights k) j * gz foe j) (k + 1)
noncomputable def imbT (own foe : List Int) (k : Nat) : Int := if gz own k ≠ 0 then gz own k * imbK own foe k else 0
noncomputable def imbV (own foe : List Int) : Int := sumN (imbT own foe) 6
theorem w_ok : ∀ k : Fin 6, ((rw_ ownWeights k).length = k + 1 ∧ (rw_ foeWeights k).length = k + 1) ∧ ∀ j : Fin 6, decide (-1000000 ≤ gz (rw_ ownWeights k) j ∧ gz (rw_ ownWeights k) j ≤ 1000000) = true ∧ decide (-1000000 ≤ gz (rw_ foeWeights k) j ∧ gz (rw_ foeWeights k) j ≤ 1000000) = true := by decide +kernel
theorem ixN {i n : Nat} (h : i < n) : Ix (i : Int) n := ⟨Int.natCast_nonneg i, h⟩
theorem imbT1 {own foe : List Int} {k : Nat} {t : Int} (h : gz own k ≠ 0) : t + gz own k * imbK own foe k = t + imbT own foe k := by unfold imbT; rw [if_pos h]
theorem imbT0 {own foe : List Int} {k : Nat} {t : Int} (h : ¬ gz own k ≠ 0) : t = t + imbT own foe k := by unfold imbT; rw [if_neg h, Int.add_zero]
section
variable {M : Mem} {Q : AV → Mem → Prop} {x y z : AV} {s t : Int} {own foe : List Int} {k : Nat} {v7 : AV} {N B : List AV → Mem → Prop} {R : AV → Mem → Prop}
theorem imb_in (ho : LI M own x) (hf : LI M foe y) (lo : own.length = 6) (lf : foe.length = 6) (hk : k < 6) {v4 v7 : AV} (q : ∀ v7, N [z, .int s, x, y, v4, .int k, .int (imbK own foe k), v7] M) :
    forP (.v 7) w_imbalance_1 (.rng 0 ((k : Int) + 1) 1) (rngL 0 ((k : Int) + 1) 1) [z, .int s, x, y, v4, .int k, .int 0, v7] M N R := by
  have w := w_ok ⟨k, hk⟩
  refine for0 (fun i m M' => ∃ v7, m = [z, .int s, x, y, v4, .int k, .int (sumN (fun j => gz (rw_ ownWeights k) j * gz own j + gz (rw_ foeWeights k) j * gz foe j) i), v7] ∧ M' = M) ⟨_, rfl, rfl⟩ ?_ ?_
  · rintro i _ _ hi ⟨v7, rfl, rfl⟩
    have hi' : i < k + 1 := hi.2
    have i6 : i < 6 := Nat.lt_of_lt_of_le hi' hk
    have w2 := w.2 ⟨i, i6⟩
    exact subF (ixN hk).1 (rwG (ixN hk)) <| subL (ixN (w.1.1.symm ▸ hi')) <| ho.d <| ho.sub (ixN (lo.symm ▸ i6)) <| .intro (smc w2.1) <|
      subF (ixN hk).1 (rwG (ixN hk)) <| subL (ixN (w.1.2.symm ▸ hi')) <| hf.d <| hf.sub (ixN (lf.symm ▸ i6)) <| .intro (smc w2.2) <| .intro trivial ⟨_, rfl, rfl⟩
  · rintro _ _ hh
    refine go1 fun G hG => ?_
    obtain ⟨v7, rfl, rfl⟩ := hh
    refine hG ?_
    exact q v7
structure Sel (M : Mem) (x : AV) (s : Int) (l : List Int) : Prop where
  d : ∀ {G : AV → Prop}, G x → defd x G
  at_ : ∃ y, LI M l y ∧ ∀ {G : AV → Prop}, G y → subP M x (.int s) G
theorem Sel.f' {a : Addr} {y0 y1 : AV} {l : List Int} (e : M a = some (.list [y0, y1])) (h : LI M l y0) : Sel M (.ref a) 0 l := ⟨fun q => q, _, h, fun q => subX e (Int.le_refl 0) rfl q⟩
theorem Sel.g' {a : Addr} {y0 y1 : AV} {l : List Int} (e : M a = some (.list [y0, y1])) (h : LI M l y1) : Sel M (.ref a) 1 l := ⟨fun q => q, _, h, fun q => subX e (by decide : (0 : Int) ≤ 1) rfl q⟩
theorem okr15 {k : Int} (h0 : 0 ≤ k) (h : k ≤ 100) : okR k := ⟨Int.le_trans (by decide) h0, Int.le_trans h (by decide)⟩
inductive ImI (own foe : List Int) (x y z : AV) (s : Int) (M : Mem) (i : Nat) : List AV → Mem → Prop
  | mk (t : Int) (v6 v7 v8 : AV) (e : t = sumN (imbT own foe) i) : ImI own foe x y z s M i [x, .int s, y, z, .int t, v6, v7, v8] M
theorem C_imbalance (ho : Sel M x s own) (hf : Sel M x (1 - s) foe) (lo : own.length = 6) (lf : foe.length = 6) (hb : ∀ k : Nat, sm (gz own k)) (q : Q (.int (imbV own foe)) M) : t_imbalance [x, .int s] M Q := by
  obtain ⟨y, hy, gy⟩ := ho.at_
  obtain ⟨z, hz, gz'⟩ := hf.at_
  refine fnT.gs u_imbalance rfl <| ho.d <| gy <| ho.d <| gz' <| .intro (okr15 (by decide) (by decide)) <|
    for0 (ImI own foe x y z s M) ⟨_, _, _, _, rfl⟩ ?_ ?_
  · rintro i _ _ hi ⟨t, v6, v7, v8, rfl⟩
    have h6 : i < 6 := hi.2
    refine hy.d <| hy.sub (ixN (lo.symm ▸ h6)) <| .intro (fun h => .intro (okr15 (by omega) (by omega)) <| imb_in hy hz lo lf h6 fun v7 => hy.d <| hy.sub (ixN (lo.symm ▸ h6)) <| .intro (hb i) <| .intro trivial ⟨_, _, _, _, imbT1 h⟩) fun h => .intro trivial ⟨_, _, _, _, imbT0 h⟩
  · rintro _ _ ⟨t, v6, v7, v8, rfl⟩
    exact XR.mk q
noncomputable def absI (a : Int) : Int := if a < 0 then -a else a
noncomputable def divV (a : Int) : Int := if a < 0 then -(absI a / 16) else absI a / 16
theorem C_divide (q : Q (.int (divV t)) M) : t_divide [.int t, .int 16] M Q := by
  unfold divV at q
  refine fnT.gs u_divide rfl <| .intro (by decide) <| .intro (by decide) <| fun u hu w hw => .intro (fun h => XR.mk ?_) fun h => XR.mk ?_
  · have : w = false := Bool.eq_false_iff.mpr fun e => absurd (hw.mp e) (by decide)
    subst this
    rw [if_pos (hu.mp (Bool.ne_false_iff.mp h))] at q; exact q
  · have : w = false := Bool.eq_false_iff.mpr fun e => absurd (hw.mp e) (by decide)
    subst this
    rw [if_neg fun e => h fun z => absurd (hu.mpr e) (by rw [z]; decide)] at q; exact q
theorem C_imbalance_value (ho : Sel M x 0 own) (hf : Sel M x 1 foe) (lo : own.length = 6) (lf : foe.length = 6) (hb : ∀ k : Nat, sm (gz own k)) (hb' : ∀ k : Nat, sm (gz foe k)) (q : Q (.int (divV (imbV own foe - imbV foe own))) M) : t_imbalance_value [x] M Q :=
  fnT.gs u_imbalance_value rfl <| ho.d <| C_imbalance ho hf lo lf hb <| ho.d <| C_imbalance hf ho lf lo hb' <| C_divide <| XR.mk q
end
end Vg
end
section
set_option autoImplicit false
set_option linter.all false
namespace Vg
open PySem PySem.W PyProof.Rows
noncomputable def prt (F : Nat → Int) (n i : Nat) : List Int := (List.range n).map fun s => if s < i then F s else 0
noncomputable def sgn (p : Int) : Int := if p / 8 = 0 then 1 else -1
noncomputable def rowF (f r p : Int) (s : Nat) : Int := sgn p * sqScore f r p s
noncomputable def rowV (f r p : Int) : List Int := prt (rowF f r p) (f * r).toNat (if 1 ≤ Builtin.bitAnd p 7 ∧ Builtin.bitAnd p 7 ≤ 6 then (f * r).toNat else 0)
noncomputable def tabN (f r : Int) (n : Nat) : List (List Int) := (List.range n).map fun (p : Nat) => rowV f r p
noncomputable def tabV (f r : Int) : List (List Int) := tabN f r 15
section
variable {F : Nat → Int} {n i : Nat}
theorem prt_len : (prt F n i).length = n := by unfold prt; rw [List.length_map, List.length_range]
theorem prt_step (h : i < n) : sz (prt F n i) i (F i) = prt F n (i + 1) := by
  refine List.ext_getElem? fun j => ?_
  unfold sz prt
  rw [List.getElem?_set, Int.toNat_natCast, List.length_map, List.length_range, List.getElem?_map, List.getElem?_map]
  by_cases q : i = j
  · subst q; rw [if_pos rfl, if_pos h, List.getElem?_range h]; exact congrArg some (if_pos (Nat.lt_succ_self _)).symm
  · rw [if_neg q]
    by_cases hj : j < n
    · rw [List.getElem?_range hj]
      refine congrArg some ?_
      by_cases hi : j < i
      · exact (if_pos hi).trans (if_pos (Nat.lt_succ_of_lt hi)).symm
      · exact (if_neg hi).trans (if_neg (fun z => q (Nat.le_antisymm (Nat.not_lt.mp hi) (Nat.le_of_lt_succ z)))).symm
    · rw [List.getElem?_eq_none (by rw [List.length_range]; exact Nat.not_lt.mp hj)]; rfl
theorem prt0 : prt F n 0 = List.replicate n 0 := by
  refine List.ext_getElem? fun j => ?_
  unfold prt
  rw [List.getElem?_map, List.getElem?_replicate]
  by_cases hj : j < n
  · rw [List.getElem?_range hj, if_pos hj]; rfl
  · rw [List.getElem?_eq_none (by rw [List.length_range]; exact Nat.not_lt.mp hj), if_neg hj]; rfl
theorem zeros {n : Nat} : (List.replicate n [AV.int 0]).flatten = (List.replicate n (0 : Int)).map .int := by
  induction n with
  | zero => rfl
  | succ n ih => rw [List.replicate_succ, List.replicate_succ, List.flatten_cons, List.map_cons, ih]; rfl
theorem tabN_succ {f r : Int} : tabN f r (n + 1) = tabN f r n ++ [rowV f r n] := by unfold tabN; rw [List.range_succ, List.map_append]; rfl
end
section
variable {M : Mem} {Q : AV → Mem → Prop} {j : Addr} {n : Int}
theorem mul0 (hj : M j = some (.list [.int 0])) (h0 : 0 ≤ n) (hn : n ≤ 1000) (q : ∀ r, M r = none → Q (.ref r) (M.set r (iL (List.replicate n.toNat 0)))) : binP M .mul (.ref j) (.int n) Q :=
  ⟨rfl, _, hj, (fun h => nomatch h), nle rfl, hn, Int.le_trans (by decide) h0, by rw [zeros, List.length_map, List.length_replicate]; lia, fun r hr => by rw [zeros]; exact q r hr⟩
end
structure Gr (M M' : Mem) (a : Addr) (rs : List Addr) (ls : List (List Int)) : Prop where
  le : M.le M'
  f : M a = none
  at_ : M' a = some (.list (rs.map .ref))
  len : rs.length = ls.length
  r : ∀ (i : Nat) (r : Addr), rs[i]? = some r → M r = none ∧ r ≠ a ∧ ∃ l, ls[i]? = some l ∧ M' r = some (iL l)
section
variable {M M' : Mem} {a b r : Addr} {rs : List Addr} {ls : List (List Int)} {l : List Int} {o : AO} {Q : AV → Mem → Prop}
theorem ne_of (e : M a = some o) (e' : M b = none) : b ≠ a := fun q => by rw [q, e] at e'; cases e'
theorem Gr.junk (G : Gr M M' a rs ls) (h : M' b = none) : Gr M (M'.set b o) a rs ls :=
  ⟨G.le.trans (Mem.le_set h), G.f, (Mem.set_ne _ _ (ne_of G.at_ h).symm).trans G.at_, G.len, fun i r e => let ⟨h1, h2, l, h3, h4⟩ := G.r i r e; ⟨h1, h2, l, h3, (Mem.set_ne _ _ (ne_of h4 h).symm).trans h4⟩⟩
theorem Gr.app (G : Gr M M' a rs ls) (h : M' r = none) : Gr M ((M'.set r (iL l)).set a (.list (rs.map .ref ++ [.ref r]))) a (rs ++ [r]) (ls ++ [l]) := by
  have ra := ne_of G.at_ h
  refine ⟨fun x o e => ?_, G.f, ?_, ?_, fun i x e => ?_⟩
  · have xa : x ≠ a := ne_of e G.f |>.symm
    have xr : x ≠ r := (ne_of (G.le _ _ e) h).symm
    rw [Mem.set_ne _ _ xa, Mem.set_ne _ _ xr]; exact G.le _ _ e
  · rw [Mem.set_self, List.map_append]; rfl
  · rw [List.length_append, List.length_append, G.len]; rfl
  · rw [List.getElem?_append] at e ⊢
    by_cases q : i < rs.length
    · rw [if_pos q] at e; rw [if_pos (G.len ▸ q)]
      obtain ⟨h1, h2, l', h3, h4⟩ := G.r i x e
      exact ⟨h1, h2, l', h3, (Mem.set_ne _ _ h2).trans ((Mem.set_ne _ _ (ne_of h4 h).symm).trans h4)⟩
    · rw [if_neg q] at e; rw [if_neg (G.len ▸ q), ← G.len]
      have e0 := e
      rw [List.getElem?_singleton] at e
      by_cases z : i - rs.length = 0
      · rw [if_pos z] at e; cases e
        exact ⟨G.le.none h, ra, l, by rw [z]; rfl, (Mem.set_ne _ _ ra).trans (Mem.set_self _ _ _)⟩
      · rw [if_neg z] at e; cases e
theorem Gr.end (G : Gr M M' a rs ls) (q : Q (aintss ls) M) : Exit M Q (.ref a) M' :=
  Exit.ll G.at_ (fun i r e => let ⟨_, _, l, h3, h4⟩ := G.r i r e; ⟨l, h3, h4⟩) G.len G.f (fun r hr => let ⟨i, e⟩ := List.getElem?_of_mem hr; (G.r i r e).1) G.le q
end
end Vg
end
section
set_option autoImplicit false
set_option linter.all false
namespace Vg
open PySem PySem.W PyProof.Rows
section
variable {M : Mem} {Q : AV → Mem → Prop} {g : Geo} {z : Za} {s : Int} {o : Addr} {v2 v3 v4 v5 : AV} {N B : List AV → Mem → Prop} {R : AV → Mem → Prop} {rs : List Addr} {ls : List (List Int)} {M' : Mem}
theorem smsgn {p : Int} : sm (sgn p) := by unfold sgn; split <;> exact smc rfl
theorem psqt_in (h : Sh g.f g.r) {p : Int} (hp : okc p) {r : Addr} {X : Mem} (q : ∀ v5, N [g.av, .ref o, .int p, .ref r, .int (sgn p), v5] (X.set r (iL (prt (rowF g.f g.r p) g.n g.n)))) :
    forP (.v 5) w_make_psqt_1 (.rng 0 (g.f * g.r) 1) (rngL 0 (g.f * g.r) 1) [g.av, .ref o, .int p, .ref r, .int (sgn p), v5] (X.set r (iL (prt (rowF g.f g.r p) g.n 0))) N R := by
  refine for0 (fun i m M' => ∃ v5, m = [g.av, .ref o, .int p, .ref r, .int (sgn p), v5] ∧ M' = X.set r (iL (prt (rowF g.f g.r p) g.n i))) ⟨_, rfl, rfl⟩ ?_ ?_
  · rintro i _ _ hi ⟨v5, rfl, rfl⟩
    refine C_square_score h hp hi <| .intro smsgn <| ?_
    refine setI (Mem.set_self _ _ _) (prt_len.symm ▸ hi) ?_
    rw [Mem.set_set]
    exact .intro trivial ⟨_, rfl, congrArg (fun l => X.set r (iL l)) (prt_step hi.2)⟩
  · rintro _ _ ⟨v5, rfl, rfl⟩
    exact q _
theorem psqt_row (h : Sh g.f g.r) (G : Gr M M' o rs ls) (hl : rs.length < 1000) {i : Nat} (hi : i < 15) (q : ∀ v3 v4 v5 r M'', Gr M M'' o (rs ++ [r]) (ls ++ [rowV g.f g.r i]) → N [g.av, .ref o, .int i, v3, v4, v5] M'') :
    w_make_psqt_2 [g.av, .ref o, .int i, v3, v4, v5] M' N B R := by
  refine .intro (nle rfl) fun j hj => gAt rfl <| mul0 (Mem.set_self _ _ _) (Int.le_trans (by decide) h.le.2.2.2.2) (Int.le_trans h.le.1 (by decide)) fun r hr => ?_
  rw [← prt0 (F := rowF g.f g.r i)]
  replace G := G.junk (o := .list [.int 0]) hj
  generalize M'.set j (.list [.int 0]) = X at G hr
  have fin : ∀ k v4 v5, rowV g.f g.r i = prt (rowF g.f g.r i) g.n k → St.seq (.exp (.me .append (.v 1) (.v 3))) .nop [g.av, .ref o, .int i, .ref r, v4, v5] (X.set r (iL (prt (rowF g.f g.r i) g.n k))) N B R := fun k v4 v5 e =>
    have hw := (Mem.set_ne X (iL (prt (rowF g.f g.r i) g.n k)) (ne_of G.at_ hr).symm).trans G.at_
    ⟨⟨_, hw, trivial⟩, _, hw, by rw [List.length_map]; omega, trivial, q _ _ _ r _ (e ▸ G.app hr)⟩
  have no : ∀ v4 v5, ¬ (1 ≤ Builtin.bitAnd i 7 ∧ Builtin.bitAnd i 7 ≤ 6) → St.seq (.exp (.me .append (.v 1) (.v 3))) .nop [g.av, .ref o, .int i, .ref r, v4, v5] (X.set r (iL (prt (rowF g.f g.r i) g.n 0))) N B R := fun v4 v5 e => fin 0 _ _ (by unfold rowV; rw [if_neg e]; rfl)
  refine C_kind_of <| .intro (fun h1 => .intro (fun h2 => ?_) fun h2 => no _ _ fun e => h2 e.2) fun h1 => iN id <| no _ _ fun e => h1 e.1
  have hp : okc (i : Int) := ⟨ixN hi, ⟨by lia, by omega⟩, ⟨by lia, by omega⟩⟩
  have tl : ∀ t, sgn i = t → (St.seq (.for (.v 5) (.bi .range [(.at (.v 0) 2)]) w_make_psqt_1) .nop) [g.av, .ref o, .int i, .ref r, .int t, v5] (X.set r (iL (prt (rowF g.f g.r i) g.n 0))) (fun m M => St.seq (.exp (.me .append (.v 1) (.v 3))) .nop m M N B R) B R := fun t e => by
    subst e
    exact gAt rfl <| .intro (okr h) <| psqt_in h hp fun v5 => fin g.n _ _ (by unfold rowV; rw [if_pos ⟨h1, h2⟩]; rfl)
  exact C_side_of <| .intro (fun h3 => tl _ (if_pos h3)) fun h3 => tl _ (if_neg h3)
inductive PtI (M : Mem) (o : Addr) (g : Geo) (i : Nat) : List AV → Mem → Prop
  | mk (v2 v3 v4 v5 : AV) (rs : List Addr) (M' : Mem) (e : rs.length = i) (G : Gr M M' o rs (tabN g.f g.r i)) : PtI M o g i [g.av, .ref o, v2, v3, v4, v5] M'
theorem C_make_psqt (h : Sh g.f g.r) (q : Q (aintss (tabV g.f g.r)) M) : t_make_psqt [g.av] M Q := by
  refine fnT.gs u_make_psqt rfl <| .intro (nle rfl) fun o ho => .intro (okr15 (by decide) (by decide)) <| for0 (PtI M o g) ⟨_, _, _, _, [], _, rfl, Mem.le_set ho, ho, Mem.set_self _ _ _, rfl, fun i r e => nomatch e⟩ ?_ ?_
  · rintro i _ _ hi ⟨v2, v3, v4, v5, rs, M', rfl, G⟩
    exact psqt_row h G (Nat.lt_trans hi.2 (by decide)) hi.2 fun v3 v4 v5 r M'' G => .intro trivial ⟨_, _, _, _, _, _, by rw [List.length_append]; rfl, tabN_succ ▸ G⟩
  · rintro _ _ hh
    refine go1 fun G hG => ?_
    obtain ⟨v2, v3, v4, v5, rs, M', e, G⟩ := hh
    refine hG ?_
    exact G.end q
end
end Vg
end
section
set_option autoImplicit false
set_option linter.all false
namespace Vg
open PySem PySem.W PyProof.Rows
noncomputable def afterV (f : Int) (cells : List Int) (o t sp pr : Int) : List Int :=
  let c1 := sz (sz cells t (if sp ≠ 1 then gz cells o else gz cells o - 1 + pr)) o 0
  let c2 := if sp = 2 then sz c1 (o - o % f + t % f) 0 else c1
  if sp = 3 then sz (sz c2 (t + 1) (gz c2 (t - 1))) (t - 1) 0 else c2
noncomputable def quad (m : Int × Int × Int × Int) : AV := .tup [.int m.1, .int m.2.1, .int m.2.2.1, .int m.2.2.2]
section
variable {M X : Mem} {Q : AV → Mem → Prop} {N B : List AV → Mem → Prop} {R : AV → Mem → Prop} {G : Mem → Prop} {f o t sp pr i v : Int} {cells l c : List Int} {a : Addr} {v1 v2 : AV}
theorem setS (hi : Ix i l.length) (q : G (X.set a (iL (sz l i v)))) : setSubP (X.set a (iL l)) (.ref a) (.int i) (.int v) G := setI (Mem.set_self _ _ _) hi ((Mem.set_set X a (iL l) _).symm ▸ q)
theorem subS {G : AV → Prop} (hi : Ix i l.length) (q : G (.int (gz l i))) : subP (X.set a (iL l)) (.ref a) (.int i) G := subI (Mem.set_self _ _ _) hi q
noncomputable abbrev an (f : Int) (v1 v2 : AV) (o t sp pr : Int) (a : Addr) : List AV := [.int f, v1, v2, .int o, .int t, .int sp, .int pr, .ref a]
theorem af6 (ha : M a = none) (q : Q (aints l) M) : q_law_after_6 (an f v1 v2 o t sp pr a) (M.set a (iL l)) N B (XR M Q) := Exit.l (Mem.set_self _ _ _) ha (Mem.le_set ha) q
theorem af5 (ha : M a = none) (h3 : sp = 3 → Ix (t + 1) l.length ∧ Ix (t - 1) l.length) (q : ∀ c, (if sp = 3 then sz (sz l (t + 1) (gz l (t - 1))) (t - 1) 0 else l) = c → Q (aints c) M) : q_law_after_5 (an f v1 v2 o t sp pr a) (M.set a (iL l)) N B (XR M Q) :=
  .intro (fun h => subS (h3 h).2 <| setS (h3 h).1 <| setS (ixz (h3 h).2) <| af6 ha <| q _ (if_pos h)) fun h => af6 ha <| q _ (if_neg h)
theorem af4 (ha : M a = none) (hf : 0 < f) (h2 : sp = 2 → Ix (o - o % f + t % f) l.length) (h3 : sp = 3 → Ix (t + 1) l.length ∧ Ix (t - 1) l.length)
    (q : ∀ c d, (if sp = 2 then sz l (o - o % f + t % f) 0 else l) = c → (if sp = 3 then sz (sz c (t + 1) (gz c (t - 1))) (t - 1) 0 else c) = d → Q (aints d) M) : q_law_after_4 (an f v1 v2 o t sp pr a) (M.set a (iL l)) N B (XR M Q) :=
  .intro (fun h => .intro hf <| .intro hf <| setS (h2 h) <| af5 ha (fun h => ⟨ixz (h3 h).1, ixz (h3 h).2⟩) fun d => q _ d (if_pos h)) fun h => af5 ha h3 fun d => q _ d (if_neg h)
theorem C_after (hf : 0 < f) (hn : cells.length ≤ 1000) (ho : Ix o cells.length) (ht : Ix t cells.length) (h2 : sp = 2 → Ix (o - o % f + t % f) cells.length) (h3 : sp = 3 → Ix (t + 1) cells.length ∧ Ix (t - 1) cells.length)
    (q : Q (aints (afterV f cells o t sp pr)) M) : t_law_after [.int f, aints cells, quad (o, t, sp, pr)] M Q := by
  have key : ∀ a x, M a = none → (if sp ≠ 1 then gz cells o else gz cells o - 1 + pr) = x → q_law_after_3 (an f (aints cells) (quad (o, t, sp, pr)) o t sp pr a) (M.set a (iL (sz cells t x))) (XN M Q) XB (XR M Q) := fun a x ha e =>
    setS (ixz ho) <| af4 ha hf (fun h => ixz (ixz (h2 h))) (fun h => ⟨ixz (ixz (h3 h).1), ixz (ixz (h3 h).2)⟩) fun c d e1 e2 => by subst e e1 e2; exact q
  exact fnT.gs u_law_after rfl <| .intro rfl <| .intro (by rw [List.length_map]; exact Nat.le_trans hn (by decide)) fun a ha => .intro (fun h => subS ho <| setS ht <| key a _ ha (if_pos h)) fun h => subS ho <| setS ht <| key a _ ha (if_neg h)
end
end Vg
end
section
set_option autoImplicit false
set_option linter.all false
namespace Vg
open PySem PySem.W PyProof.Rows
inductive LA (M : Mem) (xs : List AV) : AV → Prop
  | lst : LA M xs (.lst xs)
  | ref {a : Addr} (h : M a = some (.list xs)) : LA M xs (.ref a)
section
variable {M M' : Mem} {xs : List AV} {x : AV} {G : AV → Prop} {L : List AV → Prop}
theorem LA.le (h : LA M xs x) (l : M.le M') : LA M' xs x := match h with
  | .lst => .lst
  | .ref h => .ref (l _ _ h)
theorem LA.d (h : LA M xs x) (q : G x) : defd x G := match h with
  | .lst => q
  | .ref _ => q
theorem LA.it (h : LA M xs x) (q : L xs) : itemsP M x L := match h with
  | .lst => q
  | .ref h => ⟨_, h, q⟩
theorem LA.still (h : LA M xs x) : stillP M x xs := match h with
  | .lst => trivial
  | .ref h => h
theorem LI.la {ns : List Int} (h : LI M ns x) : LA M (ns.map .int) x := match h with
  | .lst => .lst
  | .ref h => .ref h
end
noncomputable def waysV (kind up : Int) : List (Int × Int) :=
  if kind < 5 then (if kind = 0 then [] else if kind = 1 then [(-1, up), (1, up)] else if kind = 2 then jumpL else if kind = 3 then slantL else straightL) else straightL ++ slantL
noncomputable def rayV (f r : Int) (cells : List Int) (kind df dr : Int) (n : Nat) : Int → Int → List Int :=
  Nat.rec (motive := fun _ => Int → Int → List Int) (fun _ _ => []) (fun _ ih x y => if (0 ≤ x ∧ x < f) ∧ (0 ≤ y ∧ y < r) then
      (if kind < 3 ∨ kind = 6 ∨ gz cells (y * f + x) ≠ 0 then [y * f + x] else (y * f + x) :: ih (x + df) (y + dr)) else []) n
theorem rayV_s {f r : Int} {cells : List Int} {kind df dr : Int} {n : Nat} {x y : Int} : rayV f r cells kind df dr (n + 1) x y = if (0 ≤ x ∧ x < f) ∧ (0 ≤ y ∧ y < r) then
      (if kind < 3 ∨ kind = 6 ∨ gz cells (y * f + x) ≠ 0 then [y * f + x] else (y * f + x) :: rayV f r cells kind df dr n (x + df) (y + dr)) else [] := rfl
noncomputable def raysV (f r : Int) (cells : List Int) (kind s : Int) (ws : List (Int × Int)) : List Int := (ws.map fun w => rayV f r cells kind w.1 w.2 8 (s % f + w.1) (s / f + w.2)).flatten
noncomputable def goalsV (f r : Int) (cells : List Int) (s : Int) : List Int := raysV f r cells (gz cells s % 8) s (waysV (gz cells s % 8) (1 - gz cells s / 8 * 2))
noncomputable def mu (f r df dr x y : Int) : Int := if 0 < df then f - x else if df < 0 then x + 1 else if 0 < dr then r - y else y + 1
structure Way (w : Int × Int) : Prop where
  a : -2 ≤ w.1 ∧ w.1 ≤ 2
  b : -2 ≤ w.2 ∧ w.2 ≤ 2
  n : w.1 ≠ 0 ∨ w.2 ≠ 0
theorem way_of {l : List (Int × Int)} (h : (l.all fun w => decide ((-2 ≤ w.1 ∧ w.1 ≤ 2) ∧ (-2 ≤ w.2 ∧ w.2 ≤ 2) ∧ (w.1 ≠ 0 ∨ w.2 ≠ 0))) = true) : ∀ w ∈ l, Way w := fun w hw => let ⟨a, b, n⟩ := of_decide_eq_true (List.all_eq_true.mp h w hw); ⟨a, b, n⟩
theorem ways_ok {kind up : Int} (hup : up = 1 ∨ up = -1) : (∀ w ∈ waysV kind up, Way w) ∧ (waysV kind up).length ≤ 8 := by
  unfold waysV
  split
  · split
    · exact ⟨way_of rfl, nle rfl⟩
    · split
      · rcases hup with rfl | rfl <;> exact ⟨way_of rfl, nle rfl⟩
      · split
        · exact ⟨way_of rfl, nle rfl⟩
        · split <;> exact ⟨way_of rfl, nle rfl⟩
  · exact ⟨way_of rfl, nle rfl⟩
section
variable {f r df dr x y : Int}
theorem mu_pos (h : df ≠ 0 ∨ dr ≠ 0) (hx : 0 ≤ x ∧ x < f) (hy : 0 ≤ y ∧ y < r) : 0 < mu f r df dr x y ∧ mu f r df dr (x + df) (y + dr) < mu f r df dr x y := by
  unfold mu
  split
  · clear hy h; omega
  · split
    · clear hy h; omega
    · split
      · clear hx h; omega
      · omega
theorem mu_8 {s : Int} {w : Int × Int} (h : Way w) (hf : f ≤ 6) (hr : r ≤ 6) (hx : 0 ≤ s % f ∧ s % f < f) (hy : 0 ≤ s / f ∧ s / f < r) : mu f r w.1 w.2 (s % f + w.1) (s / f + w.2) ≤ (8 : Nat) := by
  have ha := h.a
  have hb := h.b
  clear h
  generalize w.1 = df at *
  generalize w.2 = dr at *
  generalize s % f = x at *
  generalize s / f = y at *
  unfold mu
  split
  · clear hy hb; omega
  · split
    · clear hy hb; lia
    · split
      · clear hx ha; omega
      · clear hx ha; omega
theorem cell_ix {cells : List Int} (hn : cells.length = (f * r).toNat) (hx : 0 ≤ x ∧ x < f) (hy : 0 ≤ y ∧ y < r) : Ix (y * f + x) cells.length := by
  rw [hn]
  have h0 := Int.le_of_lt (Int.lt_of_le_of_lt hx.1 hx.2)
  have h1 : (y + 1) * f ≤ r * f := Int.mul_le_mul_of_nonneg_right hy.2 h0
  rw [Int.add_mul, Int.one_mul, Int.mul_comm r f] at h1
  exact ixT (Int.add_nonneg (Int.mul_nonneg hy.1 h0) hx.1) (Int.lt_of_lt_of_le (Int.add_lt_add_left hx.2 _) h1)
theorem sq_ix (hs : Sh f r) {s : Int} (h : Ix s (f * r).toNat) : (0 ≤ s % f ∧ s % f < f) ∧ (0 ≤ s / f ∧ s / f < r) := by
  have hl := hs.le.2.1
  exact ⟨⟨Int.emod_nonneg _ (Int.ne_of_gt hl), Int.emod_lt_of_pos _ hl⟩, Int.ediv_nonneg h.1 (Int.le_of_lt hl), Int.ediv_lt_of_lt_mul hl (by rw [Int.mul_comm]; exact ixW h)⟩
end
section
variable {M X : Mem} {Q : AV → Mem → Prop} {N B : List AV → Mem → Prop} {R : AV → Mem → Prop} {f r s kind up df dr : Int} {cells acc l : List Int} {b : Addr} {cv wv v10 v11 : AV}
theorem appI {v : Int} (hl : l.length ≤ 1000) (q : Q .none (X.set b (iL (l ++ [v])))) : meP (X.set b (iL l)) .append (.ref b) (.int v) Q :=
  ⟨_, Mem.set_self _ _ _, by rw [List.length_map]; exact Nat.le_trans hl (by decide), by rw [Mem.set_set]; unfold iL at q; rw [List.map_append] at q; exact q⟩
theorem appT {P : Mem → Prop} {v : Int} (hl : l.length ≤ 1000) (q : P (X.set b (iL (l ++ [v])))) : meP (X.set b (iL l)) .append (.ref b) (.int v) (fun u M => dropP u ∧ P M) := appI hl ⟨trivial, q⟩
noncomputable abbrev gn (f r : Int) (cv : AV) (s kind up : Int) (wv : AV) (b : Addr) (v8 v9 v10 v11 : AV) : List AV := [.int f, .int r, cv, .int s, .int kind, .int up, wv, .ref b, v8, v9, v10, v11]
theorem ln1 {a b c : Nat} (h : a + (b + 1) ≤ c) : a + 1 + b ≤ c := by omega
theorem ray_nil {n : Nat} {x y : Int} (h : ¬ ((0 ≤ x ∧ x < f) ∧ (0 ≤ y ∧ y < r))) : rayV f r cells kind df dr n x y = [] := by
  cases n with
  | zero => rfl
  | succ n => exact if_neg h
inductive RyI (f r : Int) (cv : AV) (s kind up : Int) (wv : AV) (b : Addr) (cells : List Int) (df dr : Int) (X : Mem) (acc T : List Int) (j : Nat) : List AV → Mem → Prop
  | mk (x y : Int) (l : List Int) (e : l ++ rayV f r cells kind df dr j x y = acc ++ T) (m : mu f r df dr x y ≤ j) (k : l.length + j ≤ 1000) : RyI f r cv s kind up wv b cells df dr X acc T j (gn f r cv s kind up wv b (.int df) (.int dr) (.int x) (.int y)) (X.set b (iL l))
inductive RsI (f r : Int) (cv : AV) (s kind up : Int) (wv : AV) (b : Addr) (cells : List Int) (X : Mem) (ws : List (Int × Int)) (i : Nat) : List AV → Mem → Prop
  | mk (v8 v9 v10 v11 : AV) (M : Mem) (e : M = X.set b (iL (raysV f r cells kind s (ws.take i)))) : RsI f r cv s kind up wv b cells X ws i (gn f r cv s kind up wv b v8 v9 v10 v11) M
theorem ray_loop (hc : LI X cells cv) (hb : X b = none) (hf : f ≤ 6) (hr : r ≤ 6) (hn : cells.length = (f * r).toNat) (hw : df ≠ 0 ∨ dr ≠ 0) {n : Nat} {x y : Int} {T : List Int} (hT : rayV f r cells kind df dr n x y = T) (hm : mu f r df dr x y ≤ n) (hl : acc.length + n ≤ 1000)
    (q : ∀ v10 v11, N (gn f r cv s kind up wv b (.int df) (.int dr) v10 v11) (X.set b (iL (acc ++ T)))) :
    (St.wh (.and (.cmp2 .le .lt (.c (.int 0)) (.v 10) (.v 0)) (.cmp2 .le .lt (.c (.int 0)) (.v 11) (.v 1))) w_law_goals_1) (gn f r cv s kind up wv b (.int df) (.int dr) (.int x) (.int y)) (X.set b (iL acc)) N B R := by
  refine ⟨RyI f r cv s kind up wv b cells df dr X acc T, ⟨n, x, y, acc, by rw [hT], hm, hl⟩, ?_⟩
  rintro j _ _ ⟨x, y, l, he, hm, hl⟩
  have out : ¬ ((0 ≤ x ∧ x < f) ∧ (0 ≤ y ∧ y < r)) → N (gn f r cv s kind up wv b (.int df) (.int dr) (.int x) (.int y)) (X.set b (iL l)) := fun h => by
    rw [ray_nil h, List.append_nil] at he
    rw [he]; exact q _ _
  refine .intro (fun hx0 => .intro (fun hx1 => .intro (fun hy0 => .intro (fun hy1 => ?_) fun hy1 => out fun h => hy1 h.2.2) fun hy0 => iN id <| out fun h => hy0 h.2.1) fun hx1 => iN id <| out fun h => hx1 h.1.2) fun hx0 => iN id <| iN id <| out fun h => hx0 h.1.1
  obtain ⟨m1, m2⟩ := mu_pos hw ⟨hx0, hx1⟩ ⟨hy0, hy1⟩
  obtain ⟨j, rfl⟩ : ∃ i, j = i + 1 := ⟨j - 1, by lia⟩
  have hq := cell_ix hn ⟨hx0, hx1⟩ ⟨hy0, hy1⟩
  have hy : sm y := ⟨Int.le_trans (by decide) hy0, Int.le_trans (Int.le_of_lt hy1) (Int.le_trans hr (by decide))⟩
  rw [rayV_s, if_pos ⟨⟨hx0, hx1⟩, hy0, hy1⟩] at he
  have hc' : LI (X.set b (iL (l ++ [y * f + x]))) cells cv := hc.le (Mem.le_set hb)
  have brk : kind < 3 ∨ kind = 6 ∨ gz cells (y * f + x) ≠ 0 → N (gn f r cv s kind up wv b (.int df) (.int dr) (.int x) (.int y)) (X.set b (iL (l ++ [y * f + x]))) := fun h => by
    rw [if_pos h] at he
    rw [he]; exact q _ _
  refine .intro ⟨_, Mem.set_self _ _ _, trivial⟩ <|   .intro hy <| appT (P := fun M => w_law_goals_1_1 _ M _ _ _) (by lia) <| .intro (fun h => iP trivial <| brk (.inl h)) fun h1 => .intro (fun h => iP trivial <| brk (.inr (.inl h))) fun h2 => hc'.d <| .intro hy <| hc'.sub hq <| .intro (fun h => brk (.inr (.inr h))) fun h3 => ?_
  rw [if_neg (fun h => h.elim h1 fun h => h.elim h2 h3)] at he
  exact ⟨j, Nat.lt_succ_self j, _, _, _, by rw [List.append_assoc]; exact he, by omega, by rw [List.length_append]; exact ln1 hl⟩
theorem ray_len : ∀ (n : Nat) (x y : Int), (rayV f r cells kind df dr n x y).length ≤ n := by
  intro n
  induction n with
  | zero => exact fun x y => Nat.le_refl 0
  | succ n ih =>
    intro x y
    rw [rayV_s]
    split
    · split
      · exact Nat.succ_le_succ (Nat.zero_le n)
      · exact Nat.succ_le_succ (ih _ _)
    · exact Nat.zero_le _
theorem rays_snoc {ws : List (Int × Int)} {w : Int × Int} : raysV f r cells kind s (ws ++ [w]) = raysV f r cells kind s ws ++ rayV f r cells kind w.1 w.2 8 (s % f + w.1) (s / f + w.2) := by
  unfold raysV; rw [List.map_append, List.flatten_append]; exact congrArg _ (List.append_nil _)
theorem rays_len {ws : List (Int × Int)} : (raysV f r cells kind s ws).length ≤ 8 * ws.length := by
  induction ws with
  | nil => exact Nat.le_refl 0
  | cons w ws ih =>
    have := ray_len (f := f) (r := r) (cells := cells) (kind := kind) (df := w.1) (dr := w.2) 8 (s % f + w.1) (s / f + w.2)
    unfold raysV at *
    rw [List.map_cons, List.flatten_cons, List.length_append, List.length_cons]
    generalize List.length (List.flatten _) = a at *
    generalize List.length (rayV f r cells kind w.1 w.2 8 (s % f + w.1) (s / f + w.2)) = c at *
    lia
theorem goals_len : (goalsV f r cells s).length ≤ 64 := by
  have h : (waysV (gz cells s % 8) (1 - gz cells s / 8 * 2)).length ≤ 8 := by
    unfold waysV
    split
    · split
      · exact nle rfl
      · split
        · exact nle rfl
        · split
          · exact nle rfl
          · split <;> exact nle rfl
    · exact nle rfl
  exact Nat.le_trans rays_len (Nat.mul_le_mul_left 8 h)
theorem rays_loop (hc : LI X cells cv) (hb : X b = none) (hs : Sh f r) (hn : cells.length = (f * r).toNat) (hx : Ix s (f * r).toNat) {ws : List (Int × Int)} (hw : ∀ w ∈ ws, Way w) (hl : ws.length ≤ 8) (hv : LA X (ws.map apair) wv) {v8 v9 v10 v11 : AV}
    (q : ∀ v8 v9 v10 v11, N (gn f r cv s kind up wv b v8 v9 v10 v11) (X.set b (iL (raysV f r cells kind s ws)))) :
    forP (.t [8, 9]) w_law_goals_2 wv (ws.map apair) (gn f r cv s kind up wv b v8 v9 v10 v11) (X.set b (iL [])) N R := by
  obtain ⟨s1, s2⟩ := sq_ix hs hx
  have hfr : (0 < f ∧ f ≤ 6) ∧ r ≤ 6 := by cases hs <;> decide
  refine ⟨RsI f r cv s kind up wv b cells X ws, ⟨_, _, _, _, _, rfl⟩, ?_, ?_⟩
  · rintro i x _ _ e ⟨v8, v9, v10, v11, _, rfl⟩
    rw [List.getElem?_map] at e
    obtain ⟨w, e1, rfl⟩ := Option.map_eq_some_iff.mp e
    obtain ⟨hi, e2⟩ := List.getElem?_eq_some_iff.mp e1
    have hw := hw w (List.mem_of_getElem? e1)
    have et : raysV f r cells kind s (ws.take (i + 1)) = raysV f r cells kind s (ws.take i) ++ rayV f r cells kind w.1 w.2 8 (s % f + w.1) (s / f + w.2) := by rw [← List.take_append_getElem hi, e2]; exact rays_snoc
    have hv' : ∀ o, stillP (X.set b o) wv (ws.map apair) := fun o => (hv.le (Mem.le_set hb)).still
    have ln := rays_len (f := f) (r := r) (cells := cells) (kind := kind) (s := s) (ws := ws.take i)
    rw [List.length_take] at ln
    refine .intro rfl <| .intro hfr.1.1 <| .intro hfr.1.1 <| .intro (Int.le_trans hfr.1.2 (by decide)) <| ray_loop (B := N) hc hb hfr.1.2 hfr.2 hn hw.n (n := 8) rfl (mu_8 hw hfr.1.2 hfr.2 s1 s2) (by lia) fun v10 v11 => .intro (hv' _) ⟨_, _, _, _, _, by rw [et]⟩
  · rintro _ _ ⟨v8, v9, v10, v11, _, rfl⟩
    rw [List.length_map, List.take_length]
    exact q _ _ _ _
theorem C_goals (hc : LI M cells cv) (hs : Sh f r) (hn : cells.length = (f * r).toNat) (hx : Ix s (f * r).toNat) (hp : okc (gz cells s)) (q : Q (aints (goalsV f r cells s)) M) : t_law_goals [.int f, .int r, cv, .int s] M Q := by
  have hsp : sm (gz cells s / 8) := by have := hp.2.2; unfold Ix at this; unfold sm; grind
  have hup : 1 - gz cells s / 8 * 2 = 1 ∨ 1 - gz cells s / 8 * 2 = -1 := by have := hp.2.2; clear hp; unfold Ix at this; lia
  have hk0 : 0 ≤ gz cells s % 8 := Int.emod_nonneg _ (by decide)
  obtain ⟨w1, w2⟩ := ways_ok (kind := gz cells s % 8) hup
  unfold goalsV at q
  generalize hkd : gz cells s % 8 = kind at *
  have tl : ∀ up wv M', 1 - gz cells s / 8 * 2 = up → M.le M' → LA M' ((waysV kind up).map apair) wv → q_law_goals_4 [.int f, .int r, cv, .int s, .int kind, .int up, wv, .undef, .undef, .undef, .undef, .undef] M' (XN M Q) XB (XR M Q) := fun up wv M' e hle hv => by
    subst e
    refine .intro (nle rfl) fun b hb => ?_
    have hv2 : LA (M'.set b (.list [])) _ wv := hv.le (Mem.le_set hb)
    exact hv2.d <| hv2.it <| rays_loop (hc.le hle) hb hs hn hx w1 w2 hv fun v8 v9 v10 v11 => Exit.l (Mem.set_self _ _ _) (hle.none hb) (hle.trans (Mem.le_set hb)) q
  refine fnT.gs u_law_goals rfl <| hc.d <| hc.sub (hn.symm ▸ hx) <| .intro (by decide) <| ?_
  rw [hkd]
  refine hc.d <| hc.sub (hn.symm ▸ hx) <| .intro (by decide) <| .intro (by decide) <| .intro hsp <| .intro rfl <| .intro (nle rfl) fun a ha => .intro (fun h => ?_) fun h => tl _ _ _ rfl (Mem.le_set ha) (.ref (by rw [Mem.set_self]; unfold waysV; rw [if_neg h, List.map_append]))
  refine .intro (nle rfl) fun a0 h0 => .intro (nle rfl) fun a1 h1 => .intro (nle rfl) fun a3 h3 => ?_
  have hle := fun o => (((Mem.le_set ha).trans (Mem.le_set h0)).trans (Mem.le_set h1)).trans (Mem.le_set (o := o) h3)
  have r0 := (Mem.le_set (o := .list [.ref a0, .ref a1, .lst (jumpL.map apair), .lst (slantL.map apair), .lst (straightL.map apair)]) h3) _ _ ((Mem.le_set h1) a0 (.list []) (Mem.set_self _ _ _))
  have r1 := (Mem.le_set (o := .list [.ref a0, .ref a1, .lst (jumpL.map apair), .lst (slantL.map apair), .lst (straightL.map apair)]) h3) a1 _ (Mem.set_self _ _ _)
  have hk5 : kind = 0 ∨ kind = 1 ∨ kind = 2 ∨ kind = 3 ∨ kind = 4 := by clear hkd q tl w1 w2 hup hsp hp; lia
  rcases hk5 with rfl | rfl | rfl | rfl | rfl
  · exact subX (Mem.set_self _ _ _) hk0 rfl <| tl _ _ _ rfl (hle _) (.ref r0)
  · exact subX (Mem.set_self _ _ _) hk0 rfl <| tl _ _ _ rfl (hle _) (.ref r1)
  · exact subX (Mem.set_self _ _ _) hk0 rfl <| tl _ _ _ rfl (hle _) .lst
  · exact subX (Mem.set_self _ _ _) hk0 rfl <| tl _ _ _ rfl (hle _) .lst
  · exact subX (Mem.set_self _ _ _) hk0 rfl <| tl _ _ _ rfl (hle _) .lst
end
end Vg
end
section
set_option autoImplicit false
set_option linter.all false
namespace Vg
open PySem PySem.W PyProof.Rows
section
variable {f r : Int} {cells : List Int} {kind df dr s : Int}
theorem ray_ix (hn : cells.length = (f * r).toNat) : ∀ (n : Nat) (x y : Int), ∀ q ∈ rayV f r cells kind df dr n x y, Ix q cells.length := by
  intro n
  induction n with
  | zero => exact fun x y q h => nomatch h
  | succ n ih =>
    intro x y q h
    rw [rayV_s] at h
    split at h
    · rename_i hin
      have hc := cell_ix hn hin.1 hin.2
      split at h
      · rw [List.mem_singleton.mp h]; exact hc
      · rcases List.mem_cons.mp h with rfl | h
        · exact hc
        · exact ih _ _ q h
    · exact nomatch h
theorem goal_ix (hn : cells.length = (f * r).toNat) {q : Int} (h : q ∈ goalsV f r cells s) : Ix q cells.length := by
  refine go1 fun G hG => ?_
  obtain ⟨l, hl, hq⟩ := List.mem_flatten.mp h
  obtain ⟨w, hw, rfl⟩ := List.mem_map.mp hl
  refine hG ?_
  exact ray_ix hn _ _ _ q hq
theorem pawn_goal (hf : 0 < f) {p d : Int} (hk : p % 8 = 1) (hd : 1 - p / 8 * 2 = d) (hp : gz cells s = p) {q : Int} (h : q ∈ goalsV f r cells s) : ∃ e, (e = 1 ∨ e = -1) ∧ q = s + d * f + e ∧ s - s % f + q % f = q - d * f := by
  unfold goalsV at h
  rw [hp, hk, hd] at h
  have key : ∀ e, q ∈ rayV f r cells 1 e d 8 (s % f + e) (s / f + d) → q = s + d * f + e ∧ s - s % f + q % f = q - d * f := fun e h => by
    rw [rayV_s] at h
    split at h
    · rename_i hin
      rw [if_pos (.inl (by decide))] at h
      have e1 := List.mem_singleton.mp h
      have e2 := Int.mul_ediv_add_emod s f
      have e3 : q % f = s % f + e := by rw [e1, Int.add_comm, Int.add_mul_emod_self_right]; exact Int.emod_eq_of_lt hin.1.1 hin.1.2
      rw [e3, e1, Int.add_mul, Int.mul_comm (s / f) f]
      clear e1 e3 h hin
      generalize f * (s / f) = a at *
      generalize d * f = b at *
      lia
    · exact nomatch h
  obtain ⟨l, hl, hq⟩ := List.mem_flatten.mp h
  rcases List.mem_cons.mp hl with rfl | hl
  · exact ⟨-1, .inr rfl, key _ hq⟩
  · rw [List.mem_singleton.mp hl] at hq
    exact ⟨1, .inl rfl, key _ hq⟩
theorem ix_step (hs : Sh f r) (h : Ix s (f * r).toNat) {k : Int} (h0 : 0 ≤ s / f + k) (h1 : s / f + k < r) : Ix (s + k * f) (f * r).toNat ∧ (s + k * f) / f = s / f + k := by
  have hf := hs.le.2.1
  have c := cell_ix (cells := List.replicate (f * r).toNat 0) (f := f) (r := r) List.length_replicate (sq_ix hs h).1 ⟨h0, h1⟩
  rw [List.length_replicate, show (s / f + k) * f + s % f = s + k * f by rw [Int.add_mul, Int.mul_comm (s / f) f]; have := Int.mul_ediv_add_emod s f; lia] at c
  exact ⟨c, Int.add_mul_ediv_right _ _ (Int.ne_of_gt hf)⟩
end
noncomputable def lastR (r side : Int) : Int := if side = 0 then r - 1 else 0
structure CO (f r : Int) (cells : List Int) : Prop where
  len : cells.length = (f * r).toNat
  ok : ∀ x ∈ cells, 0 ≤ x ∧ x < 15 ∧ x ≠ 7 ∧ x ≠ 8
theorem and7 {x : Int} (h : 0 ≤ x) : Builtin.bitAnd x 7 = x % 8 := by
  obtain ⟨n, rfl⟩ := Int.eq_ofNat_of_zero_le h
  rw [show (7 : Int) = ((7 : Nat) : Int) from rfl, bitAnd_nat, show n &&& 7 = n % 8 from Nat.and_two_pow_sub_one_eq_mod n 3]
  rfl
theorem okc_fin : ∀ n : Fin 15, n.val ≠ 7 → n.val ≠ 8 → okc (n.val : Int) := by decide
theorem okc_of {x : Int} (h : 0 ≤ x ∧ x < 15 ∧ x ≠ 7 ∧ x ≠ 8) : okc x := by
  obtain ⟨h0, h1, h2, h3⟩ := h
  obtain ⟨n, rfl⟩ := Int.eq_ofNat_of_zero_le h0
  exact okc_fin ⟨n, Int.ofNat_lt.mp h1⟩ (fun e => h2 (congrArg Int.ofNat e)) fun e => h3 (congrArg Int.ofNat e)
theorem CO.at {f r : Int} {cells : List Int} (h : CO f r cells) {s : Int} : 0 ≤ gz cells s ∧ gz cells s < 15 ∧ gz cells s ≠ 7 ∧ gz cells s ≠ 8 := gz_mem.elim (fun e => by rw [e]; decide) (h.ok _)
theorem CO.ix {f r : Int} {cells : List Int} (h : CO f r cells) {s : Int} (hs : Ix s (f * r).toNat) : Ix s cells.length := h.len.symm ▸ hs
structure Att (f r : Int) (cells : List Int) (s side q : Int) : Prop where
  an : gz cells q ≠ 0
  as : gz cells q / 8 = side
  ag : s ∈ goalsV f r cells q
noncomputable def HeldP (f r : Int) (cells : List Int) (s side : Int) : Prop := ∃ q : Nat, q < cells.length ∧ Att f r cells s side q
section
variable {M : Mem} {Q : AV → Mem → Prop} {f r s side : Int} {cells : List Int} {cv : AV}
theorem C_held (hc : LI M cells cv) (hs : Sh f r) (co : CO f r cells) (q : ∀ b : Bool, (b = true ↔ HeldP f r cells s side) → Q (.bool b) M) : t_law_held [.int f, .int r, cv, .int s, .int side] M Q := by
  have hl : (cells.map AV.int).length = cells.length := List.length_map _
  have hl2 : okR ((cells.map AV.int).length : Int) := by rw [hl, co.len]; have := hs.le; exact okr15 (Int.natCast_nonneg _) (by omega)
  refine fnT.gs u_law_held rfl <| hc.d <| hc.seq <| .intro hl2 <| for0 (fun i m M' => ∃ v, m = [.int f, .int r, cv, .int s, .int side, v] ∧ M = M' ∧ ∀ q : Nat, q < i → ¬ Att f r cells s side q) ⟨_, rfl, rfl, fun q h => nomatch h⟩ ?_ ?_
  · rintro i _ _ hi ⟨v, rfl, rfl, no⟩
    rw [hl] at hi
    have hx : Ix (i : Int) (f * r).toNat := co.len ▸ hi
    have nx : ¬ Att f r cells s side i → _ ∧ ∃ v, [AV.int f, .int r, cv, .int s, .int side, .int i] = [.int f, .int r, cv, .int s, .int side, v] ∧ M = M ∧ ∀ q : Nat, q < i + 1 → ¬ Att f r cells s side q := fun h => .intro trivial ⟨_, rfl, rfl, fun q hq => (Nat.lt_succ_iff_lt_or_eq.mp hq).elim (no q) fun e => e ▸ h⟩
    exact hc.d <| hc.sub hi <| .intro (fun h1 => hc.d <| hc.sub hi <| .intro (by decide) <| .intro (by decide) <| .intro (fun h2 => hc.d <| C_goals hc hs co.len hx (okc_of co.at) <| .intro _ <| .intro rfl <| .intro (fun h3 => XR.mk <| q true ⟨fun _ => ⟨i, hi.2, h1, h2, h3⟩, fun _ => rfl⟩) fun h3 => nx fun a => h3 a.ag) fun h2 => iN id <| nx fun a => h2 a.as) fun h1 => iN id <| nx fun a => h1 a.an
  · rintro _ _ ⟨v, rfl, rfl, no⟩
    exact XR.mk <| q false ⟨(fun h => nomatch h), fun ⟨q, hq, a⟩ => absurd a (no q (by rw [hl]; exact hq))⟩
end
end Vg
end
section
set_option autoImplicit false
set_option linter.all false
namespace Vg
open PySem PySem.W PyProof.Rows
noncomputable abbrev Mv := Int × Int × Int × Int
noncomputable abbrev dist (o t : Int) : Int := if o - t < 0 then -(o - t) else o - t
structure VM (f r : Int) (cb : Bool) (cells : List Int) (side ep : Int) (mv : Mv) : Prop where
  io : Ix mv.1 (f * r).toNat
  it : Ix mv.2.1 (f * r).toNat
  on : gz cells mv.1 ≠ 0
  os : gz cells mv.1 / 8 = side
  tf : gz cells mv.2.1 ≠ 0 → gz cells mv.2.1 / 8 ≠ side ∧ mv.2.1 ∈ goalsV f r cells mv.1
  s4 : mv.2.2.1 = 0 ∨ mv.2.2.1 = 1 ∨ mv.2.2.1 = 2 ∨ mv.2.2.1 = 3
  pr : mv.2.2.1 = 1 → gz cells mv.1 % 8 = 1 ∧ 2 ≤ mv.2.2.2 ∧ mv.2.2.2 ≤ 5
  np : mv.2.2.1 ≠ 1 → mv.2.2.2 = 0
  pw : gz cells mv.1 % 8 = 1 → mv.2.2.1 ≠ 1 → mv.2.1 / f ≠ lastR r side
  e2 : mv.2.2.1 = 2 → gz cells mv.1 % 8 = 1 ∧ mv.2.1 = ep ∧ mv.1 - mv.1 % f + mv.2.1 % f = mv.2.1 - (1 - 2 * side) * f ∧ mv.2.1 - (1 - 2 * side) * f ≠ mv.1
  c3 : mv.2.2.1 = 3 → cb = true ∧ mv.1 = 3 + 12 * side ∧ mv.2.1 = 1 + 12 * side ∧ gz cells (1 + 12 * side) = 0 ∧ gz cells (2 + 12 * side) = 0 ∧ gz cells (3 + 12 * side) = 8 * side + 6 ∧ gz cells (12 * side) = 8 * side + 4
  db : gz cells mv.1 % 8 = 1 → dist mv.1 mv.2.1 = 2 * f → mv.2.2.1 = 0 ∧ mv.2.1 = mv.1 + 2 * ((1 - 2 * side) * f) ∧ gz cells (mv.1 + (1 - 2 * side) * f) = 0
structure GP (f r : Int) (cells : List Int) (side ep s : Int) (mv : Mv) : Prop where
  o : mv.1 = s
  it : Ix mv.2.1 (f * r).toNat
  tf : gz cells mv.2.1 ≠ 0 → gz cells mv.2.1 / 8 ≠ side ∧ mv.2.1 ∈ goalsV f r cells s
  s2 : mv.2.2.1 = 0 ∨ mv.2.2.1 = 2
  z : mv.2.2.2 = 0
  e2 : mv.2.2.1 = 2 → mv.2.1 = ep ∧ s - s % f + mv.2.1 % f = mv.2.1 - (1 - 2 * side) * f ∧ mv.2.1 - (1 - 2 * side) * f ≠ s
  db : dist s mv.2.1 = 2 * f → mv.2.2.1 = 0 ∧ mv.2.1 = s + 2 * ((1 - 2 * side) * f) ∧ gz cells (s + (1 - 2 * side) * f) = 0 ∧ mv.2.1 / f ≠ lastR r side
noncomputable def LQ (X : Mem) (a : Addr) (k : Nat) (p : Mv → Prop) (M : Mem) : Prop := ∃ L : List Mv, M = X.set a (.list (L.map quad)) ∧ L.length ≤ k ∧ ∀ mv ∈ L, p mv
section
variable {X M : Mem} {a : Addr} {k k' : Nat} {p : Mv → Prop} {mv : Mv} {b : St} {m : List AV} {N B : List AV → Mem → Prop} {R : AV → Mem → Prop}
theorem LQ.at (h : LQ X a k p M) : ∃ L : List Mv, M a = some (.list (L.map quad)) ∧ L.length ≤ k ∧ ∀ mv ∈ L, p mv := let ⟨L, e, h1, h2⟩ := h; ⟨L, e ▸ Mem.set_self _ _ _, h1, h2⟩
theorem LQ.lp (h : LQ X a k p M) : listP M (.ref a) fun zz => True := let ⟨_, e, _⟩ := h.at; ⟨_, e, trivial⟩
theorem LQ.weak (h : LQ X a k p M) (hk : k ≤ k') : LQ X a k' p M := let ⟨L, e, h1, h2⟩ := h; ⟨L, e, Nat.le_trans h1 hk, h2⟩
theorem LQ.le (h : LQ X a k p M) (hf : X a = none) : X.le M := let ⟨_, e, _⟩ := h; e ▸ Mem.le_set hf
theorem all_snoc {α : Type} {p : α → Prop} {l : List α} {x : α} (h : ∀ y ∈ l, p y) (hx : p x) : ∀ y ∈ l ++ [x], p y := fun y hy => (List.mem_append.mp hy).elim (h y) fun q => List.mem_singleton.mp q ▸ hx
theorem LQ.app (h : LQ X a k p M) (hk : k ≤ 100000) (hm : p mv) (q : ∀ M', LQ X a (k + 1) p M' → b m M' N B R) : meP M .append (.ref a) (quad mv) (fun u M => dropP u ∧ b m M N B R) := by
  obtain ⟨L, rfl, h1, h2⟩ := h
  refine ⟨_, Mem.set_self _ _ _, by rw [List.length_map]; exact Nat.le_trans h1 (Nat.le_trans hk (by decide)), trivial, q _ ⟨L ++ [mv], ?_, by rw [List.length_append]; exact Nat.succ_le_succ h1, all_snoc h2 hm⟩⟩
  rw [Mem.set_set, List.map_append]; rfl
end
section
variable {f r s side ep : Int} {cb : Bool} {cells : List Int}
theorem fw1 (hs : Sh f r) (hsd : side = 0 ∨ side = 1) (hx : Ix s (f * r).toNat) (hl : s / f ≠ lastR r side) : Ix (s + (1 - 2 * side) * f) (f * r).toNat := by
  have := (sq_ix hs hx).2
  unfold lastR at hl
  rcases hsd with rfl | rfl
  · exact (ix_step hs hx (by omega) (by simp at hl; omega)).1
  · exact (ix_step hs hx (by simp at hl; omega) (by omega)).1
theorem fw2 (hs : Sh f r) (hr : 5 ≤ r) (hsd : side = 0 ∨ side = 1) (hx : Ix s (f * r).toNat) (hl : s / f = if side = 0 then 1 else r - 2) : Ix (s + 2 * ((1 - 2 * side) * f)) (f * r).toNat ∧ (s + 2 * ((1 - 2 * side) * f)) / f ≠ lastR r side := by
  have e : s + 2 * ((1 - 2 * side) * f) = s + (2 * (1 - 2 * side)) * f := by rw [Int.mul_assoc]
  rw [e]
  unfold lastR
  rcases hsd with rfl | rfl
  · have h := ix_step hs hx (k := 2 * (1 - 2 * 0)) (by simp at hl; omega) (by simp at hl; omega)
    rw [h.2]; exact ⟨h.1, by simp at hl ⊢; omega⟩
  · have h := ix_step hs hx (k := 2 * (1 - 2 * 1)) (by simp at hl; omega) (by simp at hl; omega)
    rw [h.2]; exact ⟨h.1, by simp at hl ⊢; omega⟩
theorem dist1 {u e : Int} (hf : 3 ≤ f) (hu : u = f ∨ u = -f) (he : e = 0 ∨ e = 1 ∨ e = -1) : dist s (s + u + e) ≠ 2 * f := by
  unfold dist
  rw [show s - (s + u + e) = -(u + e) by lia]
  split <;> omega
theorem up_or (hsd : side = 0 ∨ side = 1) : (1 - 2 * side) * f = f ∨ (1 - 2 * side) * f = -f := by rcases hsd with rfl | rfl <;> lia
theorem gp_one (hs : Sh f r) (hsd : side = 0 ∨ side = 1) (hx : Ix s (f * r).toNat) (hl : s / f ≠ lastR r side) (h0 : gz cells (s + (1 - 2 * side) * f) = 0) : GP f r cells side ep s (s, s + (1 - 2 * side) * f, 0, 0) :=
  ⟨rfl, fw1 hs hsd hx hl, fun h => absurd h0 h, .inl rfl, rfl, fun h => absurd (show (0 : Int) = 2 from h) (by decide), fun h => absurd h (by have := dist1 (s := s) (e := 0) (by cases hs <;> decide) (up_or (f := f) hsd) (.inl rfl); rwa [Int.add_zero] at this)⟩
theorem gp_two (hs : Sh f r) (hr : 5 ≤ r) (hsd : side = 0 ∨ side = 1) (hx : Ix s (f * r).toNat) (hl : s / f = if side = 0 then 1 else r - 2) (h0 : gz cells (s + (1 - 2 * side) * f) = 0) (h1 : gz cells (s + 2 * ((1 - 2 * side) * f)) = 0) :
    GP f r cells side ep s (s, s + 2 * ((1 - 2 * side) * f), 0, 0) :=
  ⟨rfl, (fw2 hs hr hsd hx hl).1, fun h => absurd h1 h, .inl rfl, rfl, fun h => absurd (show (0 : Int) = 2 from h) (by decide), fun zz => ⟨rfl, rfl, h0, (fw2 hs hr hsd hx hl).2⟩⟩
theorem side_ne {u e : Int} (he : e = 1 ∨ e = -1) : s + u + e - u ≠ s := by rcases he with rfl | rfl <;> lia
theorem gp_goal (hs : Sh f r) (co : CO f r cells) (hsd : side = 0 ∨ side = 1) {p q sp : Int} (hk : p % 8 = 1) (hp : gz cells s = p) (hd : p / 8 = side) (h : q ∈ goalsV f r cells s) (htf : gz cells q ≠ 0 → gz cells q / 8 ≠ side) (h2 : sp = 0 ∨ sp = 2) (he : sp = 2 → q = ep) : GP f r cells side ep s (s, q, sp, 0) := by
  obtain ⟨e, e1, e2, e3⟩ := pawn_goal (d := 1 - 2 * side) hs.le.2.1 hk (by rw [hd, Int.mul_comm]) hp h
  exact ⟨rfl, co.len ▸ goal_ix co.len h, fun h' => ⟨htf h', h⟩, h2, rfl, fun h => ⟨he h, e3, by rw [show q = _ from e2]; exact side_ne e1⟩, fun h => absurd h (by rw [show q = _ from e2]; exact dist1 (by cases hs <;> decide) (up_or hsd) (.inr e1))⟩
theorem GP.vm {mv : Mv} {p : Int} (g : GP f r cells side ep s mv) (hx : Ix s (f * r).toNat) (hp : gz cells s = p) (hk : p % 8 = 1) (hd : p / 8 = side) (hl : mv.2.1 / f ≠ lastR r side) : VM f r cb cells side ep mv := by
  obtain ⟨o, t, sp, pr⟩ := mv
  obtain ⟨rfl, it, tf, s2, z, e2, db⟩ := g
  subst hp
  exact ⟨hx, it, fun h => by rw [show gz cells o = 0 from h] at hk; exact absurd hk (by decide), hd, tf, s2.elim .inl fun h => .inr (.inr (.inl h)), fun h => (s2.elim (fun e => absurd (e.symm.trans h) (by decide)) fun e => absurd (e.symm.trans h) (by decide)), fun zz => z, fun zz zz => hl, fun h => ⟨hk, e2 h⟩, fun h => (s2.elim (fun e => absurd (e.symm.trans h) (by decide)) fun e => absurd (e.symm.trans h) (by decide)), fun _ h => let ⟨a, b, c, _⟩ := db h; ⟨a, b, c⟩⟩
theorem GP.promo {mv : Mv} {p pr : Int} (g : GP f r cells side ep s mv) (hx : Ix s (f * r).toNat) (hp : gz cells s = p) (hk : p % 8 = 1) (hd : p / 8 = side) (hl : mv.2.1 / f = lastR r side) (h2 : 2 ≤ pr ∧ pr ≤ 5) : VM f r cb cells side ep (s, mv.2.1, 1, pr) := by
  subst hp
  exact ⟨hx, g.it, fun h => by rw [show gz cells s = 0 from h] at hk; exact absurd hk (by decide), hd, g.tf, .inr (.inl rfl), fun zz => ⟨hk, h2⟩, fun h => absurd rfl h, fun _ h => absurd rfl h, fun h => absurd (show (1 : Int) = 2 from h) (by decide), fun h => absurd (show (1 : Int) = 3 from h) (by decide), fun _ h => absurd hl (g.db h).2.2.2⟩
end
end Vg
end
section
set_option autoImplicit false
set_option linter.all false
namespace Vg
open PySem PySem.W PyProof.Rows
noncomputable def shV (f r : Int) (db cb : Bool) : AV := .tup [.int f, .int r, .bool db, .bool cb]
theorem all_nil {α : Type} {p : α → Prop} : ∀ x ∈ ([] : List α), p x := fun _ h => nomatch h
theorem LQ.nil {M : Mem} {a : Addr} {p : Mv → Prop} {k : Nat} : LQ M a k p (M.set a (.list [])) := ⟨[], rfl, Nat.zero_le _, all_nil⟩
section
variable {M Y M' : Mem} {a b : Addr} {Q : AV → Mem → Prop} {N B : List AV → Mem → Prop} {R : AV → Mem → Prop} {f r s side ep p : Int} {db cb : Bool} {cells : List Int} {mv : Mv} {v10 v11 v12 v13 v14 : AV} {k : Nat} {L : List Mv}
noncomputable abbrev pn (f r : Int) (db cb : Bool) (cells : List Int) (s ep side : Int) (v10 v11 v12 v13 v14 : AV) : List AV := [shV f r db cb, aints cells, .int s, .int ep, .int f, .int r, .bool db, .bool cb, .int side, .int ((1 - 2 * side) * f), v10, v11, v12, v13, v14]
structure PW (f r : Int) (cells : List Int) (s side p : Int) : Prop where
  hs : Sh f r
  co : CO f r cells
  hsd : side = 0 ∨ side = 1
  hx : Ix s (f * r).toNat
  hp : gz cells s = p
  hk : p % 8 = 1
  hd : p / 8 = side
theorem pm_pr (w : PW f r cells s side p) (h : LQ Y b k (VM f r cb cells side ep) M') (hk : k ≤ 100000) (g : GP f r cells side ep s mv) (hl : mv.2.1 / f = lastR r side) {pr : Int} (h2 : 2 ≤ pr ∧ pr ≤ 5)
    (q : ∀ M'', LQ Y b (k + 1) (VM f r cb cells side ep) M'' → N (pn f r db cb cells s ep side v10 v11 (.ref b) (quad mv) (.int pr)) M'') : w_law_pawn_moves_2 (pn f r db cb cells s ep side v10 v11 (.ref b) (quad mv) (.int pr)) M' N B R :=
  .intro h.lp <| subF (by decide : (0 : Int) ≤ 1) rfl <| h.app (b := St.nop) hk (g.promo w.hx w.hp w.hk w.hd hl h2) fun M'' h => q M'' h
theorem pm3 (w : PW f r cells s side p) (h : LQ Y b k (VM f r cb cells side ep) M') (hk : k ≤ 99000) (g : GP f r cells side ep s mv)
    (q : ∀ M'' v14, LQ Y b (k + 4) (VM f r cb cells side ep) M'' → N (pn f r db cb cells s ep side v10 v11 (.ref b) (quad mv) v14) M'') : w_law_pawn_moves_3 (pn f r db cb cells s ep side v10 v11 (.ref b) (quad mv) v14) M' N B R := by
  have hf := w.hs.le
  have key : ∀ x, lastR r side = x → (mv.2.1 / f = x → (St.seq (.for (.v 14) (.tup [(.c (.int 5)), (.c (.int 2)), (.c (.int 4)), (.c (.int 3))]) w_law_pawn_moves_2) .nop) (pn f r db cb cells s ep side v10 v11 (.ref b) (quad mv) v14) M' (fun m M => St.nop m M N B R) B R) ∧
      (¬ mv.2.1 / f = x → (St.seq (.exp (.me .append (.v 12) (.v 13))) .nop) (pn f r db cb cells s ep side v10 v11 (.ref b) (quad mv) v14) M' (fun m M => St.nop m M N B R) B R) := fun x hx => by
    subst hx
    exact ⟨fun hl => forP.of <| pm_pr w h (by omega) g hl (by decide) fun M1 h1 => .intro trivial <| pm_pr w h1 (by omega) g hl (by decide) fun M2 h2 => .intro trivial <| pm_pr w h2 (by omega) g hl (by decide) fun M3 h3 => .intro trivial <| pm_pr w h3 (by omega) g hl (by decide) fun M4 h4 => .intro trivial <| q M4 _ h4,
      fun hl => .intro h.lp <| h.app (mv := mv) (b := St.nop) (by omega) (g.vm w.hx w.hp w.hk w.hd hl) fun M'' h => q M'' _ (h.weak (by lia))⟩
  exact subF (by decide : (0 : Int) ≤ 1) rfl <| .intro hf.2.1 <| .intro (Int.le_trans hf.2.2.1 (by decide)) <| .intro (fun h0 => key _ (if_pos h0)) fun h0 => key _ (if_neg h0)
theorem pm7 (w : PW f r cells s side p) (ha : M a = none) (hl : L.length ≤ 1000) (g : ∀ mv ∈ L, GP f r cells side ep s mv) (q : ∀ L : List Mv, L.length ≤ 4000 → (∀ mv ∈ L, VM f r cb cells side ep mv) → Q (.lst (L.map quad)) M) :
    q_law_pawn_moves_6 (pn f r db cb cells s ep side (.ref a) v11 v12 v13 v14) (M.set a (.list (L.map quad))) N B (XR M Q) := by
  refine .intro (nle rfl) fun b hb => ?_
  have hab := ne_of (Mem.set_self M a _) hb
  have hl2 : (L.map quad).length = L.length := List.length_map _
  have at_ : ∀ {k p M'}, LQ (M.set a (.list (L.map quad))) b k p M' → M' a = some (.list (L.map quad)) := fun h => h.le hb _ _ (Mem.set_self _ _ _)
  refine ⟨_, Mem.set_ne _ _ hab.symm |>.trans (Mem.set_self _ _ _), fun i m M' => ∃ v13 v14, m = pn f r db cb cells s ep side (.ref a) v11 (.ref b) v13 v14 ∧ LQ (M.set a (.list (L.map quad))) b (4 * i) (VM f r cb cells side ep) M', ⟨_, _, rfl, LQ.nil⟩, ?_, ?_⟩
  · rintro i x _ M' e ⟨v13, v14, rfl, h⟩
    rw [List.getElem?_map] at e
    obtain ⟨mv, e1, rfl⟩ := Option.map_eq_some_iff.mp e
    obtain ⟨hi, e2⟩ := List.getElem?_eq_some_iff.mp e1
    exact pm3 w h (by lia) (g mv (List.mem_of_getElem? e1)) fun M'' v14 h' => .intro (at_ h') ⟨_, _, rfl, h'⟩
  · rintro _ M' ⟨v13, v14, rfl, h⟩
    refine go1 fun G hG => ?_
    obtain ⟨L', e, h1, h2⟩ := h.at
    refine hG ?_
    have le := (Mem.le_set (o := .list (L.map quad)) ha).trans (h.le hb)
    rw [hl2] at h1
    exact Exit.l e ((Mem.le_set (o := .list (L.map quad)) ha).none hb) le (q L' (by lia) h2)
theorem pm1 (w : PW f r cells s side p) (hep : Ix ep (f * r).toNat → gz cells ep = 0) (h : LQ M a k (GP f r cells side ep s) M') (hk : k ≤ 99000) {g : Int} (hg : g ∈ goalsV f r cells s) (q : ∀ M'', LQ M a (k + 2) (GP f r cells side ep s) M'' → N (pn f r db cb cells s ep side (.ref a) (.int g) v12 v13 v14) M'') :
    w_law_pawn_moves_1 (pn f r db cb cells s ep side (.ref a) (.int g) v12 v13 v14) M' N B R := by
  have hx := goal_ix w.co.len hg
  have t : ∀ M'', LQ M a (k + 1) (GP f r cells side ep s) M'' → w_law_pawn_moves_1_1 (pn f r db cb cells s ep side (.ref a) (.int g) v12 v13 v14) M'' N B R := fun M'' h =>
    .intro (fun e => .intro h.lp <| h.app (mv := (s, g, 2, 0)) (b := St.nop) (by omega) (gp_goal w.hs w.co w.hsd w.hk w.hp w.hd hg (fun h0 => absurd (e ▸ hep (e ▸ w.co.len ▸ hx)) h0) (.inr rfl) fun zz => e) fun M3 h3 => q M3 h3) fun zz => q M'' (h.weak (by lia))
  exact subL hx <| .intro (fun h1 => subL hx <| .intro (by decide) <| .intro (by decide) <| .intro (fun h2 => .intro h.lp <| h.app (mv := (s, g, 0, 0)) (b := St.nop) (by omega) (gp_goal w.hs w.co w.hsd w.hk w.hp w.hd hg (fun zz => h2) (.inl rfl) fun h => absurd h (by decide)) fun M3 h3 => t M3 h3) fun zz => t _ (h.weak (by lia))) fun zz => iN id <| t _ (h.weak (by lia))
theorem pm5 (w : PW f r cells s side p) (hep : Ix ep (f * r).toNat → gz cells ep = 0) (ha : M a = none) (h : LQ M a 2 (GP f r cells side ep s) M') (q : ∀ L : List Mv, L.length ≤ 4000 → (∀ mv ∈ L, VM f r cb cells side ep mv) → Q (.lst (L.map quad)) M) :
    q_law_pawn_moves_5 (pn f r db cb cells s ep side (.ref a) .undef .undef .undef .undef) M' N B (XR M Q) := by
  refine C_goals .lst w.hs w.co.len w.hx (okc_of w.co.at) <| ⟨fun i m M' => ∃ v11, m = pn f r db cb cells s ep side (.ref a) v11 .undef .undef .undef ∧ LQ M a (2 + 2 * i) (GP f r cells side ep s) M', ⟨_, rfl, h⟩, ?_, ?_⟩
  · rintro i x _ M' e ⟨v11, rfl, h⟩
    rw [List.getElem?_map] at e
    obtain ⟨g, e1, rfl⟩ := Option.map_eq_some_iff.mp e
    have hi := (List.getElem?_eq_some_iff.mp e1).1
    have := goals_len (f := f) (r := r) (cells := cells) (s := s)
    exact pm1 w hep h (by omega) (List.mem_of_getElem? e1) fun M'' h' => .intro trivial ⟨_, rfl, h'⟩
  · rintro _ M' ⟨v11, rfl, L, rfl, h1, h2⟩
    have := goals_len (f := f) (r := r) (cells := cells) (s := s)
    rw [List.length_map] at h1
    exact pm7 w ha (by omega) h2 q
theorem C_pawn_moves (w : PW f r cells s side p) (hdb : db = true → 5 ≤ r) (hep : Ix ep (f * r).toNat → gz cells ep = 0) (hl : s / f ≠ lastR r side) (q : ∀ L : List Mv, L.length ≤ 4000 → (∀ mv ∈ L, VM f r cb cells side ep mv) → Q (.lst (L.map quad)) M) :
    t_law_pawn_moves [shV f r db cb, aints cells, .int s, .int ep] M Q := by
  have hf := w.hs.le
  have hx1 := fw1 w.hs w.hsd w.hx hl
  have eu : f - 2 * f * side = (1 - 2 * side) * f := by rw [Int.sub_mul, Int.one_mul, Int.mul_right_comm]
  have tl : ∀ u, u = (1 - 2 * side) * f → q_law_pawn_moves_3 [shV f r db cb, aints cells, .int s, .int ep, .int f, .int r, .bool db, .bool cb, .int side, .int u, .undef, .undef, .undef, .undef, .undef] M (XN M Q) XB (XR M Q) := fun u hu => by
    subst hu
    refine .intro (nle rfl) fun a ha => ?_
    have t5 : ∀ M', LQ M a 2 (GP f r cells side ep s) M' → q_law_pawn_moves_5 (pn f r db cb cells s ep side (.ref a) .undef .undef .undef .undef) M' (XN M Q) XB (XR M Q) := fun M' h => pm5 w hep ha h q
    refine subL (w.co.ix hx1) <| .intro (fun h0 => .intro ⟨_, Mem.set_self _ _ _, trivial⟩ <| LQ.nil.app (k := 0) (mv := (s, s + (1 - 2 * side) * f, 0, 0)) (by decide) (gp_one (ep := ep) w.hs w.hsd w.hx hl h0) fun M1 h1 => ?_) fun zz => t5 _ LQ.nil
    have t6 := t5 M1 (h1.weak (by decide))
    have two : (s / f = if side = 0 then 1 else r - 2) → db = true → gz cells (s + 2 * ((1 - 2 * side) * f)) = 0 → GP f r cells side ep s (s, s + 2 * ((1 - 2 * side) * f), 0, 0) := fun h hd => gp_two w.hs (hdb hd) w.hsd w.hx h h0
    have ix2 : (s / f = if side = 0 then 1 else r - 2) → db = true → Ix (s + 2 * ((1 - 2 * side) * f)) cells.length := fun h hd => w.co.ix (fw2 w.hs (hdb hd) w.hsd w.hx h).1
    refine .intro (fun hd => .intro hf.2.1 <| .intro (Int.le_trans hf.2.2.1 (by decide)) <| .intro (fun e => ?_) fun e => ?_) fun zz => iN id t6
    · exact .intro (fun h2 => .intro sm2 <| subL (ix2 (h2.trans (if_pos e).symm) hd) <| .intro (fun h3 => .intro h1.lp <| .intro sm2 <| h1.app (mv := (s, s + 2 * ((1 - 2 * side) * f), 0, 0)) (b := St.nop) (by decide) (two (h2.trans (if_pos e).symm) hd h3) fun M2 h2 => t5 M2 h2) fun zz => t6) fun zz => iN id t6
    · exact .intro (fun h2 => .intro sm2 <| subL (ix2 (h2.trans (if_neg e).symm) hd) <| .intro (fun h3 => .intro h1.lp <| .intro sm2 <| h1.app (mv := (s, s + 2 * ((1 - 2 * side) * f), 0, 0)) (b := St.nop) (by decide) (two (h2.trans (if_neg e).symm) hd h3) fun M2 h2 => t5 M2 h2) fun zz => t6) fun zz => iN id t6
  refine fnT.gs u_law_pawn_moves rfl <| .intro rfl <| subL (w.co.ix w.hx) <| .intro (by decide) <| .intro (by decide) <| .intro sm2 <| .intro (smc (decide_eq_true (by lia))) ?_
  rw [w.hp, w.hd]
  exact tl _ eu
end
end Vg
end
section
set_option autoImplicit false
set_option linter.all false
namespace Vg
open PySem PySem.W PyProof.Rows
section
variable {M Y M' : Mem} {a b : Addr} {Q : AV → Mem → Prop} {N B : List AV → Mem → Prop} {R : AV → Mem → Prop} {f r s side ep rights : Int} {db cb : Bool} {cells : List Int} {v9 : AV} {k : Nat}
noncomputable abbrev cn (f r : Int) (db cb : Bool) (cells : List Int) (side rights x : Int) (v9 : AV) : List AV := [shV f r db cb, aints cells, .int side, .int rights, .int f, .int r, .bool db, .bool cb, .int x, v9]
theorem c_none {cb : Bool} (q : ∀ a M', M a = none → LQ M a 1 (VM f r cb cells side ep) M' → Q (.ref a) M') {m : List AV} : (St.seq (.ret (.lst [])) .nop) m M N B (XR M Q) := .intro (nle rfl) fun a ha => XR.mk (q a _ ha LQ.nil)
theorem cs1 (q : ∀ a M', M a = none → LQ M a 1 (VM f r cb cells side ep) M' → Q (.ref a) M') {x y : Int} (hy : Ix y cells.length) (n : gz cells y = 0 → N (cn f r db cb cells side rights x (.int y)) M) : w_law_castling_1 (cn f r db cb cells side rights x (.int y)) M N B (XR M Q) :=
  subL hy <| .intro (fun zz => c_none q) fun h => n (Decidable.byContradiction h)
theorem cs2 (hs : Sh f r) (co : CO f r cells) (q : ∀ a M', M a = none → LQ M a 1 (VM f r cb cells side ep) M' → Q (.ref a) M') {x y : Int} (n : N (cn f r db cb cells side rights x (.int y)) M) : w_law_castling_2 (cn f r db cb cells side rights x (.int y)) M N B (XR M Q) :=
  C_held .lst hs co fun b _ => .intro (fun zz => c_none q) fun zz => n
theorem vm_castle (hsd : side = 0 ∨ side = 1) (h1 : gz cells (1 + 12 * side) = 0) (h2 : gz cells (2 + 12 * side) = 0) (h3 : gz cells (3 + 12 * side) = 8 * side + 6) (h4 : gz cells (12 * side) = 8 * side + 4) : VM 6 3 true cells side ep (3 + 12 * side, 1 + 12 * side, 3, 0) := by
  have e : (8 * side + 6) % 8 = 6 ∧ (8 * side + 6) / 8 = side ∧ 8 * side + 6 ≠ 0 ∧ Ix (3 + 12 * side) 18 ∧ Ix (1 + 12 * side) 18 := by rcases hsd with rfl | rfl <;> decide
  have no : ¬ gz cells (3 + 12 * side) % 8 = 1 := by rw [h3, e.1]; decide
  exact ⟨e.2.2.2.1, e.2.2.2.2, by rw [h3]; exact e.2.2.1, by rw [h3]; exact e.2.1, fun h => absurd h1 h, .inr (.inr (.inr rfl)), fun h => absurd (show (3 : Int) = 1 from h) (by decide), fun zz => rfl, fun h => absurd h no, fun h => absurd (show (3 : Int) = 2 from h) (by decide), fun zz => ⟨rfl, rfl, rfl, h1, h2, h3, h4⟩, fun h => absurd h no⟩
theorem c_rest (co : CO 6 3 cells) (hsd : side = 0 ∨ side = 1) (h3 : gz cells (3 + 12 * side) = 8 * side + 6) (h4 : gz cells (12 * side) = 8 * side + 4) (q : ∀ a M', M a = none → LQ M a 1 (VM 6 3 true cells side ep) M' → Q (.ref a) M') {x : Int} (hx : x = 3 + 12 * side) :
    q_law_castling_3 (cn 6 3 db true cells side rights x .undef) M N B (XR M Q) := by
  have fin : ∀ v9, gz cells (1 + 12 * side) = 0 → gz cells (2 + 12 * side) = 0 → q_law_castling_5 (cn 6 3 db true cells side rights (3 + 12 * side) v9) M N B (XR M Q) := fun v9 z1 z2 => .intro (nle rfl) fun a ha => XR.mk <| q a _ ha ⟨[(3 + 12 * side, 1 + 12 * side, 3, 0)], by rw [show 3 + 12 * side - 2 = 1 + 12 * side by lia]; rfl, nle rfl, fun mv h => List.mem_singleton.mp h ▸ vm_castle hsd z1 z2 h3 h4⟩
  have lp : ∀ v9, gz cells (1 + 12 * side) = 0 → gz cells (2 + 12 * side) = 0 → q_law_castling_4 (cn 6 3 db true cells side rights (3 + 12 * side) v9) M N B (XR M Q) := fun v9 z1 z2 => forP.of <| cs2 .b co q <| .intro trivial <| cs2 .b co q <| .intro trivial <| cs2 .b co q <| .intro trivial <| fin _ z1 z2
  subst hx
  rcases hsd with rfl | rfl
  · exact .intro (by decide) <| .intro (by decide) <| .intro (okr15 (by decide) (by decide)) <| .intro (okr15 (by decide) (by decide)) <| forP.of <| cs1 q (co.ix (by decide)) fun z1 => .intro trivial <| cs1 q (co.ix (by decide)) fun z2 => .intro trivial <| lp _ z1 z2
  · exact .intro (by decide) <| .intro (by decide) <| .intro (okr15 (by decide) (by decide)) <| .intro (okr15 (by decide) (by decide)) <| forP.of <| cs1 q (co.ix (by decide)) fun z1 => .intro trivial <| cs1 q (co.ix (by decide)) fun z2 => .intro trivial <| lp _ z1 z2
noncomputable abbrev RiP (cb : Bool) (cells : List Int) (side rights : Int) : Prop := cb = true → Builtin.bitAnd rights (if side = 0 then 2 else 8) ≠ 0 → gz cells (3 + 12 * side) = 8 * side + 6 ∧ gz cells (12 * side) = 8 * side + 4
theorem C_castling (hs : Sh f r) (hcb : cb = true → f = 6 ∧ r = 3) (co : CO f r cells) (hsd : side = 0 ∨ side = 1) (hri : RiP cb cells side rights)
    (q : ∀ a M', M a = none → LQ M a 1 (VM f r cb cells side ep) M' → Q (.ref a) M') : t_law_castling [shV f r db cb, aints cells, .int side, .int rights] M Q := by
  have key : ∀ x, x = (if side = 0 then 0 else (r - 1) * f) + f / 2 → q_law_castling_2 (cn f r db cb cells side rights x .undef) M (XN M Q) XB (XR M Q) := fun x hx => by
    have rest : cb = true → Builtin.bitAnd rights (if side = 0 then 2 else 8) ≠ 0 → q_law_castling_3 (cn f r db cb cells side rights x .undef) M (XN M Q) XB (XR M Q) := fun hc hb => by
      obtain ⟨rfl, rfl⟩ := hcb hc
      subst hc
      exact c_rest co hsd (hri rfl hb).1 (hri rfl hb).2 q (by rw [hx]; rcases hsd with rfl | rfl <;> decide)
    refine .intro (fun h => iP trivial <| c_none q) fun h => .intro (fun e => .intro (fun zz => c_none q) fun hb => rest (Decidable.byContradiction h) ?_) fun e => .intro (fun zz => c_none q) fun hb => rest (Decidable.byContradiction h) ?_
    · rw [if_pos e]; exact Decidable.byContradiction hb
    · rw [if_neg e]; exact Decidable.byContradiction hb
  have hr : sm (r - 1) := by cases hs <;> exact smc rfl
  exact fnT.gs u_law_castling rfl <| .intro rfl <| .intro (fun e => .intro (by decide) <| .intro (by decide) <| key _ (by rw [if_pos e])) fun e => .intro hr <| .intro (by decide) <| .intro (by decide) <| key _ (by rw [if_neg e])
theorem LQ.ext {X : Mem} {p : Mv → Prop} {L' : List Mv} {b : St} {m : List AV} {k' : Nat} (h : LQ X a k p M) (hk : k ≤ 100000) (hk' : L'.length ≤ k') (hl : k' ≤ 100000) (hm : ∀ mv ∈ L', p mv) (q : ∀ M', LQ X a (k + k') p M' → b m M' N B R) : meP M .extend (.ref a) (.lst (L'.map quad)) (fun u M => dropP u ∧ b m M N B R) := by
  obtain ⟨L, rfl, h1, h2⟩ := h
  refine ⟨_, Mem.set_self _ _ _, by rw [List.length_map, List.length_map]; lia, trivial, q _ ⟨L ++ L', by rw [Mem.set_set, List.map_append], by rw [List.length_append]; omega, fun mv h => (List.mem_append.mp h).elim (h2 mv) (hm mv)⟩⟩
noncomputable abbrev ms (f r : Int) (db cb : Bool) (cells : List Int) (side ep rights : Int) (a : Addr) (v6 v7 : AV) : List AV := [shV f r db cb, aints cells, .int side, .int ep, .int rights, .ref a, v6, v7]
theorem ms1 (hs : Sh f r) (co : CO f r cells) (hx : Ix s (f * r).toNat) (h0 : gz cells s ≠ 0) (h1 : gz cells s / 8 = side) (h2 : ¬ gz cells s % 8 = 1) (h : LQ M a k (VM f r cb cells side ep) M') (hk : k ≤ 99000) {g : Int} (hg : g ∈ goalsV f r cells s)
    (q : ∀ M'', LQ M a (k + 1) (VM f r cb cells side ep) M'' → N (ms f r db cb cells side ep rights a (.int s) (.int g)) M'') : w_law_moves_1 (ms f r db cb cells side ep rights a (.int s) (.int g)) M' N B R := by
  have hgx := goal_ix co.len hg
  have vm : (gz cells g ≠ 0 → gz cells g / 8 ≠ side) → VM f r cb cells side ep (s, g, 0, 0) := fun ht => ⟨hx, co.len ▸ hgx, h0, h1, fun e => ⟨ht e, hg⟩, .inl rfl, fun e => absurd (show (0 : Int) = 1 from e) (by decide), fun zz => rfl, fun e => absurd e h2, fun e => absurd (show (0 : Int) = 2 from e) (by decide), fun e => absurd (show (0 : Int) = 3 from e) (by decide), fun e => absurd e h2⟩
  exact subL hgx <| .intro (fun e => iP trivial <| .intro h.lp <| h.app (mv := (s, g, 0, 0)) (b := St.nop) (by omega) (vm fun n => absurd e n) fun M'' h => q M'' h) fun zz => subL hgx <| .intro (by decide) <| .intro (by decide) <| .intro (fun e => .intro h.lp <| h.app (mv := (s, g, 0, 0)) (b := St.nop) (by omega) (vm fun zz => e) fun M'' h => q M'' h) fun zz => q _ (h.weak (by lia))
theorem ms2 (hs : Sh f r) (hdb : db = true → 5 ≤ r) (co : CO f r cells) (pi : ∀ s, Ix s (f * r).toNat → gz cells s % 8 = 1 → s / f ≠ lastR r (gz cells s / 8)) (hsd : side = 0 ∨ side = 1) (hep : Ix ep (f * r).toNat → gz cells ep = 0) (hx : Ix s (f * r).toNat) (ha : M a = none) (h : LQ M a k (VM f r cb cells side ep) M') (hk : k ≤ 95000) {v7 : AV}
    (q : ∀ M'' v7, LQ M a (k + 4000) (VM f r cb cells side ep) M'' → N (ms f r db cb cells side ep rights a (.int s) v7) M'') : w_law_moves_2 (ms f r db cb cells side ep rights a (.int s) v7) M' N B R := by
  have hi := co.ix hx
  refine subL hi <| .intro (fun h0 => subL hi <| .intro (by decide) <| .intro (by decide) <| .intro (fun h1 => subL hi <| .intro (by decide) <| .intro (fun h2 => ?_) fun h2 => ?_) fun zz => q _ _ (h.weak (by omega))) fun zz => iN id <| q _ _ (h.weak (by omega))
  · exact .intro h.lp <| C_pawn_moves ⟨hs, co, hsd, hx, rfl, h2, h1⟩ hdb hep (h1 ▸ pi s hx h2) fun L hl hm => h.ext (b := St.nop) (by omega) hl (by decide) hm fun M'' h => q M'' _ h
  · refine subF (Int.le_refl 0) rfl <| subF (by decide : (0 : Int) ≤ 1) rfl <| C_goals .lst hs co.len hx (okc_of co.at) <| ⟨fun i m M' => ∃ v7, m = ms f r db cb cells side ep rights a (.int s) v7 ∧ LQ M a (k + i) (VM f r cb cells side ep) M', ⟨_, rfl, h⟩, ?_, ?_⟩
    · rintro i x _ M' e ⟨v7, rfl, h⟩
      rw [List.getElem?_map] at e
      obtain ⟨g, e1, rfl⟩ := Option.map_eq_some_iff.mp e
      have h3 := (List.getElem?_eq_some_iff.mp e1).1
      have h4 := goals_len (f := f) (r := r) (cells := cells) (s := s)
      exact ms1 hs co hx h0 h1 h2 h (by clear h; lia) (List.mem_of_getElem? e1) fun M'' h' => .intro trivial ⟨_, rfl, h'⟩
    · rintro _ M' ⟨v7, rfl, h⟩
      have h4 := goals_len (f := f) (r := r) (cells := cells) (s := s)
      rw [List.length_map] at h
      exact q _ _ (h.weak (by clear h; lia))
theorem C_moves (hs : Sh f r) (hdb : db = true → 5 ≤ r) (hcb : cb = true → f = 6 ∧ r = 3) (co : CO f r cells) (pi : ∀ s, Ix s (f * r).toNat → gz cells s % 8 = 1 → s / f ≠ lastR r (gz cells s / 8)) (hsd : side = 0 ∨ side = 1) (hep : Ix ep (f * r).toNat → gz cells ep = 0) (hri : RiP cb cells side rights)
    (q : ∀ a M', M a = none → LQ M a 90000 (VM f r cb cells side ep) M' → Q (.ref a) M') : t_law_moves [shV f r db cb, aints cells, .int side, .int ep, .int rights] M Q := by
  refine fnT.gs u_law_moves rfl <| C_castling (ep := ep) hs hcb co hsd hri fun a M1 ha h1 => ?_
  have hl : (cells.map AV.int).length = (f * r).toNat := (List.length_map _).trans co.len
  have hf := hs.le
  refine .intro (okr15 (Int.natCast_nonneg _) (by rw [hl]; exact Int.ofNat_le.mpr (Nat.le_trans hs.n20 (nle rfl)))) <| for0 (fun i m M' => ∃ v6 v7, m = ms f r db cb cells side ep rights a v6 v7 ∧ LQ M a (1 + 4000 * i) (VM f r cb cells side ep) M') ⟨_, _, rfl, h1⟩ ?_ ?_
  · rintro i _ M' hi ⟨v6, v7, rfl, h⟩
    rw [hl, Int.toNat_natCast] at hi
    have h2 := hi.2
    exact ms2 hs hdb co pi hsd hep hi ha h (by clear h; omega) fun M'' v7 h' => .intro trivial ⟨_, _, rfl, h'.weak (by clear h h' h2; lia)⟩
  · rintro _ M' ⟨v6, v7, rfl, h⟩
    rw [hl, Int.toNat_natCast] at h
    exact XR.mk (q a _ ha (h.weak (Nat.le_trans (Nat.add_le_add_left (Nat.mul_le_mul_left 4000 hs.n20) 1) (nle rfl))))
end
end Vg
end
section
set_option autoImplicit false
set_option linter.all false
namespace Vg
open PySem PySem.W PyProof.Rows
structure NX (f r : Int) (cb : Bool) (cells : List Int) (side ep : Int) : Prop where
  k : ∀ o t sp pr, VM f r cb cells side ep (o, t, sp, pr) → side * 8 + 6 ∈ afterV f cells o t sp pr
  co : ∀ o t sp pr, VM f r cb cells side ep (o, t, sp, pr) → CO f r (afterV f cells o t sp pr)
  w : ∀ o t sp pr, VM f r cb cells side ep (o, t, sp, pr) → sp = 2 → Ix (o - o % f + t % f) (f * r).toNat
  c : ∀ o t sp pr, VM f r cb cells side ep (o, t, sp, pr) → sp = 3 → Ix (t + 1) (f * r).toNat ∧ Ix (t - 1) (f * r).toNat
section
variable {M M' : Mem} {a b : Addr} {Q : AV → Mem → Prop} {N B : List AV → Mem → Prop} {R : AV → Mem → Prop} {f r side ep rights n : Int} {db cb : Bool} {cells : List Int} {k : Nat} {K L : List Mv} {v8 v9 v10 : AV} {mv : Mv}
noncomputable abbrev pk (f r : Int) (db cb : Bool) (cells : List Int) (side ep rights n : Int) (a b : Addr) (v8 v9 v10 : AV) : List AV := [shV f r db cb, aints cells, .int side, .int ep, .int rights, .int n, .ref a, .ref b, v8, v9, v10]
theorem pick_keen (hs : Sh f r) (co : CO f r cells) (hv : VM f r cb cells side ep mv) (h : LQ M b k (VM f r cb cells side ep) M') (hk : k ≤ 99000) (q : ∀ M'', LQ M b (k + 1) (VM f r cb cells side ep) M'' → N (pk f r db cb cells side ep rights n a b (quad mv) v9 v10) M'') :
    w_law_pick_1 (pk f r db cb cells side ep rights n a b (quad mv) v9 v10) M' N B R := by
  have add : (St.seq (.exp (.me .append (.v 7) (.v 8))) .nop) (pk f r db cb cells side ep rights n a b (quad mv) v9 v10) M' (fun m M => St.nop m M N B R) B R := .intro h.lp <| h.app (mv := mv) (b := St.nop) (by lia) hv fun M'' h => q M'' h
  have no := q _ (h.weak (Nat.le_succ k))
  exact subF (by decide : (0 : Int) ≤ 2) rfl <| .intro (fun zz => iP trivial add) fun zz => subF (by decide : (0 : Int) ≤ 0) rfl <| subL (co.ix hv.io) <| .intro (by decide) <| .intro (fun zz => subF (by decide : (0 : Int) ≤ 0) rfl <| subF (by decide : (0 : Int) ≤ 1) rfl <| subF (by decide : (0 : Int) ≤ 0) rfl <| .intro sm2 <| .intro (fun zz => add) fun zz => no) fun zz => iN id no
theorem pick_one (hs : Sh f r) (co : CO f r cells) (hsd : side = 0 ∨ side = 1) (nx : NX f r cb cells side ep) (hle : M.le M') (hv : VM f r cb cells side ep mv) (nxt : ∀ v10, N (pk f r db cb cells side ep rights n a b (quad mv) v9 v10) M')
    (q : ∀ o t sp pr, VM f r cb cells side ep (o, t, sp, pr) → ¬ HeldP f r (afterV f cells o t sp pr) ((afterV f cells o t sp pr).idxOf (side * 8 + 6)) (1 - side) → Q (quad (o, t, sp, pr)) M) : w_law_pick_2_1 (pk f r db cb cells side ep rights n a b (quad mv) v9 v10) M' N B (XR M Q) := by
  obtain ⟨o, t, sp, pr⟩ := mv
  have hl := hs.le
  refine subF (Int.le_refl 0) rfl <| C_after hl.2.1 (by rw [co.len]; omega) (co.ix hv.io) (co.ix hv.it) (fun h => co.ix (nx.w _ _ _ _ hv h)) (fun h => ⟨co.ix (nx.c _ _ _ _ hv h).1, co.ix (nx.c _ _ _ _ hv h).2⟩) <|
    subF (Int.le_refl 0) rfl <| subF (by decide : (0 : Int) ≤ 1) rfl <| .intro trivial <| .intro (by rcases hsd with rfl | rfl <;> exact smc rfl) <| .intro _ <| .intro rfl <| .intro (nx.k _ _ _ _ hv) <| C_held .lst hs (nx.co _ _ _ _ hv) fun u hu => .intro (fun h => ?_) fun zz => nxt _
  exact Exit.drop hle (q o t sp pr hv fun h' => h (hu.mpr h'))
theorem quad_get {K : List Mv} {p : Mv → Prop} (hp : ∀ mv ∈ K, p mv) {i : Int} (h : 0 < ((K.map quad).length : Int)) : ∃ mv, (K.map quad)[(i % ((K.map quad).length : Int)).toNat]? = some (quad mv) ∧ p mv := by
  have h1 := Int.emod_nonneg i (Int.ne_of_gt h)
  have h2 := Int.emod_lt_of_pos i h
  rw [List.length_map] at h1 h2 ⊢
  have h3 : (i % (K.length : Int)).toNat < K.length := by omega
  exact ⟨K[(i % (K.length : Int)).toNat], by rw [List.getElem?_map, List.getElem?_eq_getElem h3]; rfl, hp _ (List.getElem_mem _)⟩
theorem pick_loop (hs : Sh f r) (co : CO f r cells) (hsd : side = 0 ∨ side = 1) (nx : NX f r cb cells side ep) (hle : M.le M') (ha : M' a = some (.list (L.map quad))) (hb : M' b = some (.list (K.map quad))) (hL : ∀ mv ∈ L, VM f r cb cells side ep mv) (hK : ∀ mv ∈ K, VM f r cb cells side ep mv)
    (h1 : L.length ≤ 200000) (h2 : K.length ≤ 200000) (q0 : Q .none M)
    (q : ∀ o t sp pr, VM f r cb cells side ep (o, t, sp, pr) → ¬ HeldP f r (afterV f cells o t sp pr) ((afterV f cells o t sp pr).idxOf (side * 8 + 6)) (1 - side) → Q (quad (o, t, sp, pr)) M) : q_law_pick_4 (pk f r db cb cells side ep rights n a b v8 v9 v10) M' N B (XR M Q) := by
  have lL : (L.map quad).length = L.length := List.length_map _
  have lK : (K.map quad).length = K.length := List.length_map _
  refine .intro _ <| .intro hb <| .intro _ <| .intro ha <| .intro ⟨by omega, by omega⟩ <| for0 (fun i m M'' => ∃ v8 v9 v10, m = pk f r db cb cells side ep rights n a b v8 v9 v10 ∧ M' = M'') ⟨_, _, _, rfl, rfl⟩ ?_ ?_
  · rintro i _ _ hi ⟨v8, v9, v10, rfl, rfl⟩
    refine .intro _ <| .intro hb <| .intro (fun h => ?_) fun h => ?_
    · refine go1 fun G hG => ?_
      obtain ⟨mv, e, hv⟩ := quad_get (i := n + i) hK (Int.lt_of_le_of_lt (Int.natCast_nonneg i) h)
      refine hG ?_
      exact .intro _ <| .intro hb <| .intro (Int.lt_of_le_of_lt (Int.natCast_nonneg i) h) <| subX hb (Int.emod_nonneg _ (by omega)) e <| pick_one hs co hsd nx hle hv (fun v10 => .intro trivial ⟨_, _, _, rfl, rfl⟩) q
    · have h0 : 0 < ((L.map quad).length : Int) := by have := hi.2; omega
      obtain ⟨mv, e, hv⟩ := quad_get (i := n + i) hL h0
      exact .intro _ <| .intro ha <| .intro h0 <| subX ha (Int.emod_nonneg _ (by omega)) e <| pick_one hs co hsd nx hle hv (fun v10 => .intro trivial ⟨_, _, _, rfl, rfl⟩) q
  · rintro _ _ ⟨v8, v9, v10, rfl, rfl⟩
    exact Exit.drop hle q0
theorem C_pick (hs : Sh f r) (hdb : db = true → 5 ≤ r) (hcb : cb = true → f = 6 ∧ r = 3) (co : CO f r cells) (pi : ∀ s, Ix s (f * r).toNat → gz cells s % 8 = 1 → s / f ≠ lastR r (gz cells s / 8)) (hsd : side = 0 ∨ side = 1) (hep : Ix ep (f * r).toNat → gz cells ep = 0) (hri : RiP cb cells side rights)
    (nx : NX f r cb cells side ep) (q0 : Q .none M)
    (q : ∀ o t sp pr, VM f r cb cells side ep (o, t, sp, pr) → ¬ HeldP f r (afterV f cells o t sp pr) ((afterV f cells o t sp pr).idxOf (side * 8 + 6)) (1 - side) → Q (quad (o, t, sp, pr)) M) :
    t_law_pick [shV f r db cb, aints cells, .int side, .int ep, .int rights, .int n] M Q := by
  refine fnT.gs u_law_pick rfl <| C_moves hs hdb hcb co pi hsd hep hri fun a M1 ha h1 => .intro (nle rfl) fun b hb => ?_
  have l1 := h1.le ha
  refine go1 fun G hG => ?_
  obtain ⟨L, e, hl, hL⟩ := h1.at
  refine hG ?_
  have hab := ne_of e hb
  have at_ : ∀ {k p M'}, LQ M1 b k p M' → M' a = some (.list (L.map quad)) := fun h => h.le hb _ _ e
  refine .intro _ <| .intro ((Mem.set_ne _ _ hab.symm).trans e) <| ⟨fun i m M' => ∃ v8 v9 v10, m = pk f r db cb cells side ep rights n a b v8 v9 v10 ∧ LQ M1 b i (VM f r cb cells side ep) M', ⟨_, _, _, rfl, LQ.nil⟩, ?_, ?_⟩
  · rintro i x _ M' e' ⟨v8, v9, v10, rfl, h⟩
    rw [List.getElem?_map] at e'
    obtain ⟨mv, e1, rfl⟩ := Option.map_eq_some_iff.mp e'
    have hi := (List.getElem?_eq_some_iff.mp e1).1
    exact pick_keen hs co (hL mv (List.mem_of_getElem? e1)) h (by clear h; omega) fun M'' h' => .intro (at_ h') ⟨_, _, _, rfl, h'⟩
  · rintro _ M' ⟨v8, v9, v10, rfl, h⟩
    rw [List.length_map] at h
    have l2 := l1.trans (h.le hb)
    have e2 := at_ h
    obtain ⟨K, e3, hk, hK⟩ := h.at
    refine .intro (by decide) <| .intro (fun zz => .intro (nle rfl) fun c hc => ?_) fun zz => pick_loop hs co hsd nx l2 e2 e3 hL hK (by clear h; omega) (by clear h; omega) q0 q
    exact pick_loop (K := []) hs co hsd nx (l2.trans (Mem.le_set hc)) ((Mem.set_ne _ _ (ne_of e2 hc).symm).trans e2) (Mem.set_self _ _ _) hL all_nil (by clear h; omega) (by decide) q0 q
end
end Vg
end
section
set_option autoImplicit false
set_option linter.all false
namespace Vg
open PySem PySem.W PyProof.Rows
section
variable {F G : Nat → Int} {n : Nat}
theorem sumN_congr : ∀ {n : Nat}, (∀ i, i < n → F i = G i) → sumN F n = sumN G n := by
  intro n
  induction n with
  | zero => intro _; rfl
  | succ n ih => intro h; show sumN F n + F n = sumN G n + G n; rw [ih fun i hi => h i (Nat.lt_succ_of_lt hi), h n (Nat.lt_succ_self n)]
end
noncomputable def sumC (G : Int → Int → Int) (cells : List Int) (n : Nat) : Int := sumN (fun i => G (gz cells i) i) n
theorem sum_set {G : Int → Int → Int} {cells : List Int} {s v : Int} (hs : Ix s cells.length) : ∀ {n : Nat}, sumC G (sz cells s v) n = if s.toNat < n then sumC G cells n - G (gz cells s) s + G v s else sumC G cells n := by
  intro n
  induction n with
  | zero => rfl
  | succ n ih =>
    show sumC G (sz cells s v) n + G (gz (sz cells s v) n) n = _
    have e : sumC G cells (n + 1) = sumC G cells n + G (gz cells n) n := rfl
    rw [ih, e, gz_sz hs (Int.natCast_nonneg n)]
    by_cases h1 : s.toNat < n
    · rw [if_pos h1, if_pos (Nat.lt_succ_of_lt h1), if_neg (by lia)]; generalize G _ _ = x; generalize G _ _ = y; generalize G _ _ = z; clear e ih; lia
    · rw [if_neg h1]
      by_cases h2 : (n : Int) = s
      · subst h2; rw [if_pos rfl, if_pos (by lia)]; generalize G _ _ = x; generalize G _ _ = y; clear e ih; lia
      · have := hs.1; rw [if_neg h2, if_neg (by lia)]
noncomputable def kc (k c _ : Int) : Int := if c = k then 1 else 0
noncomputable def mc (c _ : Int) : Int := if c = 0 then 0 else 1
theorem kc_pos {k : Int} {cells : List Int} : ∀ {n : Nat}, 0 ≤ sumC (kc k) cells n ∧ ∀ i : Nat, i < n → gz cells i = k → 1 ≤ sumC (kc k) cells n := by
  intro n
  induction n with
  | zero => exact ⟨Int.le_refl 0, fun i h => absurd h (Nat.not_lt_zero i)⟩
  | succ n ih =>
    have e : sumC (kc k) cells (n + 1) = sumC (kc k) cells n + kc k (gz cells n) n := rfl
    have h0 : 0 ≤ kc k (gz cells n) n := by unfold kc; split <;> decide
    refine ⟨by rw [e]; exact Int.add_nonneg ih.1 h0, fun i hi h => ?_⟩
    rcases Nat.lt_succ_iff_lt_or_eq.mp hi with h1 | rfl
    · rw [e]; exact Int.le_trans (ih.2 i h1 h) (Int.le_add_of_nonneg_right h0)
    · rw [e, show kc k (gz cells i) i = 1 from if_pos h]; exact Int.le_add_of_nonneg_left ih.1
theorem kc_mem {k : Int} {cells : List Int} : ∀ {n : Nat}, sumC (kc k) cells n = 1 → n ≤ cells.length → k ∈ cells := by
  intro n
  induction n with
  | zero => intro h; exact absurd (show (0 : Int) = 1 from h) (by decide)
  | succ n ih =>
    intro h hl
    have e : sumC (kc k) cells (n + 1) = sumC (kc k) cells n + kc k (gz cells n) n := rfl
    by_cases q : gz cells n = k
    · rw [← q]
      unfold gz
      rw [Int.toNat_natCast, List.getD_eq_getElem?_getD, List.getElem?_eq_getElem hl]
      exact List.getElem_mem hl
    · rw [e, show kc k (gz cells n) n = 0 from if_neg q, Int.add_zero] at h
      exact ih h (Nat.le_of_succ_le hl)
theorem kc_uniq {k : Int} {cells : List Int} {i j : Nat} : ∀ {n : Nat}, sumC (kc k) cells n = 1 → i < n → j < n → gz cells i = k → gz cells j = k → i = j := by
  intro n
  induction n with
  | zero => intro h; exact absurd (show (0 : Int) = 1 from h) (by decide)
  | succ n ih =>
    intro h hi hj ei ej
    have e : sumC (kc k) cells (n + 1) = sumC (kc k) cells n + kc k (gz cells n) n := rfl
    have p := kc_pos (k := k) (cells := cells) (n := n)
    by_cases q : gz cells n = k
    · rw [e, show kc k (gz cells n) n = 1 from if_pos q] at h
      have no : ∀ i : Nat, i < n → gz cells i ≠ k := fun i hi h' => by have := p.2 i hi h'; omega
      have e1 : i = n := (Nat.lt_succ_iff_lt_or_eq.mp hi).resolve_left fun z => no i z ei
      have e2 : j = n := (Nat.lt_succ_iff_lt_or_eq.mp hj).resolve_left fun z => no j z ej
      rw [e1, e2]
    · rw [e, show kc k (gz cells n) n = 0 from if_neg q, Int.add_zero] at h
      exact ih h ((Nat.lt_succ_iff_lt_or_eq.mp hi).resolve_right fun z => q (z ▸ ei)) ((Nat.lt_succ_iff_lt_or_eq.mp hj).resolve_right fun z => q (z ▸ ej)) ei ej
theorem CO.set {f r s v : Int} {cells : List Int} (h : CO f r cells) (hv : 0 ≤ v ∧ v < 15 ∧ v ≠ 7 ∧ v ≠ 8) : CO f r (sz cells s v) := ⟨sz_len.trans h.len, fun x hx => (List.mem_or_eq_of_mem_set hx).elim (h.ok x) fun e => e ▸ hv⟩
noncomputable def PI (f r : Int) (cells : List Int) : Prop := ∀ s, Ix s (f * r).toNat → gz cells s % 8 = 1 → s / f ≠ lastR r (gz cells s / 8)
theorem PI.set {f r s v : Int} {cells : List Int} (h : PI f r cells) (hs : Ix s cells.length) (hv : v % 8 = 1 → s / f ≠ lastR r (v / 8)) : PI f r (sz cells s v) := fun j hj e => by
  rw [gz_sz hs hj.1] at e ⊢
  by_cases q : j = s
  · rw [if_pos q] at e ⊢; rw [q]; exact hv e
  · rw [if_neg q] at e ⊢; exact h j hj e
structure BJ (f r : Int) (cells : List Int) (j : Nat) : Prop where
  co : CO f r cells
  pi : PI f r cells
  k0 : sumC (kc 6) cells (f * r).toNat = 1
  k1 : sumC (kc 14) cells (f * r).toNat = 1
  cnt : sumC mc cells (f * r).toNat ≤ j
section
variable {f r s v : Int} {cells : List Int} {j : Nat}
theorem sum_ix {G : Int → Int → Int} (co : CO f r cells) (hs : Ix s (f * r).toNat) : sumC G (sz cells s v) (f * r).toNat = sumC G cells (f * r).toNat - G (gz cells s) s + G v s := by rw [sum_set (co.ix hs), if_pos hs.2]
theorem kc_no {k : Int} (h : v ≠ k) : kc k v s = 0 := if_neg h
theorem BJ.put (B : BJ f r cells j) (hs : Ix s (f * r).toNat) (h0 : gz cells s = 0) (hv : 0 ≤ v ∧ v < 15 ∧ v ≠ 7 ∧ v ≠ 8) (h6 : v ≠ 6) (h14 : v ≠ 14) (hp : v % 8 = 1 → s / f ≠ lastR r (v / 8)) : BJ f r (sz cells s v) (j + 1) :=
  ⟨B.co.set hv, B.pi.set (B.co.ix hs) hp, by rw [sum_ix B.co hs, B.k0, h0, kc_no h6]; rfl, by rw [sum_ix B.co hs, B.k1, h0, kc_no h14]; rfl, by
    rw [sum_ix B.co hs, h0, show mc 0 s = 0 from rfl]
    have : mc v s ≤ 1 := by unfold mc; split <;> decide
    have := B.cnt
    omega⟩
theorem BJ.mono {i : Nat} (B : BJ f r cells i) (h : i ≤ j) : BJ f r cells j := ⟨B.co, B.pi, B.k0, B.k1, Int.le_trans B.cnt (Int.ofNat_le.mpr h)⟩
theorem BJ.mem {k : Int} (B : BJ f r cells j) (hk : k = 6 ∨ k = 14) : k ∈ cells := hk.elim (fun e => e ▸ kc_mem B.k0 (Nat.le_of_eq B.co.len.symm)) fun e => e ▸ kc_mem B.k1 (Nat.le_of_eq B.co.len.symm)
end
end Vg
end
section
set_option autoImplicit false
set_option linter.all false
namespace Vg
open PySem PySem.W PyProof.Rows
noncomputable def SafeB (f r : Int) (cells : List Int) (side : Int) : Prop := ¬ HeldP f r cells (cells.idxOf (14 - side * 8)) side
noncomputable def heldB (f r : Int) (cells : List Int) (s side : Int) : Bool := (List.range cells.length).any fun (q : Nat) => decide (gz cells q ≠ 0 ∧ gz cells q / 8 = side) && (goalsV f r cells q).contains s
theorem held_b {f r : Int} {cells : List Int} {s side : Int} (h : heldB f r cells s side = false) : ¬ HeldP f r cells s side := fun ⟨q, hq, a⟩ => by
  have := List.any_eq_false.mp h q (List.mem_range.mpr hq)
  exact this (Bool.and_eq_true_iff.mpr ⟨decide_eq_true ⟨a.an, a.as⟩, List.contains_iff_mem.mpr a.ag⟩)
structure RI (cb : Bool) (cells : List Int) (rights : Int) : Prop where
  v : rights = 0 ∨ rights = 2 ∨ rights = 8 ∨ rights = 10
  c : rights ≠ 0 → cb = true
  w : Builtin.bitAnd rights 2 ≠ 0 → gz cells 3 = 6 ∧ gz cells 0 = 4
  b : Builtin.bitAnd rights 8 ≠ 0 → gz cells 15 = 14 ∧ gz cells 12 = 12
noncomputable abbrev Keep (cells c : List Int) : Prop := ∀ i : Int, 0 ≤ i → gz cells i ≠ 0 → gz c i = gz cells i
theorem RI.keep {cb : Bool} {cells c : List Int} {rights : Int} (R : RI cb cells rights) (k : Keep cells c) : RI cb c rights :=
  ⟨R.v, R.c, fun h => let ⟨a, b⟩ := R.w h; ⟨(k 3 (by decide) (by rw [a]; decide)).trans a, (k 0 (by decide) (by rw [b]; decide)).trans b⟩, fun h => let ⟨a, b⟩ := R.b h; ⟨(k 15 (by decide) (by rw [a]; decide)).trans a, (k 12 (by decide) (by rw [b]; decide)).trans b⟩⟩
theorem RI.zero {cb : Bool} {cells : List Int} : RI cb cells 0 := ⟨.inl rfl, fun h => absurd rfl h, fun h => absurd rfl h, fun h => absurd rfl h⟩
theorem keep_set {cells : List Int} {s v : Int} (hs : Ix s cells.length) (h0 : gz cells s = 0) : Keep cells (sz cells s v) := fun i hi h => (gz_sz hs hi).trans (if_neg fun e : i = s => h (by rw [e]; exact h0))
theorem sz_back {cells : List Int} {s v : Int} (hs : Ix s cells.length) (h0 : gz cells s = 0) : sz (sz cells s v) s 0 = cells := by
  unfold sz
  rw [List.set_set, ← h0]
  unfold gz
  rw [List.getD_eq_getElem?_getD, List.getElem?_eq_getElem hs.2]
  exact List.set_getElem_self hs.2
noncomputable def absD (a : Int) : Int := if a < 0 then -a else a
noncomputable abbrev farP (f k s : Int) : Prop := 1 < absD (s % f - k % f) ∨ 1 < absD (s / f - k / f)
noncomputable def farL (f k : Int) (n : Nat) : List Int := ((List.range n).filter fun (s : Nat) => decide (farP f k s)).map fun (s : Nat) => (s : Int)
theorem far_ne : ([((3 : Int), (4 : Int)), (6, 3), (3, 6), (4, 5)].all fun b => (List.range (b.1 * b.2).toNat).all fun (k : Nat) => !(farL b.1 k (b.1 * b.2).toNat).isEmpty) = true := by decide +kernel
theorem far_pos {f r k : Int} (hs : Sh f r) (hk : Ix k (f * r).toNat) : 0 < (farL f k (f * r).toNat).length := by
  have key : ∀ b : Int × Int, b ∈ [((3 : Int), (4 : Int)), (6, 3), (3, 6), (4, 5)] → Ix k (b.1 * b.2).toNat → 0 < (farL b.1 k (b.1 * b.2).toNat).length := fun b hb hx => by
    have := List.all_eq_true.mp (List.all_eq_true.mp far_ne b hb) k.toNat (List.mem_range.mpr hx.2)
    rw [Int.toNat_of_nonneg hx.1] at this
    exact List.length_pos_iff.mpr fun e => by rw [e] at this; exact absurd this (by decide)
  cases hs
  · exact key (3, 4) (by simp) hk
  · exact key (6, 3) (by simp) hk
  · exact key (3, 6) (by simp) hk
  · exact key (4, 5) (by simp) hk
theorem far_mem {f k t : Int} {n : Nat} (h : t ∈ farL f k n) : Ix t n ∧ farP f k t := by
  obtain ⟨s, hs, rfl⟩ := List.mem_map.mp h
  obtain ⟨h1, h2⟩ := List.mem_filter.mp hs
  exact ⟨ixN (List.mem_range.mp h1), of_decide_eq_true h2⟩
section
variable {f r : Int} {cells : List Int} {s side : Int}
theorem near_way {w : Int × Int} : ∀ w ∈ straightL ++ slantL, decide ((-1 ≤ w.1 ∧ w.1 ≤ 1) ∧ (-1 ≤ w.2 ∧ w.2 ≤ 1)) = true := by decide
theorem abs1 {a e : Int} (h : -1 ≤ e ∧ e ≤ 1) : ¬ 1 < absD (a + e - a) := by unfold absD; split <;> omega
theorem king_near (hf : 0 < f) (hk : gz cells s % 8 = 6) {q : Int} (h : q ∈ goalsV f r cells s) : ¬ farP f s q := by
  unfold goalsV at h
  rw [hk] at h
  refine go1 fun G hG => ?_
  obtain ⟨l, hl, hq⟩ := List.mem_flatten.mp h
  obtain ⟨w, hw, rfl⟩ := List.mem_map.mp hl
  obtain ⟨w1, w2⟩ := of_decide_eq_true (near_way (w := w) w hw)
  refine hG ?_
  rw [rayV_s] at hq
  split at hq
  · rename_i hin
    rw [if_pos (.inr (.inl rfl))] at hq
    rw [List.mem_singleton.mp hq]
    have e1 : ((s / f + w.2) * f + (s % f + w.1)) % f = s % f + w.1 := by rw [Int.add_comm, Int.add_mul_emod_self_right]; exact Int.emod_eq_of_lt hin.1.1 hin.1.2
    have e2 : ((s / f + w.2) * f + (s % f + w.1)) / f = s / f + w.2 := by rw [Int.add_comm, Int.add_mul_ediv_right _ _ (Int.ne_of_gt hf), Int.ediv_eq_zero_of_lt hin.1.1 hin.1.2, Int.zero_add]
    unfold farP
    rw [e1, e2]
    exact fun h => h.elim (abs1 w1) (abs1 w2)
  · exact nomatch hq
theorem far_ne_self {k : Int} (h : farP f k k) : False := by
  unfold farP at h
  rw [Int.sub_self, Int.sub_self] at h
  exact absurd h (by decide)
theorem far_symm {k t : Int} (h : farP f k t) : farP f t k := h.imp (fun h => by unfold absD at *; split at h <;> split <;> omega) fun h => by unfold absD at *; split at h <;> split <;> omega
theorem idx_eq {j : Nat} {k : Int} (B : BJ f r cells j) (hk : k = 6 ∨ k = 14) {i : Int} (hi : Ix i (f * r).toNat) (e : gz cells i = k) : ((cells.idxOf k : Nat) : Int) = i := by
  have hm := B.mem hk
  have h1 : cells.idxOf k < (f * r).toNat := B.co.len ▸ List.idxOf_lt_length_iff.mpr hm
  have h2 : gz cells ((cells.idxOf k : Nat) : Int) = k := by
    unfold gz
    rw [Int.toNat_natCast, List.getD_eq_getElem?_getD, List.getElem?_eq_getElem (B.co.len ▸ h1)]
    exact List.getElem_idxOf _
  have h3 : gz cells (i.toNat : Int) = k := by rw [Int.toNat_of_nonneg hi.1]; exact e
  have : cells.idxOf k = i.toNat := hk.elim (fun z => kc_uniq (z ▸ B.k0) h1 hi.2 h2 h3) fun z => kc_uniq (z ▸ B.k1) h1 hi.2 h2 h3
  rw [this, Int.toNat_of_nonneg hi.1]
theorem sum_zero {G : Int → Int → Int} (hG : ∀ s, G 0 s = 0) {n : Nat} : ∀ {m : Nat}, sumC G (List.replicate n 0) m = 0 := by
  intro m
  induction m with
  | zero => rfl
  | succ m ih => show sumC G (List.replicate n 0) m + G (gz (List.replicate n 0) m) m = 0; rw [ih, gz_rep, hG]; rfl
theorem kings_bj (hs : Sh f r) (hsd : side = 0 ∨ side = 1) {k t : Int} (hk : Ix k (f * r).toNat) (ht : Ix t (f * r).toNat) (hf : farP f k t) :
    BJ f r (sz (sz (List.replicate (f * r).toNat 0) k 6) t 14) 2 ∧ SafeB f r (sz (sz (List.replicate (f * r).toNat 0) k 6) t 14) side := by
  have hkt : t ≠ k := fun e => far_ne_self (e ▸ hf)
  have z : CO f r (List.replicate (f * r).toNat 0) := ⟨List.length_replicate, fun x hx => by rw [(List.mem_replicate.mp hx).2]; decide⟩
  have hk' := z.ix hk
  have ht' := z.ix ht
  have z1 := z.set (s := k) (v := 6) (by decide)
  have gk : gz (sz (List.replicate (f * r).toNat 0) k 6) t = 0 := by rw [gz_sz hk' ht.1, if_neg hkt, gz_rep]
  have val : ∀ i, 0 ≤ i → gz (sz (sz (List.replicate (f * r).toNat 0) k 6) t 14) i = if i = t then 14 else if i = k then 6 else 0 := fun i hi => by rw [gz_sz (ixz ht') hi, gz_sz hk' hi, gz_rep]
  have sm : ∀ G : Int → Int → Int, (∀ s, G 0 s = 0) → sumC G (sz (sz (List.replicate (f * r).toNat 0) k 6) t 14) (f * r).toNat = G 6 k + G 14 t := fun G hG => by rw [sum_ix z1 ht, sum_ix z hk, gk, gz_rep, hG, hG, sum_zero hG]; lia
  have B : BJ f r (sz (sz (List.replicate (f * r).toNat 0) k 6) t 14) 2 := ⟨z1.set (by decide), fun s hx e => by rw [val s hx.1] at e; split at e; exact absurd e (by decide); split at e <;> exact absurd e (by decide), by rw [sm _ fun s => rfl]; rfl, by rw [sm _ fun s => rfl]; rfl, by rw [sm _ fun s => rfl]; exact Int.le_refl 2⟩
  refine ⟨B, fun ⟨q, hq, a⟩ => ?_⟩
  have an := a.an
  have as := a.as
  have ag := a.ag
  have g0 := hs.le.2.1
  rw [val q (Int.natCast_nonneg q)] at an as
  rcases hsd with rfl | rfl
  · rw [show (14 : Int) - 0 * 8 = 14 from rfl, idx_eq B (.inr rfl) ht (by rw [val t ht.1, if_pos rfl])] at ag
    split at as
    · exact absurd as (by decide)
    · split at as
      · rename_i e
        rw [e] at ag
        exact king_near g0 (by rw [val k hk.1, if_neg (Ne.symm hkt), if_pos rfl]; rfl) ag hf
      · rename_i e1 e2; rw [if_neg e1, if_neg e2] at an; exact an rfl
  · rw [show (14 : Int) - 1 * 8 = 6 from rfl, idx_eq B (.inl rfl) hk (by rw [val k hk.1, if_neg (Ne.symm hkt), if_pos rfl])] at ag
    split at as
    · rename_i e
      rw [e] at ag
      exact king_near g0 (by rw [val t ht.1, if_pos rfl]; rfl) ag (far_symm hf)
    · split at as
      · exact absurd as (by decide)
      · exact absurd as (by decide)
noncomputable def homeL : List Int := [4, 0, 0, 6, 0, 0, 0, 0, 0, 0, 0, 0, 12, 0, 0, 14, 0, 0]
theorem home_safe : (heldB 6 3 homeL 15 0 = false ∧ heldB 6 3 homeL 3 1 = false) ∧ ((homeL.idxOf 14 = 15 ∧ homeL.idxOf 6 = 3) ∧ (homeL.all fun x => decide ((0 ≤ x ∧ x < 15 ∧ x ≠ 7 ∧ x ≠ 8) ∧ x % 8 ≠ 1)) = true) ∧ sumC (kc 6) homeL 18 = 1 ∧ sumC (kc 14) homeL 18 = 1 ∧ sumC mc homeL 18 = 4 := by decide +kernel
theorem home_bj (hsd : side = 0 ∨ side = 1) : BJ 6 3 homeL 4 ∧ SafeB 6 3 homeL side ∧ RI true homeL 10 := by
  obtain ⟨⟨h1, h2⟩, ⟨⟨h3, h4⟩, h5⟩, h6, h7, h8⟩ := home_safe
  have all := fun x hx => of_decide_eq_true (List.all_eq_true.mp h5 x hx)
  refine ⟨⟨⟨rfl, fun x hx => (all x hx).1⟩, fun s _ e => absurd e ?_, h6, h7, Int.le_of_eq h8⟩, ?_, ⟨.inr (.inr (.inr rfl)), fun zz => rfl, fun zz => ⟨rfl, rfl⟩, fun zz => ⟨rfl, rfl⟩⟩⟩
  · exact gz_mem.elim (fun e => by rw [e]; decide) fun h => (all _ h).2
  · unfold SafeB
    rcases hsd with rfl | rfl
    · rw [show (14 : Int) - 0 * 8 = 14 from rfl, h3]; exact held_b h1
    · rw [show (14 : Int) - 1 * 8 = 6 from rfl, h4]; exact held_b h2
end
end Vg
end
section
set_option autoImplicit false
set_option linter.all false
namespace Vg
open PySem PySem.W PyProof.Rows
theorem Exit.tl {M M' : Mem} {Q : AV → Mem → Prop} {a : Addr} {xs : List AV} {i : Int} (h : M' a = some (.list xs)) (hf : M a = none) (hl : M.le M') (q : Q (.tup [.lst xs, .int i]) M) : Exit M Q (.tup [.ref a, .int i]) M' :=
  ⟨fun x => decide (x = a), 2, M, fun b hb => by rw [of_decide_eq_true hb]; exact hf, hl, fun b hb => by rw [of_decide_eq_true hb]; exact hf, by
    have e : frz (fun x => decide (x = a)) M' 2 (.tup [.ref a, .int i]) = .tup [.lst xs, .int i] := by
      show AV.tup [if decide (a = a) then (match M' a with | some (.list xs) => AV.lst (xs.map fun x => x) | _ => .ref a) else .ref a, .int i] = _
      rw [if_pos (decide_eq_true rfl), h]; exact congrArg (fun x => AV.tup [x, .int i]) (congrArg AV.lst (List.map_id' _))
    rw [e]; exact q⟩
section
variable {M M' X : Mem} {o : Addr} {Q : AV → Mem → Prop} {N B : List AV → Mem → Prop} {R : AV → Mem → Prop} {f r side n rights s p : Int} {db cb : Bool} {cells drawn : List Int} {x1 v10 v11 v12 v13 v14 v15 v16 v17 v18 v19 v20 v21 v22 : AV} {j : Nat}
noncomputable abbrev bn (f r : Int) (db cb : Bool) (x1 : AV) (n side : Int) (o : Addr) (rights : Int) (v11 v12 v13 v14 v15 v16 v17 v18 v19 v20 v21 v22 : AV) : List AV :=
  [shV f r db cb, x1, .int n, .int side, .int f, .int r, .bool db, .bool cb, .int (f * r), .ref o, .int rights, v11, v12, v13, v14, v15, v16, v17, v18, v19, v20, v21, v22]
theorem place (hs : Sh f r) (hsd : side = 0 ∨ side = 1) (b : BJ f r cells j) (S : SafeB f r cells side) (hx : Ix s (f * r).toNat) (h0 : gz cells s = 0) (hp : 0 ≤ p ∧ p < 15 ∧ p ≠ 7 ∧ p ≠ 8) (h6 : p ≠ 6) (h14 : p ≠ 14) (hpi : p % 8 = 1 → s / f ≠ lastR r (p / 8)) (hX : X o = none)
    (q : ∀ c, BJ f r c (j + 1) → SafeB f r c side → Keep cells c → N (bn f r db cb x1 n side o rights v11 v12 v13 (.int s) v15 v16 v17 v18 v19 v20 v21 v22) (X.set o (iL c))) :
    (St.seq (.ife (.call t_law_held [(.v 4), (.v 5), (.v 9), (.me .index (.v 9) (.bin .sub (.c (.int 14)) (.bin .mul (.v 3) (.c (.int 8))))), (.v 3)]) (.seq (.sets (.v 9) (.v 14) (.c (.int 0))) .nop) .nop) .nop) (bn f r db cb x1 n side o rights v11 v12 v13 (.int s) v15 v16 v17 v18 v19 v20 v21 v22) (X.set o (iL (sz cells s p))) N B R := by
  have hi := b.co.ix hx
  have b' := b.put hx h0 hp h6 h14 hpi
  have hm : 14 - side * 8 ∈ sz cells s p := b'.mem (by rcases hsd with rfl | rfl <;> decide)
  refine .intro ⟨_, Mem.set_self _ _ _, trivial⟩ <| .intro (by rcases hsd with rfl | rfl <;> exact smc rfl) <| .intro _ <| .intro (Mem.set_self _ _ _) <| .intro _ <| .intro rfl <| .intro hm <| C_held (.ref (Mem.set_self _ _ _)) hs b'.co fun u hu => .intro (fun h => ?_) fun h => ?_
  · refine setS (ixz hi) ?_
    rw [sz_back hi h0]
    exact q _ (b.mono (Nat.le_succ j)) S fun i _ _ => rfl
  · exact q _ b' (fun h' => h (hu.mpr h')) (keep_set hi h0)
theorem mod2 {x : Int} : x % 2 = 0 ∨ x % 2 = 1 := by lia
theorem pk_ok {c k : Int} (hc : c = 0 ∨ c = 1) (hk : 1 ≤ k ∧ k ≤ 5) : (0 ≤ c * 8 + k ∧ c * 8 + k < 15 ∧ c * 8 + k ≠ 7 ∧ c * 8 + k ≠ 8) ∧ c * 8 + k ≠ 6 ∧ c * 8 + k ≠ 14 ∧ (c * 8 + k) % 8 = k ∧ (c * 8 + k) / 8 = c := by
  have h5 : k = 1 ∨ k = 2 ∨ k = 3 ∨ k = 4 ∨ k = 5 := by lia
  exact (by decide : ∀ c ∈ [(0 : Int), 1], ∀ k ∈ [(1 : Int), 2, 3, 4, 5], (0 ≤ c * 8 + k ∧ c * 8 + k < 15 ∧ c * 8 + k ≠ 7 ∧ c * 8 + k ≠ 8) ∧ c * 8 + k ≠ 6 ∧ c * 8 + k ≠ 14 ∧ (c * 8 + k) % 8 = k ∧ (c * 8 + k) / 8 = c) c (by simpa using hc) k (by simpa using h5)
theorem in_last {r side y : Int} (h : 0 < y ∧ y < r - 1) : y ≠ lastR r side := by unfold lastR; split <;> omega
theorem b_last (ho : X o = none) (hX : M.le X) (b : BJ f r cells 11) (S : SafeB f r cells side) (R : RI cb cells rights) (q : ∀ c rights, BJ f r c 11 → SafeB f r c side → RI cb c rights → Q (.tup [aints c, .int rights]) M) :
    q_law_board_7 (bn f r db cb x1 n side o rights v11 v12 v13 v14 v15 v16 v17 v18 v19 v20 v21 v22) (X.set o (iL cells)) N B (XR M Q) := Exit.tl (Mem.set_self _ _ _) (hX.none ho) (hX.trans (Mem.le_set ho)) (q cells rights b S R)
theorem b_draw (hs : Sh f r) (hsd : side = 0 ∨ side = 1) (b : BJ f r cells j) (S : SafeB f r cells side) (hX : X o = none) {v : Int} (q : ∀ c v14 v21, BJ f r c (j + 1) → SafeB f r c side → Keep cells c → N (bn f r db cb x1 n side o rights v11 v12 v13 v14 v15 v16 v17 v18 v19 (.int v) v21 v22) (X.set o (iL c))) :
    w_law_board_3 (bn f r db cb x1 n side o rights v11 v12 v13 v14 v15 v16 v17 v18 v19 (.int v) v21 v22) (X.set o (iL cells)) N B R := by
  have hl := hs.le
  have hx : Ix (v / 10 % (f * r)) (f * r).toNat := ix_mod (by omega)
  have k1 : 0 ≤ v % 5 ∧ v % 5 < 5 := ⟨Int.emod_nonneg _ (by decide), Int.emod_lt_of_pos _ (by decide)⟩
  have k2 : v / 5 % 2 = 0 ∨ v / 5 % 2 = 1 := mod2
  have no := q cells (.int (v / 10 % (f * r))) (.int (1 + v % 5)) (b.mono (Nat.le_succ j)) S fun i _ _ => rfl
  refine .intro (by decide) <| .intro (by decide) <| .intro (by omega) <| .intro (by decide) ?_
  have hi := b.co.ix hx
  generalize v / 10 % (f * r) = s at *
  have sk : sm (v / 5 % 2) := by rcases k2 with e | e <;> rw [e] <;> exact smc rfl
  have go : gz cells s = 0 → (1 + v % 5 ≠ 1 ∨ (0 < s / f ∧ s / f < r - 1)) → (St.seq (.sets (.v 9) (.v 14) (.bin .add (.bin .mul (.bin .mod (.bin .fdiv (.v 20) (.c (.int 5))) (.c (.int 2))) (.c (.int 8))) (.v 21))) (.seq (.ife (.call t_law_held [(.v 4), (.v 5), (.v 9), (.me .index (.v 9) (.bin .sub (.c (.int 14)) (.bin .mul (.v 3) (.c (.int 8))))), (.v 3)]) (.seq (.sets (.v 9) (.v 14) (.c (.int 0))) .nop) .nop) .nop)) (bn f r db cb x1 n side o rights v11 v12 v13 (.int s) v15 v16 v17 v18 v19 (.int v) (.int (1 + v % 5)) v22) (X.set o (iL cells)) (fun m M => St.nop m M N B R) B R := fun h0 h1 => by
    refine go1 fun G hG => ?_
    obtain ⟨p1, p2, p3, p4, p5⟩ := pk_ok (k := 1 + v % 5) k2 ⟨by omega, by omega⟩
    refine hG ?_
    exact .intro (by decide) <| .intro (by decide) <| .intro (by decide) <| .intro sk <| setS hi <| place hs hsd b S hx h0 p1 p2 p3 (fun e => h1.elim (fun h => absurd (p4.symm.trans e) h) fun h => in_last h) hX fun c b' S' k => q c _ _ b' S' k
  exact subS hi <| .intro (fun h0 => .intro (fun h1 => iP trivial <| go h0 (.inl h1)) fun h1 => .intro (by omega) <| .intro (by omega) <| .intro (fun h2 => .intro (fun h3 => go h0 (.inr ⟨h2, h3⟩)) fun zz => no) fun zz => iN id no) fun zz => iN id no
inductive DrI (f r : Int) (db cb : Bool) (x1 : AV) (n side : Int) (o : Addr) (rights : Int) (v11 v12 v13 v15 v16 v17 v18 v19 v22 : AV) (X : Mem) (i : Nat) : List AV → Mem → Prop
  | mk (cl : List Int) (v14 v20 v21 : AV) (b : BJ f r cl (4 + i)) (S : SafeB f r cl side) (ri : RI cb cl rights) : DrI f r db cb x1 n side o rights v11 v12 v13 v15 v16 v17 v18 v19 v22 X i (bn f r db cb x1 n side o rights v11 v12 v13 v14 v15 v16 v17 v18 v19 v20 v21 v22) (X.set o (iL cl))
theorem b_loop (hs : Sh f r) (hsd : side = 0 ∨ side = 1) (hx : LI X drawn x1) (hd : drawn.length ≤ 24) (hn : 0 ≤ n) (b : BJ f r cells 4) (S : SafeB f r cells side) (ri : RI cb cells rights) (ho : X o = none) (hX : M.le X) (q : ∀ c rights, BJ f r c 11 → SafeB f r c side → RI cb c rights → Q (.tup [aints c, .int rights]) M) :
    q_law_board_6 (bn f r db cb x1 n side o rights v11 v12 v13 v14 v15 v16 v17 v18 v19 v20 v21 v22) (X.set o (iL cells)) N B (XR M Q) := by
  have hl := hs.le
  have hx' : LI (X.set o (iL cells)) drawn x1 := hx.le (Mem.le_set ho)
  refine hx'.d <| .intro (by decide) <| .intro (Int.le_min.mpr ⟨hn, by decide⟩) <| hx'.list <| .intro (by rw [List.length_drop, List.length_take, List.length_map]; exact Nat.le_trans (Nat.sub_le _ _) (Nat.le_trans (Nat.min_le_right _ _) (Nat.le_trans hd (by decide)))) fun c hc => ?_
  have hoc : o ≠ c := fun e => by subst e; rw [Mem.set_self] at hc; cases hc
  have hXc : X c = none := (Mem.set_ne X (iL cells) hoc.symm).symm.trans hc
  rw [Mem.set_comm X _ _ hoc, show ((drawn.map AV.int).take (min n 11).toNat).drop (4 : Int).toNat = ((drawn.take (min n 11).toNat).drop 4).map .int by rw [List.map_drop, List.map_take]; rfl]
  have hln : ((drawn.take (min n 11).toNat).drop 4).length ≤ 7 := by rw [List.length_drop, List.length_take]; exact Nat.sub_le_of_le_add (Nat.le_trans (Nat.min_le_left _ _) (Int.toNat_le.mpr (Int.min_le_right _ _)))
  generalize (drawn.take (min n 11).toNat).drop 4 = ds at *
  have hY : (X.set c (iL ds)) o = none := (Mem.set_ne _ _ hoc).trans ho
  refine .intro _ <| .intro ((Mem.set_ne _ _ hoc.symm).trans (Mem.set_self X c (iL ds))) <| ⟨DrI f r db cb x1 n side o rights v11 v12 v13 v15 v16 v17 v18 v19 v22 (X.set c (iL ds)), ⟨_, _, _, _, b, S, ri⟩, ?_, ?_⟩
  · rintro i x _ _ e ⟨cl, v14, v20, v21, b, S, ri⟩
    rw [List.getElem?_map] at e
    obtain ⟨v, e1, rfl⟩ := Option.map_eq_some_iff.mp e
    exact b_draw hs hsd b S hY fun c' v14 v21 b' S' k => .intro ((Mem.set_ne _ _ hoc.symm).trans (Mem.set_self X c (iL ds))) ⟨_, _, _, _, b', S', ri.keep k⟩
  · rintro _ _ ⟨cl, v14, v20, v21, b, S, ri⟩
    rw [List.length_map] at b
    exact b_last hY (hX.trans (Mem.le_set hXc)) (b.mono (by clear b; lia)) S ri q
end
end Vg
end
section
set_option autoImplicit false
set_option linter.all false
namespace Vg
open PySem PySem.W PyProof.Rows
theorem addv {i : Nat} {m : List AV} {M : Mem} {a b : Int} {N : AV → Mem → Prop} (e : m.getD i .undef = .int b) (q : N (.int (a + b)) M) : (X.v i).e m M (fun y M => binP M .add (.int a) y N) := show defd (m.getD i .undef) _ by rw [e]; exact q
theorem far_succ {f k : Int} {i : Nat} : farL f k (i + 1) = if farP f k i then farL f k i ++ [(i : Int)] else farL f k i := by
  unfold farL
  rw [List.range_succ, List.filter_append, List.map_append, List.filter_cons, List.filter_nil]
  by_cases h : farP f k i
  · rw [if_pos (decide_eq_true h), if_pos h]; rfl
  · rw [if_neg (fun e => h (of_decide_eq_true e)), if_neg h]; exact List.append_nil _
theorem dbl_fin : ([((3 : Int), (6 : Int)), (4, 5)].all fun b => [(0 : Int), 1].all fun s => (List.range (b.1 - 1).toNat).all fun (e : Nat) => decide (
    let st := b.1 * (if s = 0 then 1 else b.2 - 2) + e
    let bs := st + 2 * b.1 * (1 - 2 * s) + 1
    (Ix st (b.1 * b.2).toNat ∧ st / b.1 ≠ lastR b.2 s) ∧ Ix bs (b.1 * b.2).toNat ∧ bs / b.1 ≠ lastR b.2 (1 - s))) = true := by decide +kernel
theorem dbl_ok {f r s e st bs : Int} (hs : Sh f r) (hr : 5 ≤ r) (hsd : s = 0 ∨ s = 1) (he : Ix e (f - 1).toNat) (h1 : st = f * (if s = 0 then 1 else r - 2) + e) (h2 : bs = st + 2 * f * (1 - 2 * s) + 1) :
    (Ix st (f * r).toNat ∧ st / f ≠ lastR r s) ∧ Ix bs (f * r).toNat ∧ bs / f ≠ lastR r (1 - s) := by
  have key : ∀ b : Int × Int, b ∈ [((3 : Int), (6 : Int)), (4, 5)] → b.1 = f → b.2 = r → (Ix st (f * r).toNat ∧ st / f ≠ lastR r s) ∧ Ix bs (f * r).toNat ∧ bs / f ≠ lastR r (1 - s) := fun b hb e1 e2 => by
    subst e1 e2 h1 h2
    have := of_decide_eq_true (List.all_eq_true.mp (List.all_eq_true.mp (List.all_eq_true.mp dbl_fin b hb) s (by rcases hsd with rfl | rfl <;> simp)) e.toNat (List.mem_range.mpr he.2))
    rw [Int.toNat_of_nonneg he.1] at this
    exact this
  cases hs
  · exact absurd hr (by decide)
  · exact absurd hr (by decide)
  · exact key (3, 6) (by simp) rfl rfl
  · exact key (4, 5) (by simp) rfl rfl
section
variable {M M' X : Mem} {o : Addr} {Q : AV → Mem → Prop} {N B : List AV → Mem → Prop} {R : AV → Mem → Prop} {f r side n rights s p : Int} {db cb : Bool} {cells drawn : List Int} {x1 v10 v11 v12 v13 v14 v15 v16 v17 v18 v19 v20 v21 v22 : AV} {j : Nat}
theorem b_two (hs : Sh f r) (hsd : side = 0 ∨ side = 1) (b : BJ f r cells j) (S : SafeB f r cells side) (hx : Ix s (f * r).toNat) (hp : 0 ≤ p ∧ p < 15 ∧ p ≠ 7 ∧ p ≠ 8) (h6 : p ≠ 6) (h14 : p ≠ 14) (hpi : p % 8 = 1 → s / f ≠ lastR r (p / 8)) (hX : X o = none)
    (q : ∀ c, BJ f r c (j + 1) → SafeB f r c side → Keep cells c → N (bn f r db cb x1 n side o rights v11 v12 v13 (.int s) v15 v16 v17 v18 (.int p) v20 v21 v22) (X.set o (iL c))) :
    w_law_board_2 (bn f r db cb x1 n side o rights v11 v12 v13 (.int s) v15 v16 v17 v18 (.int p) v20 v21 v22) (X.set o (iL cells)) N B R :=
  subS (b.co.ix hx) <| .intro (fun h0 => setS (b.co.ix hx) <| place hs hsd b S hx h0 hp h6 h14 hpi hX fun c b' S' k => q c b' S' k) fun zz => q cells (b.mono (Nat.le_succ j)) S fun i _ _ => rfl
theorem two_ok (hsd : side = 0 ∨ side = 1) : ((0 ≤ side * 8 + 1 ∧ side * 8 + 1 < 15 ∧ side * 8 + 1 ≠ 7 ∧ side * 8 + 1 ≠ 8) ∧ side * 8 + 1 ≠ 6 ∧ side * 8 + 1 ≠ 14 ∧ (side * 8 + 1) / 8 = side) ∧ (0 ≤ 9 - side * 8 ∧ 9 - side * 8 < 15 ∧ 9 - side * 8 ≠ 7 ∧ 9 - side * 8 ≠ 8) ∧ 9 - side * 8 ≠ 6 ∧ 9 - side * 8 ≠ 14 ∧ (9 - side * 8) / 8 = 1 - side ∧ sm side := by rcases hsd with rfl | rfl <;> exact ⟨by decide, by decide, by decide, by decide, by decide, smc rfl⟩
theorem b_dbl2 (hs : Sh f r) (hr : 5 ≤ r) (hsd : side = 0 ∨ side = 1) (hx : LI X drawn x1) (hd : drawn.length = 24) (hn : 0 ≤ n) (b2 : BJ f r cells 2) (S : SafeB f r cells side) (ri : RI cb cells rights) (ho : X o = none) (hX : M.le X)
    (q : ∀ c rights, BJ f r c 11 → SafeB f r c side → RI cb c rights → Q (.tup [aints c, .int rights]) M) {e st : Int} (he : Ix e (f - 1).toNat) (hst : st = f * (if side = 0 then 1 else r - 2) + e) :
    v_law_board_4_2
      (bn f r db cb x1 n side o rights v11 v12 v13 v14 v15 (.int e) (.int st) .undef .undef .undef .undef .undef) (X.set o (iL cells)) (fun m M' => q_law_board_6 m M' N B (XR M Q)) B (XR M Q) := by
  obtain ⟨⟨a1, a2, a3, a4⟩, c1, c2, c3, c4, c5⟩ := two_ok hsd
  have sf : sm f ∧ sm (2 * f) := by cases hs <;> exact ⟨smc rfl, smc rfl⟩
  obtain ⟨⟨i1, i2⟩, i5, i6⟩ := dbl_ok hs hr hsd he hst rfl
  exact .intro sm2 <| .intro sm2 <| .intro sf.2 <| .intro c5 <| .intro c5 <| forP.of <| .intro rfl <| b_two hs hsd b2 S i1 a1 a2 a3 (fun zz => by rw [a4]; exact i2) ho fun c b S k => .intro trivial <| .intro rfl <| b_two hs hsd b S i5 c1 c2 c3 (fun zz => by rw [c4]; exact i6) ho fun c' b S k' => .intro trivial <|
    b_loop hs hsd hx (Nat.le_of_eq hd) hn b S ((ri.keep k).keep k') ho hX q
theorem b_dbl (hs : Sh f r) (hdb : db = true → 5 ≤ r) (hsd : side = 0 ∨ side = 1) (hx : LI X drawn x1) (hd : drawn.length = 24) (hn : 0 ≤ n) (b4 : BJ f r cells 4) (b2 : db = true → BJ f r cells 2) (S : SafeB f r cells side) (ri : RI cb cells rights) (ho : X o = none) (hX : M.le X)
    (q : ∀ c rights, BJ f r c 11 → SafeB f r c side → RI cb c rights → Q (.tup [aints c, .int rights]) M) :
    q_law_board_5 (bn f r db cb x1 n side o rights v11 v12 v13 v14 v15 .undef .undef .undef .undef .undef .undef .undef) (X.set o (iL cells)) N B (XR M Q) := by
  have hl := hs.le
  have hx' : LI (X.set o (iL cells)) drawn x1 := hx.le (Mem.le_set ho)
  have hf1 : 0 < f - 1 := by cases hs <;> decide
  have i3 : Ix 3 drawn.length := by rw [hd]; decide
  have no : ∀ {v14 v15 v16 v17 v18 v19 v20 v21 v22}, q_law_board_6 (bn f r db cb x1 n side o rights v11 v12 v13 v14 v15 v16 v17 v18 v19 v20 v21 v22) (X.set o (iL cells)) N B (XR M Q) := b_loop hs hsd hx (Nat.le_of_eq hd) hn b4 S ri ho hX q
  refine subF (by decide : (0 : Int) ≤ 2) rfl <| .intro (fun h => hx'.d <| hx'.sub i3 <| .intro (by decide) <| .intro (by decide) <| .intro (by decide) <| .intro (fun zz => hx'.d <| hx'.sub i3 <| .intro (by decide) <| .intro (by decide) <| .intro hf1 ?_) fun zz => no) fun zz => iN id no
  have hr := hdb h
  have he : Ix (gz drawn 3 / 4 % (f - 1)) (f - 1).toNat := ix_mod hf1
  generalize gz drawn 3 / 4 % (f - 1) = e at *
  obtain ⟨⟨a1, a2, a3, a4⟩, c1, c2, c3, c4, c5⟩ := two_ok hsd
  have sf : sm f ∧ sm (2 * f) := by cases hs <;> exact ⟨smc rfl, smc rfl⟩
  have tl := fun st => b_dbl2 (db := db) (v11 := v11) (v12 := v12) (v13 := v13) (v14 := v14) (v15 := v15) (N := N) (B := B) (st := st) hs hr hsd hx hd hn (b2 h) S ri ho hX q he
  exact .intro (fun h0 => .intro sf.1 <| addv rfl <| tl _ (by rw [if_pos h0])) fun h0 => .intro sf.1 <| addv rfl <| tl _ (by rw [if_neg h0])
end
end Vg
end
section
set_option autoImplicit false
set_option linter.all false
namespace Vg
open PySem PySem.W PyProof.Rows
theorem home_eq : sz (sz (sz (sz (List.replicate (6 * 3 : Int).toNat 0) 0 (0 + 4)) (0 + 6 / 2) (0 + 6)) (6 * 3 - 6) (8 + 4)) (6 * 3 - 6 + 6 / 2) (8 + 6) = homeL := by decide
section
variable {M M' X : Mem} {o : Addr} {Q : AV → Mem → Prop} {N B : List AV → Mem → Prop} {R : AV → Mem → Prop} {f r side n rights s p : Int} {db cb : Bool} {cells drawn : List Int} {x1 v10 v11 v12 v13 v14 v15 v16 v17 v18 v19 v20 v21 v22 : AV} {j : Nat}
theorem b_home (hdb : db = true → (5 : Int) ≤ 3) (hsd : side = 0 ∨ side = 1) (hx : LI X drawn x1) (hd : drawn.length = 24) (hn : 0 ≤ n) (ho : X o = none) (hX : M.le X)
    (q : ∀ c rights, BJ 6 3 c 11 → SafeB 6 3 c side → RI true c rights → Q (.tup [aints c, .int rights]) M) :
    v_law_board_1 (bn 6 3 db true x1 n side o rights .undef .undef .undef .undef .undef .undef .undef .undef .undef .undef .undef .undef) (X.set o (iL (List.replicate (6 * 3 : Int).toNat 0))) (fun m M' => q_law_board_5 m M' N B (XR M Q)) B (XR M Q) := by
  refine go1 fun G hG => ?_
  obtain ⟨b, S, ri⟩ := home_bj hsd
  refine hG ?_
  have z : ∀ {i : Int}, Ix i 18 → Ix i (List.replicate (6 * 3 : Int).toNat (0 : Int)).length := fun h => by rw [List.length_replicate]; exact h
  refine forP.of <| .intro rfl <| setS (z (by decide)) <| .intro (by decide) <| .intro (by decide) <| setS (ixz (z (by decide))) <| .intro trivial <| .intro rfl <| setS (ixz (ixz (z (by decide)))) <| .intro (by decide) <| .intro (by decide) <| setS (ixz (ixz (ixz (z (by decide))))) <| .intro trivial ?_
  rw [home_eq]
  exact b_dbl .b hdb hsd hx hd hn b (fun h => absurd (hdb h) (by decide)) S ri ho hX q
theorem rdI {m : List AV} {j : Nat} {a : Int} {G : AV → Prop} (e : m.getD j .undef = .int a) (q : G (.int a)) : defd (m.getD j .undef) G := by rw [e]; exact q
theorem gz_mem' {l : List Int} {i : Int} (h : Ix i l.length) : gz l i ∈ l := by
  unfold gz
  rw [List.getD_eq_getElem?_getD, List.getElem?_eq_getElem h.2]
  exact List.getElem_mem h.2
theorem far_comp {k : Int} {m : List AV} {n : Int} (hf : 0 < f ∧ f ≤ 6) (e4 : m.getD 4 .undef = .int f) (e13 : m.getD 13 .undef = .int k) {K : List AV → Mem → Prop} (h22 : 22 < m.length) (q : K ((farL f k n.toNat).map .int) M) :
    compP (.or (.cmp .gt (.bi .abs [(.bin .sub (.bin .mod (.v 22) (.v 4)) (.bin .mod (.v 13) (.v 4)))]) (.c (.int 1))) (.cmp .gt (.bi .abs [(.bin .sub (.bin .fdiv (.v 22) (.v 4)) (.bin .fdiv (.v 13) (.v 4)))]) (.c (.int 1)))) (.v 22) 22 (.rng 0 n 1) (rngL 0 n 1) m M K := by
  have hl : (rngL 0 n 1).length = n.toNat := by rw [rngL, if_pos rfl, List.length_map, List.length_range, Int.sub_zero]
  refine ⟨fun i acc M' => M = M' ∧ acc = (farL f k i).map .int, ⟨rfl, rfl⟩, fun i x acc M' e h => ?_, fun acc M' h => ?_⟩
  · obtain ⟨rfl, rfl⟩ := h
    obtain ⟨hi, _⟩ := List.getElem?_eq_some_iff.mp e
    rw [rngL_get (.inl rfl) hi, Int.mul_one, Int.zero_add] at e
    cases e
    have g22 : (m.set 22 (.int i)).getD 22 .undef = .int i := by rw [List.getD_eq_getElem?_getD, List.getElem?_set, if_pos rfl, if_pos h22]; rfl
    have g4 : (m.set 22 (.int i)).getD 4 .undef = .int f := by rw [← e4, List.getD_eq_getElem?_getD, List.getElem?_set, if_neg (by decide), List.getD_eq_getElem?_getD]
    have g13 : (m.set 22 (.int i)).getD 13 .undef = .int k := by rw [← e13, List.getD_eq_getElem?_getD, List.getElem?_set, if_neg (by decide), List.getD_eq_getElem?_getD]
    generalize m.set 22 (.int i) = m' at *
    have yes : farP f k i → (farL f k i).map AV.int ++ [.int i] = (farL f k (i + 1)).map .int := fun h => by rw [far_succ, if_pos h, List.map_append]; rfl
    have el : farP f k i → (X.v 22).e m' M fun y M' => stillP M' (.rng 0 n 1) (rngL 0 n 1) ∧ M = M' ∧ (farL f k i).map AV.int ++ [y] = (farL f k (i + 1)).map .int := fun h => show defd (m'.getD 22 .undef) _ by rw [g22]; exact ⟨trivial, rfl, yes h⟩
    exact rdI g22 <| rdI g4 <| .intro hf.1 <| rdI g13 <| rdI g4 <| .intro hf.1 <| .intro (fun h => .intro (fun zz => el (.inl h)) fun h => absurd trivial h) fun h => rdI g22 <| rdI g4 <| .intro hf.1 <| .intro (Int.le_trans hf.2 (by decide)) <| rdI g13 <| rdI g4 <| .intro hf.1 <| .intro (Int.le_trans hf.2 (by decide)) <| .intro (fun h' => el (.inr h')) fun h' =>
      ⟨trivial, rfl, by rw [far_succ, if_neg fun z => z.elim h h']⟩
  · obtain ⟨rfl, rfl⟩ := h
    rw [hl]; exact q
theorem b_kings (hs : Sh f r) (hdb : db = true → 5 ≤ r) (hsd : side = 0 ∨ side = 1) (hx : LI X drawn x1) (hd : drawn.length = 24) (hn : 0 ≤ n) (ho : X o = none) (hX : M.le X)
    (q : ∀ c rights, BJ f r c 11 → SafeB f r c side → RI cb c rights → Q (.tup [aints c, .int rights]) M) :
    v_law_board_2 (bn f r db cb x1 n side o 0 .undef .undef .undef .undef .undef .undef .undef .undef .undef .undef .undef .undef) (X.set o (iL (List.replicate (f * r).toNat 0))) (fun m M' => q_law_board_5 m M' N B (XR M Q)) B (XR M Q) := by
  have hl := hs.le
  have h0 : 0 < f * r := by omega
  have hx' : LI (X.set o (iL (List.replicate (f * r).toNat 0))) drawn x1 := hx.le (Mem.le_set ho)
  have hk : Ix (gz drawn 1 % (f * r)) (f * r).toNat := ix_mod h0
  have t1 : ∀ k, Ix k (f * r).toNat → v_law_board_2_1 (bn f r db cb x1 n side o 0 .undef .undef (.int k) .undef .undef .undef .undef .undef .undef .undef .undef .undef) (X.set o (iL (List.replicate (f * r).toNat 0))) (fun m M' => q_law_board_5 m M' N B (XR M Q)) B (XR M Q) := fun k hk => by
    refine .intro (okr15 (Int.le_of_lt h0) (by omega)) <| .intro (by rw [rngL, if_pos rfl, List.length_map, List.length_range]; omega) <| far_comp ⟨hl.2.1, hl.2.2.1⟩ rfl rfl (nle rfl) fun c hc => ?_
    have hoc : o ≠ c := fun e => by subst e; rw [Mem.set_self] at hc; cases hc
    have hXc : X c = none := (Mem.set_ne X _ hoc.symm).symm.trans hc
    have hfp := far_pos hs hk
    have hml : ((farL f k (f * r).toNat).map AV.int).length = (farL f k (f * r).toNat).length := List.length_map _
    have hz : ∀ {i}, Ix i (f * r).toNat → Ix i (List.replicate (f * r).toNat (0 : Int)).length := fun h => List.length_replicate.symm ▸ h
    rw [Mem.set_comm X _ _ hoc]
    have hY : (X.set c (iL (farL f k (f * r).toNat))) o = none := (Mem.set_ne _ _ hoc).trans ho
    have hxY : ∀ l, LI ((X.set c (iL (farL f k (f * r).toNat))).set o l) drawn x1 := fun l => (hx.le (Mem.le_set hXc)).le (Mem.le_set hY)
    have hxZ := hxY (iL (sz (List.replicate (f * r).toNat 0) k 6))
    have hc2 : ∀ l, ((X.set c (iL (farL f k (f * r).toNat))).set o l) c = some (iL (farL f k (f * r).toNat)) := fun l => (Mem.set_ne _ _ hoc.symm).trans (Mem.set_self _ _ _)
    have hi : Ix (gz drawn 2 % (((farL f k (f * r).toNat).map AV.int).length : Int)) (farL f k (f * r).toNat).length := by rw [hml]; have := ix_mod (i := gz drawn 2) (f := ((farL f k (f * r).toNat).length : Int)) (by omega); rwa [Int.toNat_natCast] at this
    obtain ⟨ht, hft⟩ := far_mem (gz_mem' hi)
    obtain ⟨bj, S⟩ := kings_bj hs hsd hk ht hft
    exact setS (hz hk) <| hxZ.d <| hxZ.sub (by rw [hd]; decide) <| .intro _ <| .intro (hc2 _) <| .intro (by rw [hml]; omega) <| subI (hc2 _) hi <| setS (ixz (hz ht)) <|
      b_dbl hs hdb hsd (hx.le (Mem.le_set hXc)) hd hn (bj.mono (by decide)) (fun zz => bj) S .zero hY (hX.trans (Mem.le_set hXc)) q
  exact hx'.d <| hx'.sub (by rw [hd]; decide) <| .intro h0 <| t1 _ hk
theorem C_board (hs : Sh f r) (hdb : db = true → 5 ≤ r) (hcb : cb = true → f = 6 ∧ r = 3) (hsd : side = 0 ∨ side = 1) (hx : LI M drawn x1) (hd : drawn.length = 24) (hn : 0 ≤ n) (q : ∀ c rights, BJ f r c 11 → SafeB f r c side → RI cb c rights → Q (.tup [aints c, .int rights]) M) :
    t_law_board [shV f r db cb, x1, .int n, .int side] M Q := by
  have hl := hs.le
  have sf : sm f := by cases hs <;> exact smc rfl
  refine fnT.gs u_law_board rfl <| .intro rfl <| .intro sf <| .intro (nle rfl) fun j hj => mul0 (Mem.set_self _ _ _) (by omega) (by omega) fun o ho => ?_
  have hx1 : LI (M.set j (.list [.int 0])) drawn x1 := hx.le (Mem.le_set hj)
  have hX := Mem.le_set (o := .list [.int 0]) hj
  generalize M.set j (.list [.int 0]) = X at *
  have hx2 : LI (X.set o (iL (List.replicate (f * r).toNat 0))) drawn x1 := hx1.le (Mem.le_set ho)
  have kg := b_kings (cb := cb) (N := XN M Q) (B := XB) hs hdb hsd hx1 hd hn ho hX q
  refine .intro (fun h => hx2.d <| hx2.sub (by rw [hd]; decide) <| .intro (by decide) <| .intro (by decide) <| .intro (by decide) <| .intro (fun zz => ?_) fun zz => kg) fun zz => iN id kg
  obtain ⟨rfl, rfl⟩ := hcb h
  subst h
  exact b_home hdb hsd hx1 hd hn ho hX q
end
end Vg
end
section
set_option autoImplicit false
set_option linter.all false
namespace Vg
open PySem PySem.W PyProof.Rows
section
variable {M Y : Mem} {Q : AV → Mem → Prop} {P : Mem → Prop} {a b d j : Addr} {F : AO} {fs : List (Nat × AV)} {i : Nat} {c : Addr} {v : AV} {xs : List AV} {n : Int}
theorem setAtS (c : Nat) (h : fs.length ≤ 100) (q : P (Y.set d (.flds (setF i v fs)))) : setAtP (Y.set d (.flds fs)) (.inst c d) i v P := ⟨fs, Mem.set_self _ _ _, h, by rw [Mem.set_set]; exact q⟩
theorem ne_new (h : (Y.set d F) b = none) : b ≠ d ∧ Y b = none := by
  have hb : b ≠ d := fun e => by rw [e, Mem.set_self] at h; cases h
  exact ⟨hb, (Mem.set_ne _ _ hb).symm.trans h⟩
theorem setAt1 (c : Nat) {o1 : AO} (h1 : j ≠ d) (h : fs.length ≤ 100) (q : P ((Y.set j o1).set d (.flds (setF i v fs)))) : setAtP ((Y.set d (.flds fs)).set j o1) (.inst c d) i v P := by
  rw [Mem.set_comm Y _ _ h1.symm]; exact setAtS c h q
theorem setAt2 (c : Nat) {o1 o2 : AO} (h1 : j ≠ d) (h2 : b ≠ d) (h : fs.length ≤ 100) (q : P (((Y.set j o1).set b o2).set d (.flds (setF i v fs)))) : setAtP (((Y.set d (.flds fs)).set j o1).set b o2) (.inst c d) i v P := by
  rw [Mem.set_comm Y _ _ h1.symm]; exact setAt1 c h2 h q
theorem ne_new2 {o1 : AO} (h : ((Y.set d F).set j o1) b = none) : (b ≠ d ∧ b ≠ j) ∧ Y b = none := let ⟨h1, h2⟩ := ne_new h; let ⟨h3, h4⟩ := ne_new h2; ⟨⟨h3, h1⟩, h4⟩
theorem MP.of (h : Ap ⟨d, b, a, j, c⟩) {g z : AV} {l : Ls} {s : Sc} : ((((((M.set b (iL l.cells)).set a (iL l.kinds)).set j (iL l.sides)).set c (.list l.hist)).set d (.flds (pf g z ⟨d, b, a, j, c⟩ s)))) = MP M g z ⟨d, b, a, j, c⟩ l s :=
  MP.ext (Mem.set_self _ _ _) ((Mem.set_ne _ _ h.bd).trans ((Mem.set_ne _ _ h.hb.symm).trans ((Mem.set_ne _ _ h.sb.symm).trans ((Mem.set_ne _ _ h.kb.symm).trans (Mem.set_self _ _ _)))))
    ((Mem.set_ne _ _ h.kd).trans ((Mem.set_ne _ _ h.hk.symm).trans ((Mem.set_ne _ _ h.sk.symm).trans (Mem.set_self _ _ _)))) ((Mem.set_ne _ _ h.sd).trans ((Mem.set_ne _ _ h.hs.symm).trans (Mem.set_self _ _ _))) ((Mem.set_ne _ _ h.hd).trans (Mem.set_self _ _ _))
    fun x h1 h2 h3 h4 h5 => (Mem.set_ne _ _ h1).trans ((Mem.set_ne _ _ h5).trans ((Mem.set_ne _ _ h4).trans ((Mem.set_ne _ _ h3).trans (Mem.set_ne _ _ h2))))
end
section
variable {M : Mem} {Q : AV → Mem → Prop} {g : Geo} {z : Za} {s : Int} {o : Addr} {cells : List Int} {x : AV} {N B : List AV → Mem → Prop} {R : AV → Mem → Prop}
theorem C_Position (hs : Sh g.f g.r) (Z : Zo M z g.n g.f.toNat) {d : Addr} (hd : M d = none) (q : ∀ M₀ a, a.d = d → M.le M₀ → PO M₀ z a g.n g.f.toNat → Q .none (MP M₀ g.av (.inst 1 z.d) a ⟨List.replicate g.n 0, List.replicate 7 0, [0, 0], []⟩ ⟨0, 0, -1, 0, 1, 0⟩)) :
    t_Position [.inst 2 d, g.av, .inst 1 z.d] (M.set d (.flds [])) Q := by
  have hl := hs.le
  refine fnT.gs u_Position rfl <| setAtS 2 (nle rfl) <| setAtS 2 (nle rfl) <| .intro (nle rfl) fun j1 h1 => gAt rfl <| mul0 (Mem.set_self _ _ _) (by omega) (by omega) fun b h2 => ?_
  refine go1 fun G hG => ?_
  obtain ⟨n1, f1⟩ := ne_new h1
  obtain ⟨⟨n2, n2'⟩, f2⟩ := ne_new2 h2
  refine hG ?_
  have m2 : (M.set j1 (.list [.int 0])) b = none := (Mem.set_ne _ _ n2').trans f2
  refine setAt2 2 n1 n2 (nle rfl) <| .intro (nle rfl) fun j2 h3 => mul0 (Mem.set_self _ _ _) (by decide) (by decide) fun k h4 => ?_
  refine go1 fun G hG => ?_
  obtain ⟨n3, f3⟩ := ne_new h3
  obtain ⟨⟨n4, n4'⟩, f4⟩ := ne_new2 h4
  obtain ⟨n5, f5⟩ := ne_new f3
  refine hG ?_
  have f6 : ((M.set j1 (.list [.int 0])).set j2 (.list [.int 0])) b = none := (Mem.set_ne _ _ n5.symm).trans m2
  refine setAt2 2 n3 n4 (nle rfl) <| .intro (nle rfl) fun t h5 => setAt1 2 (ne_new h5).1 (nle rfl) <| setAtS 2 (nle rfl) <| setAtS 2 (nle rfl) <| setAtS 2 (nle rfl) <| setAtS 2 (nle rfl) <| setAtS 2 (nle rfl) <| setAtS 2 (nle rfl) <| .intro (nle rfl) fun h h6 => setAt1 2 (ne_new h6).1 (nle rfl) <| XN.mk ?_
  refine go1 fun G hG => ?_
  obtain ⟨t1, e1⟩ := ne_new h5
  obtain ⟨⟨t2, t3⟩, e2⟩ := ne_new2 e1
  obtain ⟨⟨t4, t5⟩, e3⟩ := ne_new2 e2
  obtain ⟨u1, g1⟩ := ne_new h6
  obtain ⟨⟨u2, u3⟩, g2⟩ := ne_new2 g1
  obtain ⟨⟨u4, u5⟩, g3⟩ := ne_new2 g2
  obtain ⟨u6, g4⟩ := ne_new g3
  obtain ⟨⟨v1, v2⟩, g5⟩ := ne_new2 f4
  refine hG ?_
  have fr : ∀ {x}, x ≠ j1 → x ≠ j2 → M x = none → ((M.set j1 (.list [.int 0])).set j2 (.list [.int 0])) x = none := fun a b c => (Mem.set_ne _ _ b).trans ((Mem.set_ne _ _ a).trans c)
  have le : M.le ((M.set j1 (.list [.int 0])).set j2 (.list [.int 0])) := (Mem.le_set f1).trans (Mem.le_set f5)
  refine Eq.mpr (congrArg (Q .none) ?_) (q _ ⟨d, b, k, t, h⟩ rfl le ⟨?_, ?_, ?_, ?_, ?_, ?_, Z.le le⟩)
  · rw [Mem.set_comm (M.set j1 (.list [.int 0])) _ _ n5.symm]
    exact MP.of (l := ⟨List.replicate g.n 0, List.replicate 7 0, [0, 0], []⟩) (s := ⟨0, 0, -1, 0, 1, 0⟩) ⟨n2, n4, v2, t1, t5, t3, u1, u4, u2, u3⟩
  · exact ⟨n2, n4, v2, t1, t5, t3, u1, u4, u2, u3⟩
  · exact fr n1.symm n3.symm hd
  · exact fr n2' n5.symm f2
  · exact fr v1 n4' g5
  · exact fr t4 t2 e3
  · exact fr u6 u5 g4
theorem prt_zero {F : Nat → Int} {n i : Nat} (h : i < n) (h0 : F i = 0) : prt F n (i + 1) = prt F n i := by
  unfold prt
  refine List.map_congr_left fun s _ => ?_
  by_cases q : s < i
  · rw [if_pos q, if_pos (Nat.lt_succ_of_lt q)]
  · rw [if_neg q]
    by_cases z : s = i
    · rw [z, if_pos (Nat.lt_succ_self i), h0]
    · rw [if_neg fun e => (Nat.lt_succ_iff_lt_or_eq.mp e).elim q z]
theorem prt_gz {F : Nat → Int} {n i : Nat} {j : Int} (h : Ix j n) (hi : i ≤ j.toNat) : gz (prt F n i) j = 0 := by
  unfold gz prt
  rw [List.getD_eq_getElem?_getD, List.getElem?_map, List.getElem?_range h.2]
  exact if_neg (Nat.not_lt.mpr hi)
theorem prt_all {cells : List Int} : prt (fun s => gz cells s) cells.length cells.length = cells := by
  refine List.ext_getElem? fun j => ?_
  unfold prt
  rw [List.getElem?_map]
  by_cases h : j < cells.length
  · rw [List.getElem?_range h, List.getElem?_eq_getElem h]
    refine congrArg some ((if_pos h).trans ?_)
    show cells.getD j 0 = cells[j]
    rw [List.getD_eq_getElem?_getD, List.getElem?_eq_getElem h]; rfl
  · rw [List.getElem?_eq_none (by rw [List.length_range]; exact Nat.not_lt.mp h), List.getElem?_eq_none (Nat.not_lt.mp h)]; rfl
end
end Vg
end
section
set_option autoImplicit false
set_option linter.all false
namespace Vg
open PySem PySem.W PyProof.Rows
section
variable {M M' X : Mem} {Q : AV → Mem → Prop} {g : Geo} {s : Int} {cells : List Int} {x : AV} {N B : List AV → Mem → Prop} {R : AV → Mem → Prop}
theorem C_zrows {n : Int} (h0 : 0 ≤ n) (hn : n ≤ 1000) {fl : List (Nat × AV)} {m : List AV} (e0 : m.getD 0 .undef = .obj 0 fl) (hl : fl.lookup 2 = some (.int n)) {K : List AV → Mem → Prop}
    (q : ∀ (rs : List Addr) M', rs.length = 15 → M.le M' → (∀ (i : Nat) (r : Addr), rs[i]? = some r → M' r = some (iL (List.replicate n.toNat 0))) → K (rs.map .ref) M') (h4 : ∀ v, (m.set 4 v).getD 0 .undef = m.getD 0 .undef) :
    compP .yes (.bin .mul (.lst [.c (.int 0)]) (.at (.v 0) 2)) 4 (.rng 0 15 1) (rngL 0 15 1) m M K := by
  refine ⟨fun i acc M' => ∃ rs : List Addr, acc = rs.map .ref ∧ rs.length = i ∧ M.le M' ∧ ∀ (i : Nat) (r : Addr), rs[i]? = some r → M' r = some (iL (List.replicate n.toNat 0)), ⟨[], rfl, rfl, Mem.le.refl _, fun i r e => nomatch e⟩, ?_, ?_⟩
  · rintro i x _ M' e ⟨rs, rfl, rfl, le, hr⟩
    have e0' := (h4 x).trans e0
    generalize m.set 4 x = m' at *
    refine .intro (fun zz => .intro (nle rfl) fun j hj => ?_) fun h => absurd trivial h
    refine show defd (m'.getD 0 .undef) _ from ?_
    rw [e0']
    refine ⟨_, hl, mul0 (Mem.set_self _ _ _) h0 hn fun r hr' => .intro trivial ⟨rs ++ [r], by rw [List.map_append]; rfl, by rw [List.length_append]; rfl, (le.trans (Mem.le_set hj)).trans (Mem.le_set hr'), fun i y e => ?_⟩⟩
    rw [List.getElem?_append] at e
    split at e
    · exact (Mem.le_set hr') _ _ ((Mem.le_set hj) _ _ (hr i y e))
    · rw [List.getElem?_singleton] at e
      split at e
      · cases e; exact Mem.set_self _ _ _
      · cases e
  · rintro _ M' ⟨rs, rfl, h, le, hr⟩
    exact q rs M' h le hr
theorem C_Zobrist {d a b c : Addr} (q : Q .none (M.set d (.flds [(14, .ref a), (15, .ref b), (16, .ref c), (17, .int 0)]))) : t_Zobrist [.inst 1 d, .ref a, .ref b, .ref c, .int 0] (M.set d (.flds [])) Q :=
  fnT.gs u_Zobrist rfl <| setAtS 1 (nle rfl) <| setAtS 1 (nle rfl) <| setAtS 1 (nle rfl) <| setAtS 1 (nle rfl) <| XN.mk q
theorem bw_zero {n : Nat} : BW ⟨prt (fun s => gz cells s) n 0, List.replicate 7 0, [0, 0], []⟩ := by
  have z : ∀ {P : Int → Bool}, P 0 = false → bb P (prt (fun s => gz cells s) n 0) = 0 := fun {P} h => Nat.eq_of_testBit_eq fun i => by
    rw [bb_bit, Nat.zero_testBit, prt0, List.getElem?_replicate]
    split
    · exact h
    · rfl
  refine ⟨fun k h1 h2 => ?_, fun s h1 h2 => ?_⟩
  · show gz (List.replicate 7 0) k = (bb (isK k) (prt _ n 0) : Nat)
    rw [z (P := isK k) (isF_0 (f := fun c => Builtin.bitAnd c 7) (k := k)), gz_rep]; rfl
  · show gz (List.replicate 2 0) s = (bb (isS s) (prt _ n 0) : Nat)
    rw [z (P := isS s) (isF_0 (f := fun c => c / 8) (k := s)), gz_rep]; rfl
inductive PsI (M₀ : Mem) (g : Geo) (z : Za) (a : Ad) (x : AV) (cells : List Int) (i : Nat) : List AV → Mem → Prop
  | mk (v : AV) (l : Ls) (c : Sc) (vl : V g.n l) (bw : BW l) (e : l.cells = prt (fun s => gz cells s) g.n i) (h : l.hist = []) (h1 : c.side = 0) (h2 : c.rights = 0) : PsI M₀ g z a x cells i [g.av, x, .inst 2 a.d, v, .undef] (MP M₀ g.av (.inst 1 z.d) a l c)
theorem C_position (hs : Sh g.f g.r) (co : CO g.f g.r cells) (hc : LI M cells x)
    (q : ∀ M₀ z a l c, M.le M₀ → PO M₀ z a g.n g.f.toNat → V g.n l → BW l → l.cells = cells → l.hist = [] → c.side = 0 ∧ c.rights = 0 → Q (.inst 2 a.d) (MP M₀ g.av (.inst 1 z.d) a l c)) : t_law_position [g.av, x] M Q := by
  have hl := hs.le
  have hgn : g.n = (g.f * g.r).toNat := rfl
  have nl : cells.length = g.n := co.len
  have key : ∀ M₀ z a, M.le M₀ → PO M₀ z a g.n g.f.toNat → q_law_position_1 [g.av, x, .inst 2 a.d, .undef, .undef] (MP M₀ g.av (.inst 1 z.d) a ⟨List.replicate g.n 0, List.replicate 7 0, [0, 0], []⟩ ⟨0, 0, -1, 0, 1, 0⟩) (XN M Q) XB (XR M Q) := fun M₀ z a le P => by
    rw [← prt0 (F := fun s => gz cells s)]
    have hc1 : ∀ {l c}, LI (MP M₀ g.av (.inst 1 z.d) a l c) cells x := (hc.le le).le P.le
    have hc0 := hc1 (l := ⟨prt (fun s => gz cells s) g.n 0, List.replicate 7 0, [0, 0], []⟩) (c := ⟨0, 0, -1, 0, 1, 0⟩)
    have lm : (cells.map AV.int).length = g.n := (List.length_map _).trans nl
    refine hc0.d <| hc0.seq <| .intro (okr15 (Int.natCast_nonneg _) (by rw [lm]; exact Int.ofNat_le.mpr (Nat.le_trans hs.n20 (nle rfl)))) <| for0 (PsI M₀ g z a x cells) ⟨_, _, _, ⟨prt_len, rfl, rfl, Nat.zero_le _, fun x hx => by rw [show (Ls.cells _) = _ from prt0] at hx; rw [(List.mem_replicate.mp hx).2]; decide⟩, bw_zero, rfl, rfl, rfl, rfl⟩ ?_ ?_
    · rintro i _ _ hi ⟨v, l, c, vl, bw, hlc, hh, h1, h2⟩
      rw [lm, Int.toNat_natCast] at hi
      have hx : Ix (i : Int) cells.length := nl.symm ▸ hi
      have hc2 := hc1 (l := l) (c := c)
      have z0 : gz l.cells i = 0 := by rw [hlc]; exact prt_gz hi (Nat.le_refl i)
      refine hc2.d <| hc2.sub hx <| .intro (fun h => hc2.d <| hc2.sub hx <| ?_) fun h => ⟨trivial, _, _, _, vl, bw, by rw [hlc, prt_zero (i := i) hi.2 (Decidable.byContradiction h)], hh, h1, h2⟩
      have ok := okc_of (co.at (s := i))
      refine C_put P hi (Int.ofNat_le.mpr (Nat.le_trans (Nat.le_of_lt hi.2) (Nat.le_trans hs.n20 (nle rfl)))) vl.c.symm (vl.pc ok) <| .intro trivial <| ⟨trivial, _, _, _, vl.put ok, bw.put vl hi ok h z0, ?_, hh, h1, h2⟩
      show sz l.cells i (gz cells i) = _
      rw [hlc]
      exact prt_step hi.2
    · rintro _ _ ⟨v, l, c, vl, bw, hlc, hh, h1, h2⟩
      rw [lm, Int.toNat_natCast, ← nl, prt_all] at hlc
      exact XR.mk (q M₀ z a l c le P vl bw hlc hh ⟨h1, h2⟩)
  refine fnT.gs u_law_position rfl <| .intro (okr15 (by decide) (by decide)) <| .intro (nle rfl) <| C_zrows (n := g.f * g.r) (Int.le_trans (by decide) hl.2.2.2.2) (Int.le_trans hl.1 (by decide)) (show ([g.av, x, .undef, .undef, .undef] : List AV).getD 0 .undef = .obj 0 g.fl from rfl) rfl (fun rs M1 hr le1 hrr za hza => ?_) fun v => rfl
  refine .intro (nle rfl) fun j1 hj1 => gAt rfl <| mul0 (Mem.set_self _ _ _) (Int.le_of_lt hl.2.1) (Int.le_trans hl.2.2.1 (by decide)) fun zb hzb => .intro (nle rfl) fun j2 hj2 => mul0 (Mem.set_self _ _ _) (by decide) (by decide) fun zc hzc => fun zd hzd => C_Zobrist <| .intro rfl fun d hd => ?_
  have l1 := Mem.le_set (o := .list (rs.map .ref)) hza
  have l2 := Mem.le_set (o := .list [.int 0]) hj1
  have l3 := Mem.le_set (o := iL (List.replicate g.f.toNat 0)) hzb
  have l4 := Mem.le_set (o := .list [.int 0]) hj2
  have l5 := Mem.le_set (o := iL (List.replicate 16 0)) hzc
  have l6 := Mem.le_set (o := .flds [(14, .ref za), (15, .ref zb), (16, .ref zc), (17, .int 0)]) hzd
  have Z : Zo _ ⟨zd, za, zb, zc, rs⟩ g.n g.f.toNat := ⟨Mem.set_self _ _ _, l6 _ _ (l5 _ _ (l4 _ _ (l3 _ _ (l2 _ _ (Mem.set_self _ _ _))))), hr, fun i r e => l6 _ _ (l5 _ _ (l4 _ _ (l3 _ _ (l2 _ _ (l1 _ _ (hrr i r e)))))), l6 _ _ (l5 _ _ (l4 _ _ (Mem.set_self _ _ _))), l6 _ _ (Mem.set_self _ _ _)⟩
  exact C_Position hs Z hd fun M₀ a ha le P => .intro rfl <| by
    subst ha
    exact key M₀ ⟨zd, za, zb, zc, rs⟩ a (le1.trans (l1.trans (l2.trans (l3.trans (l4.trans (l5.trans (l6.trans le))))))) P
end
end Vg
end
section
set_option autoImplicit false
set_option linter.all false
namespace Vg
open PySem PySem.W PyProof.Rows
noncomputable def fl (p : Prop) [Decidable p] : Int := if p then 1 else 0
noncomputable def marksV (f r p s : Int) : List Int :=
  let a := edge (s % f) f
  let k := if p < 8 then s / f else r - 1 - s / f
  let b := edge k r
  [1, a, b, k, min a b, a * k, gz [0, 0, fl (a * b = 0), fl (s % f ∈ [k, f - 1 - k]), fl (k = r - 2), 0, 0] (p % 8)]
theorem fl_of {p : Prop} [Decidable p] {b : Bool} (h : b = true ↔ p) : (if b then (1 : Int) else 0) = fl p := by
  unfold fl
  by_cases q : p
  · rw [if_pos q, if_pos (h.mpr q)]
  · rw [if_neg q, if_neg fun e => q (h.mp e)]
section
variable {M : Mem} {Q : AV → Mem → Prop} {f r p s : Int}
theorem C_marks (hs : Sh f r) (hp : Ix p 15) (hp7 : p % 8 < 7) (hx : Ix s (f * r).toNat) (q : Q (aints (marksV f r p s)) M) : t_law_marks [.int f, .int r, .int p, .int s] M Q := by
  have hl := hs.le
  have sa : sm (edge (s % f) f) := by
    have := smc (Bool.and_eq_true_iff.mp (fin3_at eg_ok hs (show Ix 0 15 by decide) hx)).2
    unfold sm at *; lia
  have h0 : 0 ≤ p % 8 := Int.emod_nonneg _ (by decide)
  have tl : ∀ k b2 b3 b4, (if p < 8 then s / f else r - 1 - s / f) = k → b2 = fl (edge (s % f) f * edge k r = 0) → b3 = fl (s % f ∈ [k, f - 1 - k]) → b4 = fl (k = r - 2) → ∀ j, M j = none →
      q_law_marks_5 [.int f, .int r, .int p, .int s, .int (s % f), .int k, .int (edge (s % f) f), .int (edge k r), .ref j] (M.set j (iL [0, 0, b2, b3, b4, 0, 0])) (XN M Q) XB (XR M Q) := fun k b2 b3 b4 e1 e2 e3 e4 j hj => by
    refine .intro sa <| .intro (by decide) <| subI (Mem.set_self _ _ _) ⟨h0, by show (p % 8).toNat < 7; omega⟩ <| .intro (nle rfl) fun c hc => Exit.l (xs := (marksV f r p s).map .int) ?_ ((Mem.le_set hj).none hc) ((Mem.le_set hj).trans (Mem.le_set hc)) q
    unfold marksV
    rw [Mem.set_self, e1, e2, e3, e4]; rfl
  have t4 : ∀ k, (if p < 8 then s / f else r - 1 - s / f) = k → q_law_marks_2 [.int f, .int r, .int p, .int s, .int (s % f), .int k, .undef, .undef, .undef] M (XN M Q) XB (XR M Q) := fun k hk =>
    .intro sa <| fun b1 h1 => .intro [k, f - 1 - k] <| .intro rfl <| fun b2 h2 => fun b3 h3 => .intro (nle rfl) fun j hj => tl k _ _ _ hk (fl_of h1) (fl_of h2) (fl_of h3) j hj
  exact fnT.gs u_law_marks rfl <| .intro hl.2.1 <| .intro (fun h => .intro hl.2.1 <| .intro (Int.le_trans hl.2.2.1 (by decide)) <| t4 _ (if_pos h)) fun h => .intro hl.2.1 <| .intro (Int.le_trans hl.2.2.1 (by decide)) <| t4 _ (if_neg h)
end
section
variable {M : Mem} {Q : AV → Mem → Prop}
theorem comp_ints {F : Nat → Int} {n : Int} {t : Nat} {elt : X} {m : List AV} {K : List AV → Mem → Prop} (h : ∀ i : Nat, i < n.toNat → ∀ {G : AV → Mem → Prop}, G (.int (F i)) M → elt.e (m.set t (.int i)) M G) (q : K (((List.range n.toNat).map F).map .int) M) : compP .yes elt t (.rng 0 n 1) (rngL 0 n 1) m M K := by
  have hl : (rngL 0 n 1).length = n.toNat := by rw [rngL, if_pos rfl, List.length_map, List.length_range, Int.sub_zero]
  refine ⟨fun i acc M' => M = M' ∧ acc = ((List.range i).map F).map .int, ⟨rfl, rfl⟩, fun i x acc M' e z => ?_, fun acc M' z => ?_⟩
  · obtain ⟨rfl, rfl⟩ := z
    obtain ⟨hi, _⟩ := List.getElem?_eq_some_iff.mp e
    rw [rngL_get (.inl rfl) hi, Int.mul_one, Int.zero_add] at e
    cases e
    exact .intro (fun _ => h i (hl ▸ hi) ⟨trivial, rfl, by rw [List.range_succ, List.map_append, List.map_append]; rfl⟩) fun h => absurd trivial h
  · obtain ⟨rfl, rfl⟩ := z
    rw [hl]; exact q
end
noncomputable def dotV (l row : List Int) : Int := ((List.range 7).map fun (k : Nat) => gz l k * gz row k).sum
noncomputable def worthV (E : List (List Int)) (f r p s : Int) : Int := sgn p * dotV (marksV f r p s) (rw_ E (p % 8))
noncomputable def worthC (E : List (List Int)) (f r : Int) (cells : List Int) (s : Int) : Int := if gz cells s ≠ 0 then worthV E f r (gz cells s) s else 0
theorem worth_fin : fin3 (fun f r p s => decide (p % 8 = 0 ∨ p = 7) || (decide (worthV lateL f r p s * 65536 + worthV earlyL f r p s = rowF f r p s.toNat) && decide ((-2900 ≤ worthV earlyL f r p s ∧ worthV earlyL f r p s ≤ 2900) ∧ -2900 ≤ worthV lateL f r p s ∧ worthV lateL f r p s ≤ 2900)) && ((marksV f r p s).all fun x => decide (-1000000 ≤ x ∧ x ≤ 1000000))) = true := by decide +kernel
theorem rows7 : ∀ p : Fin 7, p.val = 0 ∨ ((rw_ earlyL p.val).length = 7 ∧ (rw_ lateL p.val).length = 7) := by decide
theorem marks7 {f r p s : Int} : (marksV f r p s).length = 7 := rfl
end Vg
end
section
set_option autoImplicit false
set_option linter.all false
namespace Vg
open PySem PySem.W PyProof.Rows
theorem asT {M : Mem} {Q : AV → Mem → Prop} {p : Prop} (h : p) (q : Q (.bool true) M) : asB Q p M := fun b hb => by rw [hb.mpr h]; exact q
section
variable {f r p s : Int} {cells : List Int} {n : Nat}
theorem worth_ok (hs : Sh f r) (hp : 0 ≤ p ∧ p < 15 ∧ p ≠ 7 ∧ p ≠ 8) (h0 : p ≠ 0) (hx : Ix s (f * r).toNat) : worthV lateL f r p s * 65536 + worthV earlyL f r p s = rowF f r p s.toNat ∧ ((-2900 ≤ worthV earlyL f r p s ∧ worthV earlyL f r p s ≤ 2900) ∧ -2900 ≤ worthV lateL f r p s ∧ worthV lateL f r p s ≤ 2900) ∧ ∀ x ∈ marksV f r p s, sm x := by
  have h := fin3_at worth_fin hs (show Ix p 15 from ixI hp.1 hp.2.1) hx
  rcases Bool.or_eq_true_iff.mp h with h | h
  · have := of_decide_eq_true h; exfalso; clear h hx; omega
  · obtain ⟨h1, h2⟩ := Bool.and_eq_true_iff.mp h
    obtain ⟨h1, h3⟩ := Bool.and_eq_true_iff.mp h1
    exact ⟨of_decide_eq_true h1, of_decide_eq_true h3, fun x hx => smc (List.all_eq_true.mp h2 x hx)⟩
theorem tab_ok : TabS (tabV f r) (f * r).toNat := ⟨by unfold tabV tabN; rw [List.length_map, List.length_range], fun x hx => by
  obtain ⟨p, _, rfl⟩ := List.mem_map.mp hx
  exact prt_len⟩
theorem tv_eq (hp : 0 ≤ p ∧ p < 15 ∧ p ≠ 7 ∧ p ≠ 8) (hx : Ix s (f * r).toNat) : tv (tabV f r) p s = if p ≠ 0 then rowF f r p s.toNat else 0 := by
  have e : rw_ (tabV f r) p = rowV f r p := by
    unfold rw_ tabV tabN
    rw [List.getD_eq_getElem?_getD, List.getElem?_map, List.getElem?_range ((Int.toNat_lt hp.1).mpr hp.2.1)]
    show rowV f r ((p.toNat : Nat) : Int) = _
    rw [Int.toNat_of_nonneg hp.1]
  unfold tv
  rw [e]
  unfold rowV
  rw [and7 hp.1]
  by_cases h : p ≠ 0
  · rw [if_pos h, if_pos ⟨by clear hx e; omega, by clear hx e; omega⟩]
    unfold gz prt
    rw [List.getD_eq_getElem?_getD, List.getElem?_map, List.getElem?_range hx.2]
    exact if_pos hx.2
  · rw [if_neg h, if_neg fun z => by clear hx e; omega]
    exact prt_gz hx (Nat.zero_le _)
theorem sumN_lin {F G : Nat → Int} : sumN (fun i => F i * 65536 + G i) n = sumN F n * 65536 + sumN G n := by
  induction n with
  | zero => rfl
  | succ n ih => show sumN (fun i => F i * 65536 + G i) n + (F n * 65536 + G n) = (sumN F n + F n) * 65536 + (sumN G n + G n); rw [ih, Int.add_mul]; lia
theorem sumN_bd {F G : Nat → Int} (h : ∀ i, i < n → -(2900 * G i) ≤ F i ∧ F i ≤ 2900 * G i) : -(2900 * sumN G n) ≤ sumN F n ∧ sumN F n ≤ 2900 * sumN G n := by
  induction n with
  | zero => exact ⟨Int.le_refl 0, Int.le_refl 0⟩
  | succ n ih =>
    have h1 := ih fun i hi => h i (Nat.lt_succ_of_lt hi)
    have h2 := h n (Nat.lt_succ_self n)
    show -(2900 * (sumN G n + G n)) ≤ sumN F n + F n ∧ sumN F n + F n ≤ 2900 * (sumN G n + G n)
    clear ih h
    lia
noncomputable def keptV (f r : Int) (cells : List Int) : Int := sumN (fun i => tv (tabV f r) (gz cells i) i) (f * r).toNat
noncomputable def sumE (E : List (List Int)) (f r : Int) (cells : List Int) : Int := sumN (fun i => worthC E f r cells i) (f * r).toNat
theorem kept_eq (hs : Sh f r) (co : CO f r cells) : keptV f r cells = sumE lateL f r cells * 65536 + sumE earlyL f r cells := by
  unfold sumE keptV
  rw [← sumN_lin]
  refine sumN_congr fun i hi => ?_
  rw [tv_eq co.at (ixN hi)]
  unfold worthC
  by_cases h : gz cells i ≠ 0
  · rw [if_pos h, if_pos h, if_pos h, (worth_ok hs co.at h (ixN hi)).1]
  · rw [if_neg h, if_neg h, if_neg h]; rfl
theorem worth_bd (hs : Sh f r) (co : CO f r cells) (hc : sumC mc cells (f * r).toNat ≤ 11) : (-31900 ≤ sumE earlyL f r cells ∧ sumE earlyL f r cells ≤ 31900) ∧ -31900 ≤ sumE lateL f r cells ∧ sumE lateL f r cells ≤ 31900 := by
  have key : ∀ E, (∀ p s, (0 ≤ p ∧ p < 15 ∧ p ≠ 7 ∧ p ≠ 8) → p ≠ 0 → Ix s (f * r).toNat → -2900 ≤ worthV E f r p s ∧ worthV E f r p s ≤ 2900) → -31900 ≤ sumE E f r cells ∧ sumE E f r cells ≤ 31900 := fun E hE => by
    have := sumN_bd (F := fun i => worthC E f r cells i) (G := fun i => mc (gz cells i) i) (n := (f * r).toNat) fun i hi => by
      unfold worthC mc
      by_cases h : gz cells i = 0
      · rw [if_neg (show ¬ gz cells i ≠ 0 from fun z => z h), if_pos h]; decide
      · rw [if_pos (show gz cells i ≠ 0 from h), if_neg h]; exact hE _ _ co.at h (ixN hi)
    unfold sumC at hc
    unfold sumE
    omega
  exact ⟨key _ fun p s h1 h2 h3 => (worth_ok hs h1 h2 h3).2.1.1, key _ fun p s h1 h2 h3 => (worth_ok hs h1 h2 h3).2.1.2⟩
theorem halves {a b k : Int} (e : k = b * 65536 + a) (ha : -31900 ≤ a ∧ a ≤ 31900) (hb : -31900 ≤ b ∧ b ≤ 31900) : Builtin.bitAnd (k + 32768) 65535 - 32768 = a ∧ Builtin.bitAnd ((k + 32768) / 65536 + 32768) 65535 - 32768 = b := by
  have m : ∀ x, Builtin.bitAnd x 65535 = x % 65536 := fun x => kbt_mask x 16
  rw [m, m, e, show b * 65536 + a + 32768 = (a + 32768) + 65536 * b by omega, (dmL ⟨by lia, by lia⟩).1, (dmL ⟨by lia, by lia⟩).2, Int.emod_eq_of_lt (by lia) (by lia)]
  exact ⟨Int.add_sub_cancel _ _, Int.add_sub_cancel _ _⟩
end
section
variable {M : Mem} {Q : AV → Mem → Prop} {n : Int}
theorem C_wrap {x : Int} (h : Builtin.bitAnd (n + 32768) 65535 - 32768 = x) (q : Q (.int x) M) : t_wrap_half [.int n] M Q := fnT.gs u_wrap_half rfl <| XR.mk (h ▸ q)
theorem C_mg_of {x : Int} (h : Builtin.bitAnd (n + 32768) 65535 - 32768 = x) (q : Q (.int x) M) : t_mg_of [.int n] M Q := fnT.gs u_mg_of rfl <| C_wrap h <| XR.mk q
theorem C_eg_of {x : Int} (h : Builtin.bitAnd ((n + 32768) / 65536 + 32768) 65535 - 32768 = x) (q : Q (.int x) M) : t_eg_of [.int n] M Q := fnT.gs u_eg_of rfl <| .intro (by decide) <| C_wrap h <| XR.mk q
end
end Vg
end
section
set_option autoImplicit false
set_option linter.all false
namespace Vg
open PySem PySem.W PyProof.Rows
section
variable {M M' : Mem} {Q : AV → Mem → Prop} {g : Geo} {zv : AV} {a : Ad} {l : Ls} {c : Sc} {cells : List Int} {kept p : Int} {t : List (List Int)} {N B : List AV → Mem → Prop} {R : AV → Mem → Prop} {v7 v8 v9 v10 v11 : AV} {mg eg : Int}
noncomputable abbrev ag (a : Ad) (cells : List Int) (t : List (List Int)) (kept : Int) (g : Geo) (mg eg : Int) (v7 v8 v9 v10 v11 : AV) : List AV := [.inst 2 a.d, aints cells, aintss t, .int kept, g.av, .int mg, .int eg, v7, v8, v9, v10, v11]
theorem sumc {F : Nat → Int} {m : List AV} {elt : X} {G : AV → Mem → Prop} (h : ∀ i : Nat, i < 7 → ∀ {G : AV → Mem → Prop}, G (.int (F i)) M → elt.e (m.set 11 (.int i)) M G) (q : ∀ M', M.le M' → G (.int ((List.range 7).map F).sum) M') : (X.bi .sum [.comp elt 11 (.bi .range [(.c (.int 7))]) .yes]).e m M G :=
  .intro (okr15 (by decide) (by decide)) <| .intro (nle rfl) <| comp_ints (n := 7) h fun b hb => .intro _ <| .intro (Mem.set_self _ _ _) <| .intro _ <| .intro rfl <| q _ (Mem.le_set hb)
theorem dot_e {E : List (List Int)} {marks : List Int} (hm : ∀ x ∈ marks, sm x) (h7 : marks.length = 7) (hp : Ix (p % 8) E.length) (he : (rw_ E (p % 8)).length = 7) {i : Nat} (hi : i < 7) {G : AV → Mem → Prop} {v11 : AV} (q : G (.int (gz marks i * gz (rw_ E (p % 8)) i)) M) :
    (X.bin .mul (.sub (.v 9) (.v 11)) (.sub (.sub (.c (aintss E)) (.bin .mod (.v 8) (.c (.int 8)))) (.v 11))).e ((ag a cells t kept g mg eg v7 (.int p) (aints marks) v10 v11).set 11 (.int i)) M G :=
  subL (ixN (h7.symm ▸ hi)) <| .intro (by decide) <| subF hp.1 (rwG hp) <| subL (ixN (he.symm ▸ hi)) <| .intro (hm _ (gz_mem' (ixN (h7.symm ▸ hi)))) q
theorem sgn8 {p : Int} (h0 : 0 ≤ p) (h1 : p < 15) : sgn p = if p < 8 then 1 else -1 := by
  unfold sgn
  by_cases h : p < 8
  · rw [if_pos h, if_pos (by omega)]
  · rw [if_neg h, if_neg (by omega)]
theorem ag_cell (hs : Sh g.f g.r) (hp : 0 ≤ p ∧ p < 15 ∧ p ≠ 7 ∧ p ≠ 8) (h0 : p ≠ 0) {i : Nat} (hx : Ix (i : Int) g.n)
    (q : ∀ v9 v10 v11 M', M.le M' → N (ag a cells t kept g (mg + worthV earlyL g.f g.r p i) (eg + worthV lateL g.f g.r p i) (.int i) (.int p) v9 v10 v11) M') :
    v_law_agree_1 (ag a cells t kept g mg eg (.int i) (.int p) v9 v10 v11) M N B R := by
  have w := worth_ok hs hp h0 hx
  have p8 : p % 8 < 7 ∧ p % 8 ≠ 0 := by
    have := (by decide : ∀ n : Fin 15, (n.val : Int) ≠ 7 → (n.val : Int) ≠ 8 → (n.val : Int) ≠ 0 → (n.val : Int) % 8 < 7 ∧ (n.val : Int) % 8 ≠ 0) ⟨p.toNat, (Int.toNat_lt hp.1).mpr hp.2.1⟩
    rw [Int.toNat_of_nonneg hp.1] at this
    exact this hp.2.2.1 hp.2.2.2 h0
  have p0 : 0 ≤ p % 8 := Int.emod_nonneg _ (by decide)
  have r7 := (rows7 ⟨(p % 8).toNat, (Int.toNat_lt p0).mpr p8.1⟩).resolve_left fun e => p8.2 (Int.le_antisymm (Int.toNat_eq_zero.mp e) p0)
  have e8 : (((p % 8).toNat : Nat) : Int) = p % 8 := Int.toNat_of_nonneg p0
  simp only [e8] at r7
  have ix : Ix (p % 8) 7 := ixI p0 p8.1
  have tl : ∀ s, sgn p = s → v_law_agree_1_2 (ag a cells t kept g mg eg (.int i) (.int p) (aints (marksV g.f g.r p i)) (.int s) v11) M N B R := fun s e => by
    subst e
    exact sumc (F := fun k => gz (marksV g.f g.r p i) k * gz (rw_ earlyL (p % 8)) k) (fun k hk {G} q => dot_e w.2.2 marks7 ix r7.1 hk q) fun M1 l1 => .intro smsgn <| sumc (F := fun k => gz (marksV g.f g.r p i) k * gz (rw_ lateL (p % 8)) k) (fun k hk {G} q => dot_e w.2.2 marks7 ix r7.2 hk q) fun M2 l2 => .intro smsgn <| q _ _ _ M2 (l1.trans l2)
  have hsg := sgn8 hp.1 hp.2.1
  exact gAt rfl <| gAt rfl <| C_marks hs (ixI hp.1 hp.2.1) p8.1 hx <| .intro (fun h => tl _ (hsg.trans (if_pos h))) fun h => tl _ (hsg.trans (if_neg h))
theorem worth1 {E : List (List Int)} {f r : Int} {s : Int} {t : Int} (h : gz cells s ≠ 0) : t + worthV E f r (gz cells s) s = t + worthC E f r cells s := by unfold worthC; rw [if_pos h]
theorem worth0 {E : List (List Int)} {f r : Int} {s : Int} {t : Int} (h : ¬ gz cells s ≠ 0) : t = t + worthC E f r cells s := by unfold worthC; rw [if_neg h, Int.add_zero]
structure AG (M : Mem) (g : Geo) (zv : AV) (a : Ad) (l : Ls) (c : Sc) (cells : List Int) (kept : Int) : Prop where
  r : Rd M g.av zv a l c
  v : V g.n l
  e : l.cells = cells
  hs : Sh g.f g.r
  co : CO g.f g.r cells
  cnt : sumC mc cells (g.f * g.r).toNat ≤ 11
  k : keptV g.f g.r cells = kept
inductive AgI (a : Ad) (cells : List Int) (kept : Int) (g : Geo) (M : Mem) (i : Nat) : List AV → Mem → Prop
  | mk (mg eg : Int) (v7 v8 v9 v10 v11 : AV) (M' : Mem) (e1 : mg = sumN (fun i => worthC earlyL g.f g.r cells i) i) (e2 : eg = sumN (fun i => worthC lateL g.f g.r cells i) i) (le : M.le M') : AgI a cells kept g M i (ag a cells (tabV g.f g.r) kept g mg eg v7 v8 v9 v10 v11) M'
theorem C_agree (A : AG M g zv a l c cells kept) (q : Q (.bool true) M) : t_law_agree [.inst 2 a.d, aints cells, aintss (tabV g.f g.r), .int kept] M Q := by
  have hl := A.hs.le
  have lm : (cells.map AV.int).length = g.n := (List.length_map _).trans A.co.len
  obtain ⟨b1, b2⟩ := worth_bd A.hs A.co A.cnt
  obtain ⟨m1, m2⟩ := halves (A.k.symm.trans (kept_eq A.hs A.co)) b1 b2
  have ek : sumN (fun i => tv (tabV g.f g.r) (gz l.cells i) i) g.n = kept := by rw [A.e]; exact A.k
  refine fnT.gs u_law_agree rfl <| atI (c := 2) A.r.d rfl <| .intro (okr15 (Int.natCast_nonneg _) (by rw [lm]; show ((g.f * g.r).toNat : Int) ≤ 100; omega)) <| for0 (AgI a cells kept g M) ⟨_, _, _, _, _, _, _, _, rfl, rfl, Mem.le.refl M⟩ ?_ ?_
  · rintro i _ _ hi ⟨mg, eg, v7, v8, v9, v10, v11, M', rfl, rfl, le⟩
    rw [lm, Int.toNat_natCast] at hi
    exact subL (A.co.ix hi) <| .intro (fun h => ag_cell A.hs A.co.at h hi fun v9 v10 v11 M'' l2 => .intro trivial ⟨_, _, _, _, _, _, _, _, worth1 h, worth1 h, le.trans l2⟩) fun h => .intro trivial ⟨_, _, _, _, _, _, _, _, worth0 h, worth0 h, le⟩
  · rintro _ _ ⟨mg, eg, v7, v8, v9, v10, v11, M', e1, e2, le⟩
    rw [lm, Int.toNat_natCast] at e1 e2
    have r' := A.r.le le
    refine atI (c := 2) r'.d rfl <| ⟨.list (cells.map .int), .ref (r'.b.trans (by rw [A.e]; rfl)) (DOfs.ints _), .lst (DOfs.ints _), .inl ⟨rfl, asT trivial ?_⟩⟩
    refine .intro (fun zz => ?_) fun h => absurd rfl h
    refine C_psq_of r' A.hs A.v tab_ok <| fun u hu => ?_
    have hu' : u = true := hu.mpr ek
    subst hu'
    refine .intro (fun zz => ?_) fun h => absurd rfl h
    refine C_mg_of m1 <| C_eg_of m2 <| ⟨.tuple [.int (sumE earlyL g.f g.r cells), .int (sumE lateL g.f g.r cells)], .tup (.cons (.int _) (.cons (.int _) .nil)), ?_, .inl ⟨rfl, asT trivial ?_⟩⟩
    · rw [e1, e2]; exact .tup (.cons (.int _) (.cons (.int _) .nil))
    · exact Exit.drop le q
end
end Vg
end
section
set_option autoImplicit false
set_option linter.all false
namespace Vg
open PySem PySem.W PyProof.Rows
section
variable {F G : Nat → Int} {n m f r : Nat}
theorem sumN_split : sumN F (n + m) = sumN F n + sumN (fun i => F (n + i)) m := by
  induction m with
  | zero => exact (Int.add_zero _).symm
  | succ m ih => show sumN F (n + m) + F (n + m) = sumN F n + (sumN (fun i => F (n + i)) m + F (n + m)); rw [ih, Int.add_assoc]
theorem sumN_head : sumN F (n + 1) = F 0 + sumN (fun i => F (i + 1)) n := by
  rw [Nat.add_comm, sumN_split, show sumN F 1 = 0 + F 0 from rfl, Int.zero_add]
  exact congrArg _ (sumN_congr fun i _ => by rw [Nat.add_comm])
theorem sumN_rev : sumN (fun i => F (n - 1 - i)) n = sumN F n := by
  induction n with
  | zero => rfl
  | succ n ih =>
    rw [sumN_head]
    show F n + _ = sumN F n + F n
    rw [Int.add_comm, ← ih]
    exact congrArg (· + F n) (sumN_congr fun i hi => by rw [show n + 1 - 1 - (i + 1) = n - 1 - i by lia])
theorem sumN_rows : sumN F (r * f) = sumN (fun i => sumN (fun j => F (i * f + j)) f) r := by
  induction r with
  | zero => rw [Nat.zero_mul]; rfl
  | succ r ih => rw [Nat.succ_mul, sumN_split, ih]; rfl
noncomputable def mir (f r s : Nat) : Nat := (r - 1 - s / f) * f + s % f
theorem sumN_mir (hf : 0 < f) : sumN (fun s => F (mir f r s)) (r * f) = sumN F (r * f) := by
  rw [sumN_rows, sumN_rows, ← sumN_rev (F := fun i => sumN (fun j => F (i * f + j)) f)]
  refine sumN_congr fun i _ => sumN_congr fun j hj => ?_
  unfold mir
  rw [Nat.add_comm (i * f), Nat.add_mul_div_right _ _ hf, Nat.div_eq_of_lt hj, Nat.zero_add, Nat.add_mul_mod_self_right, Nat.mod_eq_of_lt hj]
theorem sumN_neg : sumN (fun i => -F i) n = -sumN F n := by
  induction n with
  | zero => rfl
  | succ n ih => show sumN (fun i => -F i) n + -F n = -(sumN F n + F n); rw [ih, Int.neg_add]
end
noncomputable def flipC (p : Int) : Int := if p ≠ 0 then (p + 8) % 16 else 0
theorem flip_ok : ∀ p : Fin 15, p.val ≠ 7 → p.val ≠ 8 → (0 ≤ flipC p.val ∧ flipC p.val < 15 ∧ flipC p.val ≠ 7 ∧ flipC p.val ≠ 8) ∧ (flipC p.val ≠ 0 ↔ (p.val : Int) ≠ 0) ∧ ((p.val : Int) ≠ 0 → flipC p.val % 8 = (p.val : Int) % 8 ∧ flipC p.val / 8 = 1 - (p.val : Int) / 8) := by decide +kernel
theorem flip_at {p : Int} (h : 0 ≤ p ∧ p < 15 ∧ p ≠ 7 ∧ p ≠ 8) : (0 ≤ flipC p ∧ flipC p < 15 ∧ flipC p ≠ 7 ∧ flipC p ≠ 8) ∧ (flipC p ≠ 0 ↔ p ≠ 0) ∧ (p ≠ 0 → flipC p % 8 = p % 8 ∧ flipC p / 8 = 1 - p / 8) := by
  refine go1 fun G hG => ?_
  obtain ⟨h0, h1, h2, h3⟩ := h
  obtain ⟨n, rfl⟩ := Int.eq_ofNat_of_zero_le h0
  refine hG ?_
  exact flip_ok ⟨n, Int.ofNat_lt.mp h1⟩ (fun e => h2 (congrArg Int.ofNat e)) fun e => h3 (congrArg Int.ofNat e)
theorem flip_fin : fin3 (fun f r p s => decide (p % 8 = 0 ∨ p = 7) || (decide (rowF f r (flipC p) s.toNat = -rowF f r p (mir f.toNat r.toNat s.toNat)) && decide (mir f.toNat r.toNat s.toNat < (f * r).toNat))) = true := by decide +kernel
end Vg
end
section
set_option autoImplicit false
set_option linter.all false
namespace Vg
open PySem PySem.W PyProof.Rows
structure LT (f r : Nat) (cells T : List Int) (k : Nat) : Prop where
  len : T.length = k
  at_ : ∀ s : Nat, s < k → gz T s = flipC (gz cells (mir f r s))
theorem gz_snoc {T : List Int} {v : Int} {s : Nat} (h : s < T.length + 1) : gz (T ++ [v]) s = if s < T.length then gz T s else v := by
  unfold gz
  rw [Int.toNat_natCast, List.getD_eq_getElem?_getD, List.getElem?_append]
  by_cases q : s < T.length
  · rw [if_pos q, if_pos q, List.getD_eq_getElem?_getD]
  · rw [if_neg q, if_neg q, show s - T.length = 0 from Nat.sub_eq_zero_of_le (Nat.le_of_lt_succ h)]; rfl
theorem LT.snoc {f r : Nat} {cells T : List Int} {k : Nat} {v : Int} (h : LT f r cells T k) (e : v = flipC (gz cells (mir f r k))) : LT f r cells (T ++ [v]) (k + 1) :=
  ⟨by rw [List.length_append, h.len]; rfl, fun s hs => by
    rw [gz_snoc (h.len.symm ▸ hs), h.len]
    by_cases q : s < k
    · rw [if_pos q]; exact h.at_ s q
    · rw [if_neg q, e, show s = k by lia]⟩
section
variable {f r : Int} {cells T : List Int} {s k : Int}
theorem sh_nat (hs : Sh f r) : (f * r).toNat = r.toNat * f.toNat ∧ 0 < f.toNat ∧ ∀ s : Nat, s < (f * r).toNat → mir f.toNat r.toNat s < (f * r).toNat := by
  refine ⟨by cases hs <;> rfl, by cases hs <;> decide, fun s h => ?_⟩
  have := (Bool.or_eq_true_iff.mp (fin3_at flip_fin hs (show Ix 1 15 by decide) (ixN h))).resolve_left (by decide)
  exact of_decide_eq_true (Bool.and_eq_true_iff.mp this).2
theorem LT.co (h : LT f.toNat r.toNat cells T (f * r).toNat) (co : CO f r cells) : CO f r T := ⟨h.len, fun x hx => by
  obtain ⟨i, hi, rfl⟩ := List.getElem_of_mem hx
  have e := h.at_ i (h.len ▸ hi)
  unfold gz at e
  rw [Int.toNat_natCast, List.getD_eq_getElem?_getD, List.getElem?_eq_getElem hi] at e
  rw [show T[i] = _ from e]
  exact (flip_at co.at).1⟩
theorem tv_flip (hs : Sh f r) (h : LT f.toNat r.toNat cells T (f * r).toNat) (co : CO f r cells) {s : Nat} (hx : s < (f * r).toNat) : tv (tabV f r) (gz T s) s = -tv (tabV f r) (gz cells (mir f.toNat r.toNat s)) (mir f.toNat r.toNat s) := by
  have hm := (sh_nat hs).2.2 s hx
  have c := co.at (s := (mir f.toNat r.toNat s))
  have fa := flip_at c
  rw [h.at_ s hx, tv_eq fa.1 (ixN hx), tv_eq c (ixN hm)]
  generalize gz cells (mir f.toNat r.toNat s) = p at *
  by_cases q : p ≠ 0
  · rw [if_pos q, if_pos (fa.2.1.mpr q)]
    have w := (Bool.or_eq_true_iff.mp (fin3_at flip_fin hs (show Ix p 15 from ⟨c.1, by clear fa hm; omega⟩) (ixN hx))).resolve_left fun z => by have := of_decide_eq_true z; clear fa hm z; lia
    exact of_decide_eq_true (Bool.and_eq_true_iff.mp w).1
  · rw [if_neg q, if_neg fun z => q (fa.2.1.mp z)]; rfl
theorem kept_turn (hs : Sh f r) (h : LT f.toNat r.toNat cells T (f * r).toNat) (co : CO f r cells) : keptV f r T = -keptV f r cells := by
  refine go1 fun G hG => ?_
  obtain ⟨e, f0, _⟩ := sh_nat hs
  refine hG ?_
  unfold keptV
  rw [sumN_congr fun i hi => tv_flip hs h co hi, sumN_neg]
  refine congrArg _ ?_
  rw [e]
  exact sumN_mir (F := fun i => tv (tabV f r) (gz cells i) i) f0
theorem men_sum {P : Int → Bool} {l : List Int} : ((l.countP P : Nat) : Int) = sumN (fun i => if P (gz l i) then 1 else 0) l.length := by
  induction l with
  | nil => rfl
  | cons c l ih =>
    rw [List.countP_cons, List.length_cons, sumN_head, Int.natCast_add, ih, Int.add_comm]
    exact congrArg (· + _) (by show ((if P c then 1 else 0 : Nat) : Int) = if P c then 1 else 0; split <;> rfl)
theorem fs {a s : Int} (h : 1 - a = s) : a = 1 - s := by omega
theorem fs' {a s : Int} (h : a = 1 - s) : 1 - a = s := by omega
theorem men_turn (hs : Sh f r) (h : LT f.toNat r.toNat cells T (f * r).toNat) (co : CO f r cells) : men T s k = men cells (1 - s) k := by
  obtain ⟨e, f0, _⟩ := sh_nat hs
  refine Int.ofNat.inj ?_
  show ((men T s k : Nat) : Int) = ((men cells (1 - s) k : Nat) : Int)
  unfold men
  rw [men_sum, men_sum, h.len, co.len, e, ← sumN_mir (F := fun i => if isK k (gz cells i) && isS (1 - s) (gz cells i) then 1 else 0) f0, ← e]
  refine sumN_congr fun i hi => ?_
  have c := co.at (s := (mir f.toNat r.toNat i))
  have fa := flip_at c
  rw [h.at_ i hi]
  generalize gz cells (mir f.toNat r.toNat i) = p at *
  refine congrArg (fun b : Bool => if b then (1 : Int) else 0) ?_
  unfold isK isS
  rw [and7 c.1, and7 fa.1.1]
  by_cases q : p ≠ 0
  · obtain ⟨e1, e2⟩ := fa.2.2 q
    have q' := fa.2.1.mpr q
    rw [e1, e2]
    rw [decide_eq_decide.mpr (show (flipC p ≠ 0 ∧ p % 8 = k) ↔ (p ≠ 0 ∧ p % 8 = k) from ⟨fun z => ⟨q, z.2⟩, fun z => ⟨q', z.2⟩⟩), decide_eq_decide.mpr (show (flipC p ≠ 0 ∧ 1 - p / 8 = s) ↔ (p ≠ 0 ∧ p / 8 = 1 - s) from ⟨fun z => ⟨q, fs z.2⟩, fun z => ⟨q', fs' z.2⟩⟩)]
  · have q' : ¬ flipC p ≠ 0 := fun z => q (fa.2.1.mp z)
    rw [decide_eq_false (show ¬ (flipC p ≠ 0 ∧ _) from fun z => q' z.1), decide_eq_false (show ¬ (p ≠ 0 ∧ _) from fun z => q z.1), Bool.false_and, Bool.false_and]
theorem cnt_turn (hs : Sh f r) (h : LT f.toNat r.toNat cells T (f * r).toNat) (co : CO f r cells) : cntRow T s = cntRow cells (1 - s) := by
  unfold cntRow
  rw [men_turn hs h co, men_turn hs h co, men_turn hs h co, men_turn hs h co, men_turn hs h co]
theorem plain_eq (hs : Sh f r) (co : CO f r cells) : sumN (fun i => plainV f r cells i) (f * r).toNat = keptV f r cells := by
  refine sumN_congr fun i hi => ?_
  rw [tv_eq co.at (ixN hi)]
  unfold plainV rowF sgn
  by_cases h : gz cells i ≠ 0
  · rw [if_pos h, if_pos h]
    by_cases q : gz cells i / 8 = 0
    · rw [if_pos q, if_pos q, Int.one_mul]; rfl
    · rw [if_neg q, if_neg q, Int.neg_mul, Int.one_mul]; rfl
  · rw [if_neg h, if_neg h]
theorem divV_neg {a : Int} : divV (-a) = -divV a := by
  unfold divV absI
  rcases Int.lt_trichotomy a 0 with h | h | h
  · rw [if_neg (by omega), if_neg (by omega), if_pos h, if_pos h, Int.neg_neg]
  · subst h; rfl
  · rw [if_pos (by omega), if_pos (by omega), if_neg (by omega), if_neg (by omega), Int.neg_neg]
end
end Vg
end
section
set_option autoImplicit false
set_option linter.all false
namespace Vg
open PySem PySem.W PyProof.Rows
section
variable {F G : Nat → Int} {n : Nat} {l A B : List Int} {k : Nat}
theorem sumN_add : sumN (fun i => F i + G i) n = sumN F n + sumN G n := by
  induction n with
  | zero => rfl
  | succ n ih => show sumN (fun i => F i + G i) n + (F n + G n) = (sumN F n + F n) + (sumN G n + G n); rw [ih]; lia
theorem sumN_if (h : k < n) : sumN (fun j => if j ≤ k then F j else 0) n = sumN F (k + 1) := by
  induction n with
  | zero => exact absurd h (Nat.not_lt_zero k)
  | succ n ih =>
    rcases Nat.lt_succ_iff_lt_or_eq.mp h with h1 | rfl
    · show sumN _ n + (if n ≤ k then F n else 0) = _
      rw [ih h1, if_neg (Nat.not_le.mpr h1), Int.add_zero]
    · refine sumN_congr fun i hi => if_pos (Nat.le_of_lt_succ hi)
theorem sumN_zero : sumN (fun zz => (0 : Int)) n = 0 := by
  induction n with
  | zero => rfl
  | succ n ih => show sumN _ n + 0 = 0; rw [ih]; rfl
theorem sumN_one {x : Int} {c : Int} (hx : Ix x n) : sumN (fun k => if x = (k : Int) then F k else 0) n = F x.toNat := by
  obtain ⟨i, rfl⟩ := Int.eq_ofNat_of_zero_le hx.1
  have key : ∀ m, i < m → sumN (fun k => if (i : Int) = (k : Int) then F k else 0) m = F i := by
    intro m
    induction m with
    | zero => intro h; exact absurd h (Nat.not_lt_zero i)
    | succ m ih =>
      intro h
      show sumN _ m + (if (i : Int) = (m : Int) then F m else 0) = F i
      rcases Nat.lt_succ_iff_lt_or_eq.mp h with h1 | rfl
      · rw [ih h1, if_neg (by omega), Int.add_zero]
      · rw [if_pos rfl, sumN_congr (G := fun zz => 0) fun j hj => if_neg (by omega)]
        rw [sumN_zero, Int.zero_add]
  exact key n hx.2
theorem sum_cnt {H : Int → Int} (hl : ∀ x ∈ l, Ix x 6) : (l.map H).sum = sumN (fun k => (l.count (k : Int) : Int) * H k) 6 := by
  induction l with
  | nil => exact ((sumN_congr (G := fun zz => 0) fun k _ => Int.zero_mul _).trans sumN_zero).symm
  | cons x l ih =>
    have hx := hl x (List.mem_cons_self ..)
    rw [List.map_cons, List.sum_cons, ih fun y hy => hl y (List.mem_cons_of_mem _ hy)]
    have e : H x = sumN (fun k => if x = (k : Int) then H k else 0) 6 := by
      rw [sumN_one (F := fun k => H k) (c := 0) hx, Int.toNat_of_nonneg hx.1]
    rw [e, ← sumN_add]
    refine sumN_congr fun k _ => ?_
    rw [List.count_cons]
    by_cases q : x = (k : Int)
    · rw [if_pos q, if_pos (beq_iff_eq.mpr q), Int.natCast_add, Int.add_mul, Int.add_comm]; exact congrArg _ (Int.one_mul _).symm
    · rw [if_neg q, if_neg fun z => q (beq_iff_eq.mp z), Int.zero_add, Nat.add_zero]
end
noncomputable def innerV (E : List (List Int)) (x : Int) (l : List Int) : Int := (l.map fun y => if y ≤ x then gz (rw_ E x) y else 0).sum
noncomputable def formV (A B : List Int) : Int := (A.map fun x => innerV ownWeights x A + innerV foeWeights x B).sum
noncomputable def cl (A : List Int) : List Int := (List.range 6).map fun (k : Nat) => (A.count (k : Int) : Int)
theorem cl_gz {A : List Int} {k : Nat} (h : k < 6) : gz (cl A) k = A.count (k : Int) := by
  unfold gz cl
  rw [Int.toNat_natCast, List.getD_eq_getElem?_getD, List.getElem?_map, List.getElem?_range h]; rfl
theorem inner_cnt {E : List (List Int)} {A : List Int} {k : Nat} (hA : ∀ x ∈ A, Ix x 6) (hk : k < 6) : innerV E k A = sumN (fun j => gz (rw_ E k) j * gz (cl A) j) (k + 1) := by
  unfold innerV
  rw [sum_cnt hA, ← sumN_if hk]
  refine sumN_congr fun j hj => ?_
  rw [cl_gz hj]
  by_cases q : j ≤ k
  · rw [if_pos q, if_pos (Int.ofNat_le.mpr q), Int.mul_comm]
  · rw [if_neg q, if_neg fun z => q (Int.ofNat_le.mp z), Int.mul_zero]
theorem form_eq {A B : List Int} (hA : ∀ x ∈ A, Ix x 6) (hB : ∀ x ∈ B, Ix x 6) : formV A B = imbV (cl A) (cl B) := by
  unfold formV imbV
  rw [sum_cnt hA]
  refine sumN_congr fun k hk => ?_
  unfold imbT
  rw [cl_gz hk]
  by_cases q : (A.count (k : Int) : Int) ≠ 0
  · rw [if_pos q, inner_cnt hA hk, inner_cnt hB hk, ← sumN_add]; rfl
  · rw [if_neg q, Decidable.byContradiction q, Int.zero_mul]
noncomputable def menB (s c : Int) : Bool := decide (c % 8 ∈ [(1 : Int), 2, 3, 4, 5]) && decide (c / 8 = s)
noncomputable def menR (cells : List Int) (s : Int) : List Int := (cells.filter (menB s)).map (· % 8)
noncomputable def rowM (cells : List Int) (s : Int) : List Int := if 1 < (menR cells s).count 3 then menR cells s ++ [0] else menR cells s
section
variable {f r s : Int} {cells : List Int}
theorem men_in {x : Int} (h : x ∈ menR cells s) : x ∈ [(1 : Int), 2, 3, 4, 5] := by
  obtain ⟨c, hc, rfl⟩ := List.mem_map.mp h
  exact of_decide_eq_true (Bool.and_eq_true_iff.mp (List.mem_filter.mp hc).2).1
theorem in_ix {x : Int} (h : x ∈ [(1 : Int), 2, 3, 4, 5]) : Ix x 6 ∧ x ≠ 0 := by
  have key : ∀ x ∈ [(1 : Int), 2, 3, 4, 5], Ix x 6 ∧ x ≠ 0 := by decide
  exact key x h
theorem row_ix : ∀ x ∈ rowM cells s, Ix x 6 := fun x h => by
  unfold rowM at h
  split at h
  · exact (List.mem_append.mp h).elim (fun h => (in_ix (men_in h)).1) fun h => by rw [List.mem_singleton.mp h]; decide
  · exact (in_ix (men_in h)).1
theorem men_cnt (co : CO f r cells) {k : Int} (hk : k ∈ [(1 : Int), 2, 3, 4, 5]) : (menR cells s).count k = men cells s k := by
  unfold menR men
  rw [List.count_eq_countP, List.countP_map, List.countP_filter]
  refine List.countP_congr fun c hc => ?_
  have h0 := (co.ok c hc).1
  unfold menB isK isS
  rw [and7 h0, Bool.and_eq_true_iff, Bool.and_eq_true_iff, Bool.and_eq_true_iff, decide_eq_true_iff, decide_eq_true_iff, decide_eq_true_iff, decide_eq_true_iff]
  constructor
  · rintro ⟨e, -, h⟩
    have e' : c % 8 = k := beq_iff_eq.mp e
    have : c ≠ 0 := fun z => by rw [z] at e'; exact (in_ix hk).2 e'.symm
    exact ⟨⟨this, e'⟩, this, h⟩
  · rintro hh
    refine go1 fun G hG => ?_
    obtain ⟨⟨_, e⟩, _, h⟩ := hh
    refine hG ?_
    exact ⟨beq_iff_eq.mpr e, e ▸ hk, h⟩
theorem row_cnt (co : CO f r cells) : cl (rowM cells s) = cntRow cells s := by
  have key : ∀ k : Int, k ∈ [(1 : Int), 2, 3, 4, 5] → (rowM cells s).count k = men cells s k := fun k hk => by
    rw [← men_cnt co hk]
    unfold rowM
    split
    · rw [List.count_append, List.count_eq_zero_of_not_mem (l := [0]) fun z => (in_ix hk).2 (List.mem_singleton.mp z)]; rfl
    · rfl
  have z : (menR cells s).count 0 = 0 := List.count_eq_zero_of_not_mem fun h => (in_ix (men_in h)).2 rfl
  have k0 : ((rowM cells s).count 0 : Int) = big (men cells s 3) := by
    unfold rowM big
    rw [← men_cnt co (k := 3) (by decide)]
    by_cases q : 1 < (menR cells s).count 3
    · rw [if_pos q, if_pos (by omega), List.count_append, z]; rfl
    · rw [if_neg q, if_neg (by omega), z]; rfl
  show [((rowM cells s).count 0 : Int), ((rowM cells s).count 1 : Int), ((rowM cells s).count 2 : Int), ((rowM cells s).count 3 : Int), ((rowM cells s).count 4 : Int), ((rowM cells s).count 5 : Int)] = _
  rw [k0, key 1 (by decide), key 2 (by decide), key 3 (by decide), key 4 (by decide), key 5 (by decide)]
  rfl
end
end Vg
end
section
set_option autoImplicit false
set_option linter.all false
namespace Vg
open PySem PySem.W PyProof.Rows
theorem sum_take {H : Int → Int} {l : List Int} {i : Nat} {x : Int} (e : l[i]? = some x) : ((l.take (i + 1)).map H).sum = ((l.take i).map H).sum + H x := by
  obtain ⟨hi, rfl⟩ := List.getElem?_eq_some_iff.mp e
  rw [← List.take_append_getElem hi, List.map_append, List.sum_append]
  exact congrArg _ (Int.add_zero _)
section
variable {M : Mem} {Q : AV → Mem → Prop} {A B : List Int} {x y : AV} {N B' : List AV → Mem → Prop} {R : AV → Mem → Prop} {t : Int} {v3 v4 : AV}
noncomputable def frB (E : List (List Int)) : St := .seq (.ife (.cmp .le (.v 4) (.v 3)) (.seq (.augv 2 .add (.sub (.sub (.c (aintss E)) (.v 3)) (.v 4))) .nop) .nop) .nop
theorem fr_in {E : List (List Int)} {l : List Int} {z : AV} {k : Int} (hl : LI M l z) (hk : Ix k E.length) (hE : (rw_ E k).length = k.toNat + 1) (h0 : ∀ y ∈ l, 0 ≤ y) (q : ∀ v4, N [x, y, .int (t + innerV E k l), .int k, v4] M) :
    forP (.v 4) (frB E) z (l.map .int) [x, y, .int t, .int k, v4] M N R := by
  refine ⟨fun i m M' => ∃ v4 w, w = t + ((l.take i).map fun y => if y ≤ k then gz (rw_ E k) y else 0).sum ∧ m = [x, y, .int w, .int k, v4] ∧ M = M', ⟨_, _, (Int.add_zero t).symm, rfl, rfl⟩, ?_, ?_⟩
  · rintro i _ _ _ e ⟨v4, w, e1, rfl, rfl⟩
    rw [List.getElem?_map] at e
    obtain ⟨c, e2, rfl⟩ := Option.map_eq_some_iff.mp e
    have hc := h0 c (List.mem_of_getElem? e2)
    have e3 := sum_take (H := fun y => if y ≤ k then gz (rw_ E k) y else 0) e2
    refine .intro (fun h => subF hk.1 (rwG hk) <| subL ⟨hc, by rw [hE]; lia⟩ <| .intro (hl.la.still) ⟨_, _, ?_, rfl, rfl⟩) fun h => .intro (hl.la.still) ⟨_, _, ?_, rfl, rfl⟩
    · rw [e3, e1, ← Int.add_assoc]; exact congrArg _ (if_pos h).symm
    · rw [e3, ← Int.add_assoc, ← e1]; exact (Int.add_zero w).symm.trans (congrArg _ (if_neg h).symm)
  · rintro _ _ ⟨v4, w, e1, rfl, rfl⟩
    rw [List.length_map, List.take_length] at e1
    rw [e1]; exact q v4
theorem len_w : ∀ k : Fin 6, (rw_ ownWeights k).length = k.val + 1 ∧ (rw_ foeWeights k).length = k.val + 1 := by decide
theorem C_form (hx : LI M A x) (hy : LI M B y) (hA : ∀ x ∈ A, Ix x 6) (hB : ∀ x ∈ B, Ix x 6) (q : Q (.int (formV A B)) M) : t_law_form [x, y] M Q := by
  refine fnT.gs u_law_form rfl <| hx.d <| hx.la.it <| ⟨fun i m M' => ∃ v3 v4 w, w = ((A.take i).map fun x => innerV ownWeights x A + innerV foeWeights x B).sum ∧ m = [x, y, .int w, v3, v4] ∧ M = M', ⟨_, _, _, rfl, rfl, rfl⟩, ?_, ?_⟩
  · rintro i _ _ _ e ⟨v3, v4, w, e1, rfl, rfl⟩
    rw [List.getElem?_map] at e
    obtain ⟨k, e2, rfl⟩ := Option.map_eq_some_iff.mp e
    have hk := hA k (List.mem_of_getElem? e2)
    have lw := len_w ⟨k.toNat, hk.2⟩
    have ek : ((k.toNat : Nat) : Int) = k := Int.toNat_of_nonneg hk.1
    simp only [ek] at lw
    refine hx.d <| hx.la.it <| fr_in (E := ownWeights) hx hk lw.1 (fun y h => (hA y h).1) fun v4 => hy.d <| hy.la.it <| fr_in (E := foeWeights) hy hk lw.2 (fun y h => (hB y h).1) fun v4 => .intro hx.la.still ⟨_, _, _, ?_, rfl, rfl⟩
    rw [sum_take e2, e1, Int.add_assoc]
  · rintro _ _ ⟨v3, v4, w, e1, rfl, rfl⟩
    rw [List.length_map, List.take_length] at e1
    rw [e1]; exact XR.mk q
end
end Vg
end
section
set_option autoImplicit false
set_option linter.all false
namespace Vg
open PySem PySem.W PyProof.Rows
section
variable {M M' X : Mem} {tr c : Addr} {o : AO} {T : List Int} {Q : AV → Mem → Prop}
theorem le_setF (h : M.le M') (hf : M tr = none) : M.le (M'.set tr o) := fun b x e => (Mem.set_ne _ _ (ne_of e hf).symm).trans (h b x e)
structure TS (M : Mem) (tr : Addr) (T : List Int) (M' : Mem) : Prop where
  le : M.le M'
  f : M tr = none
  at_ : M' tr = some (iL T)
theorem TS.junk (S : TS M tr T M') (h : M' c = none) : TS M tr T (M'.set c o) := ⟨S.le.trans (Mem.le_set h), S.f, (Mem.set_ne _ _ (ne_of S.at_ h).symm).trans S.at_⟩
theorem TS.app {v : Int} (S : TS M tr T M') (hl : T.length ≤ 1000) {b : St} {m : List AV} {N B : List AV → Mem → Prop} {R : AV → Mem → Prop} (q : TS M tr (T ++ [v]) (M'.set tr (iL (T ++ [v]))) → b m (M'.set tr (iL (T ++ [v]))) N B R) : meP M' .append (.ref tr) (.int v) (fun u M => dropP u ∧ b m M N B R) :=
  ⟨_, S.at_, by rw [List.length_map]; exact Nat.le_trans hl (by decide), trivial, by
    have e : AO.list (T.map .int ++ [.int v]) = iL (T ++ [v]) := by unfold iL; rw [List.map_append]; rfl
    rw [e]; exact q ⟨le_setF S.le S.f, S.f, Mem.set_self _ _ _⟩⟩
theorem TS.lp (S : TS M tr T M') : listP M' (.ref tr) fun zz => True := ⟨_, S.at_, trivial⟩
end
section
variable {M M' : Mem} {tr : Addr} {g : Geo} {a : Ad} {cells T : List Int} {kept : Int} {Q : AV → Mem → Prop} {N B : List AV → Mem → Prop} {R : AV → Mem → Prop} {v6 v7 v8 v9 v10 v11 v12 v13 v14 v15 v16 v17 : AV} {f r : Nat}
noncomputable abbrev wn (g : Geo) (a : Ad) (cells : List Int) (kept : Int) (v6 v7 v8 v9 v10 v11 v12 v13 v14 v15 v16 v17 : AV) : List AV := [g.av, .inst 2 a.d, aints cells, aintss (tabV g.f g.r), .int kept, .int g.f, v6, v7, v8, v9, v10, v11, v12, v13, v14, v15, v16, v17]
theorem wh1 {p : Int} (S : TS M tr T M') (hl : T.length ≤ 1000) (q : TS M tr (T ++ [flipC p]) (M'.set tr (iL (T ++ [flipC p]))) → N (wn g a cells kept (.ref tr) v7 (.int p) v9 v10 v11 v12 v13 v14 v15 v16 v17) (M'.set tr (iL (T ++ [flipC p])))) :
    w_law_whole_1 (wn g a cells kept (.ref tr) v7 (.int p) v9 v10 v11 v12 v13 v14 v15 v16 v17) M' N B R := by
  have key : ∀ v, flipC p = v → meP M' .append (.ref tr) (.int v) (fun u M => dropP u ∧ St.nop (wn g a cells kept (.ref tr) v7 (.int p) v9 v10 v11 v12 v13 v14 v15 v16 v17) M N B R) := fun v e => by subst e; exact S.app hl q
  exact .intro S.lp <| .intro (fun h => .intro (by decide) <| key _ (if_pos h)) fun h => key _ (if_neg h)
theorem sl_ok {f r : Int} (hs : Sh f r) {i : Nat} (hi : i < r.toNat) : (r - 1 - i) * f = (((r.toNat - 1 - i) * f.toNat : Nat) : Int) ∧ sm (r - 1 - i) ∧ (r.toNat - 1 - i) * f.toNat + f.toNat ≤ (f * r).toNat ∧ (f.toNat : Int) = f ∧ i * f.toNat + f.toNat ≤ (f * r).toNat := by
  have l := hs.le
  have e3 : (f.toNat : Int) = f := Int.toNat_of_nonneg (Int.le_of_lt l.2.1)
  have e4 : (r.toNat : Int) = r := Int.toNat_of_nonneg (Int.le_of_lt l.2.2.2.1)
  have ed : r - 1 - i = ((r.toNat - 1 - i : Nat) : Int) := by lia
  have r6 : r ≤ 6 := by cases hs <;> decide
  have k : ∀ {j}, j < r.toNat → j * f.toNat + f.toNat ≤ (f * r).toNat := fun {j} h => by
    rw [Int.toNat_mul (Int.le_of_lt l.2.1) (Int.le_of_lt l.2.2.2.1), Nat.mul_comm f.toNat, ← Nat.succ_mul]; exact Nat.mul_le_mul_right _ h
  exact ⟨by rw [ed, Int.natCast_mul, e3], ⟨by rw [ed]; exact Int.le_trans (by decide) (Int.natCast_nonneg _), by lia⟩, k (by lia), e3, k hi⟩
theorem wh2 (hs : Sh g.f g.r) (co : CO g.f g.r cells) {i : Nat} (hi : i < g.r.toNat) (S : TS M tr T M') (h : LT g.f.toNat g.r.toNat cells T (i * g.f.toNat))
    (q : ∀ v8 T' M'', TS M tr T' M'' → LT g.f.toNat g.r.toNat cells T' ((i + 1) * g.f.toNat) → N (wn g a cells kept (.ref tr) (.int (g.r - 1 - i)) v8 v9 v10 v11 v12 v13 v14 v15 v16 v17) M'') :
    w_law_whole_2 (wn g a cells kept (.ref tr) (.int (g.r - 1 - i)) v8 v9 v10 v11 v12 v13 v14 v15 v16 v17) M' N B R := by
  refine go1 fun G hG => ?_
  obtain ⟨e1, h1, h2, e3, h3⟩ := sl_ok hs hi
  refine hG ?_
  have hl := hs.le
  have f0 : 0 < g.f.toNat := Int.pos_iff_toNat_pos.mp hl.2.1
  have e2 : (g.r - 1 - i) * g.f + g.f = (((g.r.toNat - 1 - i) * g.f.toNat + g.f.toNat : Nat) : Int) := by rw [e1, Int.natCast_add, e3]
  refine .intro h1 <| .intro h1 <| .intro (e1 ▸ Int.natCast_nonneg _) <| .intro (e2 ▸ Int.natCast_nonneg _) <| (LI.lst (ns := cells)).list ?_
  have ed : ((cells.map AV.int).take ((g.r - 1 - i) * g.f + g.f).toNat).drop ((g.r - 1 - i) * g.f).toNat = ((cells.drop ((g.r.toNat - 1 - i) * g.f.toNat)).take g.f.toNat).map .int := by
    rw [e2, e1, Int.toNat_natCast, Int.toNat_natCast, ← List.map_take, ← List.map_drop, List.drop_take, Nat.add_sub_cancel_left]
  rw [ed]
  have dl : ((cells.drop ((g.r.toNat - 1 - i) * g.f.toNat)).take g.f.toNat).length = g.f.toNat := by rw [List.length_take, List.length_drop, co.len]; exact Nat.min_eq_left (Nat.le_sub_of_add_le (by rw [Nat.add_comm]; exact h2))
  have dg : ∀ (j : Nat) (p : Int), ((cells.drop ((g.r.toNat - 1 - i) * g.f.toNat)).take g.f.toNat)[j]? = some p → j < g.f.toNat ∧ p = gz cells (mir g.f.toNat g.r.toNat (i * g.f.toNat + j)) := fun j p e => by
    rw [List.getElem?_take] at e
    split at e
    · rename_i hj
      rw [List.getElem?_drop] at e
      refine ⟨hj, ?_⟩
      unfold gz mir
      rw [Nat.add_comm (i * g.f.toNat), Nat.add_mul_div_right _ _ f0, Nat.div_eq_of_lt hj, Nat.zero_add, Nat.add_mul_mod_self_right, Nat.mod_eq_of_lt hj, Int.toNat_natCast, List.getD_eq_getElem?_getD, e]; rfl
    · cases e
  generalize (cells.drop ((g.r.toNat - 1 - i) * g.f.toNat)).take g.f.toNat = ds at *
  refine .intro (by rw [List.length_map, dl]; exact Nat.le_trans (Nat.le_trans (Nat.le_add_left _ _) h2) (Nat.le_trans hs.n20 (nle rfl))) fun c hc => ?_
  have hct := ne_of S.at_ hc
  have S1 := S.junk (o := iL ds) hc
  refine .intro _ <| .intro (Mem.set_self _ _ _) <| ⟨fun j m M'' => ∃ v8 T', m = wn g a cells kept (.ref tr) (.int (g.r - 1 - i)) v8 v9 v10 v11 v12 v13 v14 v15 v16 v17 ∧ TS M tr T' M'' ∧ LT g.f.toNat g.r.toNat cells T' (i * g.f.toNat + j) ∧ M'' c = some (iL ds), ⟨_, _, rfl, S1, h, Mem.set_self _ _ _⟩, ?_, ?_⟩
  · rintro j x _ M'' e ⟨v8, T', rfl, S', h', hc'⟩
    rw [List.getElem?_map] at e
    obtain ⟨p, e4, rfl⟩ := Option.map_eq_some_iff.mp e
    obtain ⟨hj, ep⟩ := dg j p e4
    have hc2 : ∀ o, (M''.set tr o) c = some (iL ds) := fun o => (Mem.set_ne _ _ hct).trans hc'
    exact wh1 S' (by rw [h'.len]; clear e e4 dg S' h' S1; lia) fun S2 => .intro (hc2 _) ⟨_, _, rfl, S2, h'.snoc (by rw [ep]), hc2 _⟩
  · rintro _ M'' hh
    refine go1 fun G hG => ?_
    obtain ⟨v8, T', rfl, S', h', hc'⟩ := hh
    refine hG ?_
    rw [List.length_map, dl, ← Nat.succ_mul] at h'
    exact q _ _ _ S' h'
end
end Vg
end
section
set_option autoImplicit false
set_option linter.all false
namespace Vg
open PySem PySem.W PyProof.Rows
theorem comp_filter {P : Int → Bool} {H : Int → Int} {l : List Int} {c elt : X} {t : Nat} {v : AV} {m : List AV} {M : Mem} {K : List AV → Mem → Prop} (h : ∀ x ∈ l, ∀ {T : Prop → Mem → Prop}, (∀ p, (p ↔ P x = true) → T p M) → c.t (m.set t (.int x)) M T)
    (h2 : ∀ x ∈ l, ∀ {G : AV → Mem → Prop}, G (.int (H x)) M → elt.e (m.set t (.int x)) M G) (st : stillP M v (l.map .int)) (q : K (((l.filter P).map H).map .int) M) : compP c elt t v (l.map .int) m M K := by
  refine ⟨fun i acc M' => M = M' ∧ acc = (((l.take i).filter P).map H).map .int, ⟨rfl, rfl⟩, fun i x acc M' e z => ?_, fun acc M' z => ?_⟩
  · obtain ⟨rfl, rfl⟩ := z
    rw [List.getElem?_map] at e
    obtain ⟨y, e1, rfl⟩ := Option.map_eq_some_iff.mp e
    obtain ⟨hi, e2⟩ := List.getElem?_eq_some_iff.mp e1
    have hy := List.mem_of_getElem? e1
    have et : ((l.take (i + 1)).filter P) = (l.take i).filter P ++ (if P y = true then [y] else []) := by
      rw [← List.take_append_getElem hi, e2, List.filter_append, List.filter_cons, List.filter_nil]
    refine h y hy fun p hp => ⟨fun hq => h2 y hy ⟨st, rfl, ?_⟩, fun hq => ⟨st, rfl, ?_⟩⟩
    · rw [et, if_pos (hp.mp hq), List.map_append, List.map_append]; rfl
    · rw [et, if_neg (fun z => hq (hp.mpr z)), List.append_nil]
  · obtain ⟨rfl, rfl⟩ := z
    rw [List.length_map, List.take_length]; exact q
theorem comp2 {elt : X} {t : Nat} {v x0 x1 : AV} {m : List AV} {M : Mem} {K : List AV → Mem → Prop} (h : elt.e (m.set t x0) M fun y0 M1 => stillP M1 v [x0, x1] ∧ elt.e (m.set t x1) M1 fun y1 M2 => stillP M2 v [x0, x1] ∧ K [y0, y1] M2) : compP .yes elt t v [x0, x1] m M K := by
  refine ⟨fun i acc M' => match i with
    | 0 => acc = [] ∧ M = M'
    | 1 => elt.e (m.set t x1) M' fun y1 M2 => stillP M2 v [x0, x1] ∧ K (acc ++ [y1]) M2
    | _ => K acc M', ⟨rfl, rfl⟩, fun i x acc M' e z => ?_, fun acc M' z => z⟩
  match i, e, z with
  | 0, e, z =>
    obtain ⟨rfl, rfl⟩ := z
    cases e
    exact .intro (fun _ => h) fun h => absurd trivial h
  | 1, e, z =>
    cases e
    exact .intro (fun _ => z) fun h => absurd trivial h
  | n + 2, e, z => cases e
section
variable {M M' : Mem} {tr mr : Addr} {g : Geo} {a : Ad} {cells T : List Int} {kept : Int} {Q : AV → Mem → Prop} {N B : List AV → Mem → Prop} {R : AV → Mem → Prop} {v6 v7 v8 v9 v10 v11 v12 v13 v14 v15 v16 v17 : AV} {f r : Nat} {rs : List Addr} {ls : List (List Int)} {s : Int}
theorem sh_r {f r : Int} (hs : Sh f r) : r ≤ 100 := by cases hs <;> decide
theorem wh_turn (hs : Sh g.f g.r) (co : CO g.f g.r cells) (S : TS M tr [] M') (q : ∀ v7 v8 T M'', TS M tr T M'' → LT g.f.toNat g.r.toNat cells T (g.f * g.r).toNat → q_law_whole_3 (wn g a cells kept (.ref tr) v7 v8 v9 v10 v11 v12 v13 v14 v15 v16 v17) M'' N B R) :
    q_law_whole_2 (wn g a cells kept (.ref tr) v7 v8 v9 v10 v11 v12 v13 v14 v15 v16 v17) M' N B R := by
  have hl := hs.le
  have e := (sh_nat hs).1
  have hr : g.r ≤ 100 := sh_r hs
  have lr : (rngL (g.r - 1) (-1) (-1)).length = g.r.toNat := by rw [rngL, if_neg (by decide), List.length_map, List.length_range]; congr 1; lia
  refine gAt rfl <| .intro ⟨by omega, by omega⟩ <| .intro ⟨by decide, by decide⟩ <| .intro rfl <| ⟨fun i m M'' => ∃ v7 v8 T, m = wn g a cells kept (.ref tr) v7 v8 v9 v10 v11 v12 v13 v14 v15 v16 v17 ∧ TS M tr T M'' ∧ LT g.f.toNat g.r.toNat cells T (i * g.f.toNat), ⟨_, _, _, rfl, S, (Nat.zero_mul _).symm, fun s h => absurd h (by rw [Nat.zero_mul]; exact Nat.not_lt_zero s)⟩, ?_, ?_⟩
  · rintro i x _ M'' e ⟨v7, v8, T, rfl, S', h⟩
    obtain ⟨hi, _⟩ := List.getElem?_eq_some_iff.mp e
    rw [rngL_get (.inr rfl) hi, Int.mul_neg_one] at e
    cases e
    exact wh2 hs co (lr ▸ hi) S' h fun v8 T' M3 S3 h3 => .intro trivial ⟨_, _, _, rfl, S3, h3⟩
  · rintro _ M'' hh
    refine go1 fun G hG => ?_
    obtain ⟨v7, v8, T, rfl, S', h⟩ := hh
    refine hG ?_
    rw [lr, ← e] at h
    exact q _ _ _ _ S' h
end
end Vg
end
section
set_option autoImplicit false
set_option linter.all false
namespace Vg
open PySem PySem.W PyProof.Rows
section
variable {M M' : Mem} {tr mr : Addr} {g : Geo} {a : Ad} {cells T : List Int} {kept : Int} {Q : AV → Mem → Prop} {N B : List AV → Mem → Prop} {R : AV → Mem → Prop} {v6 v7 v8 v9 v10 v11 v12 v13 v14 v15 v16 v17 : AV} {f r : Nat} {rs : List Addr} {ls : List (List Int)} {s : Int}
theorem wh3 (G : Gr M M' mr rs ls) (hl : rs.length ≤ 1000) (cl' : cells.length ≤ 1000)
    (q : ∀ v11 r M'', Gr M M'' mr (rs ++ [r]) (ls ++ [rowM cells s]) → N (wn g a cells kept v6 v7 v8 (.ref mr) (.int s) v11 v12 v13 v14 v15 v16 v17) M'') :
    w_law_whole_3 (wn g a cells kept v6 v7 v8 (.ref mr) (.int s) v11 v12 v13 v14 v15 v16 v17) M' N B R := by
  refine .intro (by rw [List.length_map]; exact Nat.le_trans cl' (by decide)) <| comp_filter (P := menB s) (H := (· % 8)) (fun x _ {T'} hT => .intro (by decide) <| .intro [1, 2, 3, 4, 5] <| .intro rfl <| .intro (fun h => .intro (by decide) <| .intro (by decide) <| hT _ ?_) fun h => hT _ ?_) (fun x _ {G'} q => .intro (by decide) q) trivial fun rr hr => ?_
  · unfold menB; rw [decide_eq_true h, Bool.true_and, decide_eq_true_iff]
  · unfold menB; rw [decide_eq_false h]; exact ⟨False.elim, fun z => nomatch z⟩
  have hrr : (M'.set rr (iL (menR cells s))) rr = some (iL (menR cells s)) := Mem.set_self _ _ _
  have hmr := (Mem.set_ne M' (iL (menR cells s)) (ne_of G.at_ hr).symm).trans G.at_
  have lm : (rs.map AV.ref).length ≤ 1000000 := by rw [List.length_map]; exact Nat.le_trans hl (by decide)
  refine .intro ⟨_, hmr, trivial⟩ <| .intro ⟨_, hrr, trivial⟩ <| .intro _ <| .intro hrr <| .intro _ <| .intro rfl <| .intro (fun h => ?_) fun h => ?_
  · have h1 : 1 < (menR cells s).count 3 := by omega
    have e : rowM cells s = menR cells s ++ [0] := if_pos h1
    have lr : (menR cells s).length ≤ 1000 := by unfold menR; rw [List.length_map]; exact Nat.le_trans (List.length_filter_le _ _) cl'
    refine .intro (nle rfl) fun j hj => ⟨rfl, _, (Mem.set_ne _ _ (ne_of hrr hj).symm).trans hrr, _, Mem.set_self _ _ _, by rw [List.length_append, List.length_map]; exact Nat.le_trans (Nat.succ_le_succ lr) (by decide), fun k hk => ?_⟩
    have G1 := ((G.junk (o := iL (menR cells s)) hr).junk (o := .list [.int 0]) hj)
    have ek : AO.list ((menR cells s).map .int ++ [.int 0]) = iL (rowM cells s) := by rw [e]; unfold iL; rw [List.map_append]; rfl
    rw [ek]
    exact ⟨_, (Mem.set_ne _ _ (ne_of G1.at_ hk).symm).trans G1.at_, lm, trivial, q _ _ _ (G1.app hk)⟩
  · have h1 : ¬ 1 < (menR cells s).count 3 := by omega
    have e : rowM cells s = menR cells s := if_neg h1
    exact ⟨_, hmr, lm, trivial, q _ _ _ (Eq.mpr (congrArg (Gr M ((M'.set rr (iL (menR cells s))).set mr _) mr (rs ++ [rr])) (congrArg (fun l => ls ++ [l]) e)) (G.app hr))⟩
structure WF (M M' : Mem) (cells T : List Int) (tr mr cc : Addr) : Prop where
  le : M.le M'
  t : M' tr = some (iL T)
  m : ∃ r0 r1, M' mr = some (.list [.ref r0, .ref r1]) ∧ M' r0 = some (iL (rowM cells 0)) ∧ M' r1 = some (iL (rowM cells 1))
  c : ∃ c0 c1, M' cc = some (.list [.ref c0, .ref c1]) ∧ M' c0 = some (iL (cl (rowM cells 0))) ∧ M' c1 = some (iL (cl (rowM cells 1)))
theorem WF.up {X : Mem} {cc : Addr} (w : WF M M' cells T tr mr cc) (h : M'.le X) : WF M X cells T tr mr cc :=
  ⟨w.le.trans h, h _ _ w.t, let ⟨a, b, c, d, e⟩ := w.m; ⟨a, b, h _ _ c, h _ _ d, h _ _ e⟩, let ⟨a, b, c, d, e⟩ := w.c; ⟨a, b, h _ _ c, h _ _ d, h _ _ e⟩⟩
theorem wh_cnt {mr r0 r1 : Addr} (hm : M' mr = some (.list [.ref r0, .ref r1])) (h0 : M' r0 = some (iL (rowM cells 0))) (h1 : M' r1 = some (iL (rowM cells 1)))
    (q : ∀ cc c0 c1 M'', M'.le M'' → M'' cc = some (.list [.ref c0, .ref c1]) → M'' c0 = some (iL (cl (rowM cells 0))) → M'' c1 = some (iL (cl (rowM cells 1))) → q_law_whole_6 (wn g a cells kept v6 v7 v8 (.ref mr) v10 v11 (.ref cc) v13 v14 v15 v16 v17) M'' N B R) :
    q_law_whole_5 (wn g a cells kept v6 v7 v8 (.ref mr) v10 v11 v12 v13 v14 v15 v16 v17) M' N B R := by
  have cnt : ∀ {Y : Mem} {y : Addr} {row : List Int} {K : AV → Mem → Prop}, Y y = some (iL row) → (∀ c, Y c = none → K (.ref c) (Y.set c (iL (cl row)))) → (X.comp (.me .count (.v 16) (.v 17)) 17 (.bi .range [(.c (.int 6))]) .yes).e ((wn g a cells kept v6 v7 v8 (.ref mr) v10 v11 v12 v13 v14 v15 v16 v17).set 16 (.ref y)) Y K :=
    fun {Y y row K} e k => .intro (okr15 (by decide) (by decide)) <| .intro (nle rfl) <| comp_ints (n := 6) (F := fun k => (row.count (k : Int) : Int)) (fun i hi {G} q => .intro ⟨_, e, trivial⟩ <| .intro _ <| .intro e <| .intro _ <| .intro rfl q) fun c hc => k c hc
  refine .intro _ <| .intro hm <| .intro (nle rfl) <| comp2 <| cnt h0 fun c0 z0 => .intro ((Mem.le_set z0) _ _ hm) <| cnt ((Mem.le_set z0) _ _ h1) fun c1 z1 => .intro ((Mem.le_set z1) _ _ ((Mem.le_set z0) _ _ hm)) fun cc zc => ?_
  have l0 := Mem.le_set (o := iL (cl (rowM cells 0))) z0
  have l1 := Mem.le_set (o := iL (cl (rowM cells 1))) z1
  have l2 := Mem.le_set (o := .list [.ref c0, .ref c1]) zc
  exact q cc c0 c1 _ (l0.trans (l1.trans l2)) (Mem.set_self _ _ _) (l2 _ _ (l1 _ _ (Mem.set_self _ _ _))) (l2 _ _ (Mem.set_self _ _ _))
end
end Vg
end
section
set_option autoImplicit false
set_option linter.all false
namespace Vg
open PySem PySem.W PyProof.Rows
section
variable {M M' : Mem} {tr mr cc fr : Addr} {g : Geo} {zv : AV} {a : Ad} {l : Ls} {c : Sc} {cells T : List Int} {kept : Int} {Q : AV → Mem → Prop} {N B : List AV → Mem → Prop} {R : AV → Mem → Prop} {v6 v7 v8 v9 v10 v11 v12 v13 v14 v15 v16 v17 : AV} {F0 F1 : Int}
theorem wh_form {r0 r1 : Addr} (hm : M' mr = some (.list [.ref r0, .ref r1])) (h0 : M' r0 = some (iL (rowM cells 0))) (h1 : M' r1 = some (iL (rowM cells 1)))
    (e0 : formV (rowM cells 0) (rowM cells 1) = F0) (e1 : formV (rowM cells 1) (rowM cells 0) = F1)
    (q : ∀ fr, M' fr = none → q_law_whole_9 (wn g a cells kept v6 v7 v8 (.ref mr) v10 v11 v12 (.ref fr) (.int (divV (F0 - F1))) v15 v16 v17) (M'.set fr (iL [F0, F1])) N B R) :
    q_law_whole_6 (wn g a cells kept v6 v7 v8 (.ref mr) v10 v11 v12 v13 v14 v15 v16 v17) M' N B R := by
  subst e0 e1
  refine subX hm (Int.le_refl 0) rfl <| subX hm (by decide : (0 : Int) ≤ 1) rfl <| C_form (.ref h0) (.ref h1) row_ix row_ix <| subX hm (by decide : (0 : Int) ≤ 1) rfl <| subX hm (Int.le_refl 0) rfl <| C_form (.ref h1) (.ref h0) row_ix row_ix <| .intro (nle rfl) fun fr hf => ?_
  generalize formV (rowM cells 0) (rowM cells 1) = F0 at *
  generalize formV (rowM cells 1) (rowM cells 0) = F1 at *
  have q := q fr hf
  have e : (M'.set fr (iL [F0, F1])) fr = some (iL [F0, F1]) := Mem.set_self _ _ _
  have i0 : Ix 0 [F0, F1].length := ⟨Int.le_refl 0, (by decide : 0 < 2)⟩
  have i1 : Ix 1 [F0, F1].length := ⟨by decide, (by decide : 1 < 2)⟩
  unfold divV at q
  refine subI e i0 <| subI e i1 <| .intro (by decide) <| .intro (by decide) <| subI e i0 <| subI e i1 <| .intro (fun h => ?_) fun h => ?_
  · rw [if_pos (show F0 - F1 < 0 from Int.sub_neg_of_lt h)] at q; exact q
  · rw [if_neg (show ¬ F0 - F1 < 0 from fun z => h (Int.lt_of_sub_neg z))] at q; exact q
theorem wh_refused {g : Geo} (w : GW g) (co : CO g.f g.r cells) (h6 : (6 : Int) ∈ cells) (r : Rd M g.av zv a l c) (el : l.cells = cells) {tb : AV} (q : Q (.bool true) M) : t_law_refused [.inst 2 a.d, tb, .int (cells.idxOf (6 : Int))] M Q := by
  have hl := w.sh.le
  have hi : cells.idxOf (6 : Int) < cells.length := List.idxOf_lt_length_iff.mpr h6
  have hx : Ix ((cells.idxOf (6 : Int) : Nat) : Int) cells.length := ixN hi
  have hc := co.at (s := ((cells.idxOf (6 : Int) : Nat) : Int))
  rw [u_law_refused]
  refine ⟨a.d, tb, _, pf g.av zv a c, g.fl, a.b, g.castles, cells.map .int, _, rfl, r.d, rfl, rfl, rfl, by rw [r.b, el]; rfl, hx.1, by rw [co.len] at hi; lia, gz_get hx, hc.1, by omega, ?_, ?_, q⟩
  · by_cases h : g.f = 6
    · rw [w.cas h]; rfl
    · rw [w.nocas h]; rfl
  · intro x hx
    by_cases h : g.f = 6
    · rw [w.cas h] at hx
      rcases List.mem_cons.mp hx with rfl | hx
      · exact .inl rfl
      · rcases List.mem_cons.mp hx with rfl | hx
        · exact .inr ⟨_, _, _, rfl, by decide⟩
        · rcases List.mem_cons.mp hx with rfl | hx
          · exact .inl rfl
          · exact .inr ⟨_, _, _, List.mem_singleton.mp hx, by decide⟩
    · rw [w.nocas h] at hx
      exact .inl (by simpa using hx)
theorem rows0 {f r : Int} : rw_ (tabV f r) 0 ++ rw_ (tabV f r) 7 ++ rw_ (tabV f r) 8 = List.replicate (3 * (f * r).toNat) 0 := by
  have e : ∀ p : Int, (p = 0 ∨ p = 7 ∨ p = 8) → rw_ (tabV f r) p = List.replicate (f * r).toNat 0 := fun p hp => by
    rcases hp with rfl | rfl | rfl
    · exact (show rw_ (tabV f r) 0 = prt (rowF f r 0) (f * r).toNat 0 from rfl).trans prt0
    · exact (show rw_ (tabV f r) 7 = prt (rowF f r 7) (f * r).toNat 0 from rfl).trans prt0
    · exact (show rw_ (tabV f r) 8 = prt (rowF f r 8) (f * r).toNat 0 from rfl).trans prt0
  rw [e 0 (.inl rfl), e 7 (.inr (.inl rfl)), e 8 (.inr (.inr rfl)), List.replicate_append_replicate, List.replicate_append_replicate]
  congr 1; lia
end
end Vg
end
section
set_option autoImplicit false
set_option linter.all false
namespace Vg
open PySem PySem.W PyProof.Rows
section
variable {M M' X : Mem} {tr mr cc fr : Addr} {g : Geo} {zv zv' : AV} {a a' : Ad} {l l' : Ls} {c c' : Sc} {cells T : List Int} {kept : Int} {Q : AV → Mem → Prop} {N B : List AV → Mem → Prop} {R : AV → Mem → Prop} {v6 v7 v8 v9 v10 v11 v12 v13 v14 v15 v16 v17 : AV}
theorem smN {n : Nat} (h : n ≤ 1000000) : sm (n : Int) := smc (decide_eq_true (by lia))
theorem cl_sm {f r s : Int} (hs : Sh f r) (co : CO f r cells) (k : Nat) : sm (gz (cl (rowM cells s)) k) := by
  have hl := hs.le
  by_cases h : k < 6
  · rw [cl_gz h]
    refine smN (Nat.le_trans List.count_le_length ?_)
    have h1 : (menR cells s).length ≤ cells.length := by unfold menR; rw [List.length_map]; exact List.length_filter_le _ _
    rw [co.len] at h1
    unfold rowM
    split
    · rw [List.length_append]; show _ + 1 ≤ _; omega
    · omega
  · have : gz (cl (rowM cells s)) k = 0 := by
      unfold gz cl
      rw [List.getD_eq_getElem?_getD, Int.toNat_natCast, List.getElem?_eq_none (by rw [List.length_map, List.length_range]; omega)]; rfl
    rw [this]; exact smc rfl
theorem cl_len {A : List Int} : (cl A).length = 6 := rfl
theorem wh_ret (A : AG X g zv a l c cells kept) (bw : BW l) (R' : Rd X g.av zv' a' l' c') (v' : V g.n l') (bw' : BW l') (eT : l'.cells = T) (hT : LT g.f.toNat g.r.toNat cells T (g.f * g.r).toNat) (W : WF M X cells T tr mr cc)
    (hf : X fr = some (iL [formV (rowM cells 0) (rowM cells 1), formV (rowM cells 1) (rowM cells 0)])) (q : Q (.bool true) M) :
    q_law_whole_12 (wn g a cells kept v6 v7 v8 v9 v10 v11 (.ref cc) (.ref fr) (.int (divV (formV (rowM cells 0) (rowM cells 1) - formV (rowM cells 1) (rowM cells 0)))) (.inst 2 a'.d) v16 v17) X N B (XR M Q) := by
  have eT0 := kept_turn A.hs hT A.co
  have kp : sumN (fun i => plainV g.f g.r l.cells i) g.n = kept := by rw [A.e]; exact (plain_eq A.hs A.co).trans A.k
  have kt : sumN (fun i => tv (tabV g.f g.r) (gz l'.cells i) i) g.n = -kept := by rw [eT, ← A.k]; exact eT0
  refine go1 fun G hG => ?_
  obtain ⟨c0, c1, hcc, h0, h1⟩ := W.c
  refine hG ?_
  have f0 := form_eq (A := rowM cells 0) (B := rowM cells 1) row_ix row_ix
  have f1 := form_eq (A := rowM cells 1) (B := rowM cells 0) row_ix row_ix
  have r0 := row_cnt A.co (s := 0)
  have r1 := row_cnt A.co (s := 1)
  refine C_psq_plain A.r A.hs A.v <| fun u hu => ?_
  obtain rfl : u = true := hu.mpr kp
  refine .intro (fun zz => ?_) fun h => absurd rfl h
  refine C_psq_of R' A.hs v' tab_ok <| fun u hu => ?_
  obtain rfl : u = true := hu.mpr kt
  refine .intro (fun zz => ?_) fun h => absurd rfl h
  refine C_counts_of A.r A.v bw <| ⟨.list [.list ((cl (rowM cells 0)).map .int), .list ((cl (rowM cells 1)).map .int)], ?_, .ref hcc (.cons (.ref h0 (DOfs.ints _)) (.cons (.ref h1 (DOfs.ints _)) .nil)), .inl ⟨rfl, asT trivial ?_⟩⟩
  · rw [A.e, r0, r1]; exact .lst (.cons (.lst (DOfs.ints _)) (.cons (.lst (DOfs.ints _)) .nil))
  refine .intro (fun zz => ?_) fun h => absurd rfl h
  refine C_counts_of R' v' bw' <| subX hcc (by decide : (0 : Int) ≤ 1) rfl <| subX hcc (Int.le_refl 0) rfl <| .intro (nle rfl) fun y hy => ⟨.list [.list ((cl (rowM cells 1)).map .int), .list ((cl (rowM cells 0)).map .int)], ?_, .ref (Mem.set_self _ _ _) (.cons (.ref ((Mem.le_set hy) _ _ h1) (DOfs.ints _)) (.cons (.ref ((Mem.le_set hy) _ _ h0) (DOfs.ints _)) .nil)), .inl ⟨rfl, asT trivial ?_⟩⟩
  · rw [eT, cnt_turn A.hs hT A.co, cnt_turn A.hs hT A.co, r0, r1]; exact .lst (.cons (.lst (DOfs.ints _)) (.cons (.lst (DOfs.ints _)) .nil))
  have l1 := Mem.le_set (o := .list [.ref c1, .ref c0]) hy
  generalize X.set y (.list [.ref c1, .ref c0]) = Y at *
  refine .intro (fun zz => ?_) fun h => absurd rfl h
  have hcc1 := l1 _ _ hcc
  have s0 := cl_sm A.hs A.co (s := 0)
  have s1 := cl_sm A.hs A.co (s := 1)
  have g0 : LI Y (cl (rowM cells 0)) (.ref c0) := .ref (l1 _ _ h0)
  have g1 : LI Y (cl (rowM cells 1)) (.ref c1) := .ref (l1 _ _ h1)
  refine C_imbalance (own := cl (rowM cells 0)) (foe := cl (rowM cells 1)) (.f' hcc1 g0) (.g' hcc1 g1) cl_len cl_len s0 <| C_imbalance (own := cl (rowM cells 1)) (foe := cl (rowM cells 0)) (.g' hcc1 g1) (.f' hcc1 g0) cl_len cl_len s1 <| .intro (nle rfl) fun z hz => ⟨.list [.int (imbV (cl (rowM cells 0)) (cl (rowM cells 1))), .int (imbV (cl (rowM cells 1)) (cl (rowM cells 0)))], .ref (Mem.set_self _ _ _) (.cons (.int _) (.cons (.int _) .nil)), ?_, .inl ⟨rfl, asT trivial ?_⟩⟩
  · rw [← f0, ← f1]; exact .ref ((Mem.le_set hz) _ _ (l1 _ _ hf)) (.cons (.int _) (.cons (.int _) .nil))
  have l2 := Mem.le_set (o := .list [.int (imbV (cl (rowM cells 0)) (cl (rowM cells 1))), .int (imbV (cl (rowM cells 1)) (cl (rowM cells 0)))]) hz
  generalize Y.set z _ = Z at *
  refine .intro (fun zz => ?_) fun h => absurd rfl h
  have hcc2 := l2 _ _ hcc1
  have g2 := g0.le l2
  have g3 := g1.le l2
  refine C_imbalance_value (own := cl (rowM cells 0)) (foe := cl (rowM cells 1)) (.f' hcc2 g2) (.g' hcc2 g3) cl_len cl_len s0 s1 <| fun u hu => ?_
  obtain rfl : u = true := hu.mpr (by rw [f0, f1])
  refine .intro (fun zz => ?_) fun h => absurd rfl h
  refine subX hcc2 (by decide : (0 : Int) ≤ 1) rfl <| subX hcc2 (Int.le_refl 0) rfl <| .intro (nle rfl) fun w hw => ?_
  have l3 := Mem.le_set (o := .list [.ref c1, .ref c0]) hw
  refine C_imbalance_value (own := cl (rowM cells 1)) (foe := cl (rowM cells 0)) (.f' (Mem.set_self _ _ _) (g3.le l3)) (.g' (Mem.set_self _ _ _) (g2.le l3)) cl_len cl_len s1 s0 <| fun u hu => ?_
  obtain rfl : u = true := hu.mpr (by rw [f0, f1, ← divV_neg, Int.neg_sub])
  exact Exit.drop (W.le.trans (l1.trans (l2.trans l3))) q
end
end Vg
end
section
set_option autoImplicit false
set_option linter.all false
namespace Vg
open PySem PySem.W PyProof.Rows
section
variable {M M' : Mem} {tr mr cc fr : Addr} {g : Geo} {zv zv' : AV} {a a' : Ad} {l l' : Ls} {c c' : Sc} {cells T : List Int} {kept : Int} {Q : AV → Mem → Prop} {N B : List AV → Mem → Prop} {R : AV → Mem → Prop} {v6 v7 v8 v9 v10 v11 v12 v13 v14 v15 v16 v17 : AV}
theorem AG.le (A : AG M g zv a l c cells kept) (h : M.le M') : AG M' g zv a l c cells kept := ⟨A.r.le h, A.v, A.e, A.hs, A.co, A.cnt, A.k⟩
theorem wh_tab (A : AG M' g zv a l c cells kept) (R' : Rd M' g.av zv' a' l' c') (W : WF M M' cells T tr mr cc) (hf : M' fr = some (iL [formV (rowM cells 0) (rowM cells 1), formV (rowM cells 1) (rowM cells 0)]))
    (q : ∀ X, M'.le X → q_law_whole_12 (wn g a cells kept v6 v7 v8 v9 v10 v11 v12 v13 v14 v15 v16 v17) X N B R) : q_law_whole_11 (wn g a cells kept v6 v7 v8 v9 v10 v11 v12 v13 v14 v15 v16 v17) M' N B R := by
  have hl := A.hs.le
  have ht := tab_ok (f := g.f) (r := g.r)
  have lt : ((tabV g.f g.r).map aints).length = 15 := (List.length_map _).trans ht.len
  have i0 : Ix 0 15 := by decide
  have i7 : Ix 7 15 := by decide
  have i8 : Ix 8 15 := by decide
  have l0 : ∀ {p}, Ix p 15 → ((rw_ (tabV g.f g.r) p).map AV.int).length = (g.f * g.r).toNat := fun hp => (List.length_map _).trans (ht.at hp).2
  have nn : (g.f * g.r).toNat ≤ 1000 := Nat.le_trans A.hs.n20 (nle rfl)
  refine .intro (fun h => absurd (show (((tabV g.f g.r).map aints).length : Int) = 15 by rw [lt]; rfl) h) fun zz => subF i0.1 (ht.r i0) <| subF i7.1 (ht.r i7) <| ⟨rfl, by rw [List.length_append, l0 i0, l0 i7]; omega, fun x hx => subF i8.1 (ht.r i8) <| ⟨rfl, _, Mem.set_self _ _ _, by rw [List.length_append, List.length_append, l0 i0, l0 i7, l0 i8]; omega, fun y hy => .intro (nle rfl) fun j hj => gAt rfl <| .intro (smc rfl) <| mul0 (Mem.set_self _ _ _) (by omega) (by omega) fun z hz => ?_⟩⟩
  have e1 := Mem.le_set (o := .list ((rw_ (tabV g.f g.r) 0).map AV.int ++ (rw_ (tabV g.f g.r) 7).map AV.int)) hx
  have e2 := Mem.le_set (o := .list ((rw_ (tabV g.f g.r) 0).map AV.int ++ (rw_ (tabV g.f g.r) 7).map AV.int ++ (rw_ (tabV g.f g.r) 8).map AV.int)) hy
  have e3 := Mem.le_set (o := .list [.int 0]) hj
  have e4 := Mem.le_set (o := iL (List.replicate (3 * (g.f * g.r)).toNat 0)) hz
  have ez : AO.list ((rw_ (tabV g.f g.r) 0).map AV.int ++ (rw_ (tabV g.f g.r) 7).map AV.int ++ (rw_ (tabV g.f g.r) 8).map AV.int) = iL (List.replicate (3 * (g.f * g.r)).toNat 0) := by
    rw [← List.map_append, ← List.map_append, rows0, show 3 * (g.f * g.r).toNat = (3 * (g.f * g.r)).toNat by omega]; rfl
  have hy2 := e4 _ _ (e3 _ _ (Mem.set_self _ y (.list ((rw_ (tabV g.f g.r) 0).map AV.int ++ (rw_ (tabV g.f g.r) 7).map AV.int ++ (rw_ (tabV g.f g.r) 8).map AV.int))))
  exact ⟨.list ((List.replicate (3 * (g.f * g.r)).toNat 0).map .int), .ref (hy2.trans (congrArg some ez)) (DOfs.ints _), .ref (Mem.set_self _ _ _) (DOfs.ints _), .inr ⟨rfl, iN id <| q _ (e1.trans (e2.trans (e3.trans e4)))⟩⟩
theorem C_whole (w : GW g) (A : AG M g zv a l c cells kept) (bw : BW l) (h6 : (6 : Int) ∈ cells) (q : Q (.bool true) M) : t_law_whole [g.av, .inst 2 a.d, aints cells, aintss (tabV g.f g.r), .int kept] M Q := by
  have hl := A.hs.le
  have cl' : cells.length ≤ 1000 := by rw [A.co.len]; omega
  refine fnT.gs u_law_whole rfl <| gAt rfl <| .intro (nle rfl) fun tr ht => wh_turn A.hs A.co ⟨Mem.le_set ht, ht, Mem.set_self _ _ _⟩ fun v7 v8 T M1 S hT => .intro (nle rfl) fun mr hm => ?_
  have G0 : Gr M1 (M1.set mr (.list [])) mr [] [] := ⟨Mem.le_set hm, hm, Mem.set_self _ _ _, rfl, fun i r e => nomatch e⟩
  refine forP.of <| wh3 G0 (Nat.zero_le _) cl' fun v11 r0 M2 G1 => .intro trivial <| wh3 G1 (nle rfl) cl' fun v11 r1 M3 G2 => .intro trivial <| ?_
  refine go1 fun G hG => ?_
  obtain ⟨_, _, l0, e0, h0⟩ := G2.r 0 r0 rfl
  obtain ⟨_, _, l1, e1, h1⟩ := G2.r 1 r1 rfl
  refine hG ?_
  cases e0; cases e1
  refine wh_cnt G2.at_ h0 h1 fun cc c0 c1 M4 l4 hc hc0 hc1 => wh_form (l4 _ _ G2.at_) (l4 _ _ h0) (l4 _ _ h1) rfl rfl fun fr hf => ?_
  have W : WF M M4 cells T tr mr cc := ⟨S.le.trans (G2.le.trans l4), l4 _ _ (G2.le _ _ S.at_), ⟨r0, r1, l4 _ _ G2.at_, l4 _ _ h0, l4 _ _ h1⟩, ⟨c0, c1, hc, hc0, hc1⟩⟩
  have l5 := Mem.le_set (o := iL [formV (rowM cells 0) (rowM cells 1), formV (rowM cells 1) (rowM cells 0)]) hf
  have W5 := W.up l5
  refine C_position A.hs (hT.co A.co) (.ref W5.t) fun M₀ z a' l' c' le P v' bw' eT _ _ => ?_
  have W6 := (W5.up le).up (P.le (g := g.av) (l := l') (c := c'))
  have A6 := A.le W6.le
  have f6 := P.le (g := g.av) (l := l') (c := c') _ _ (le _ _ (Mem.set_self _ _ _))
  refine C_agree A6 <| .intro (fun h => absurd rfl h) fun zz => .intro trivial <| .intro _ <| .intro rfl <| .intro h6 <| wh_refused w A.co h6 A6.r A.e <| .intro (fun h => absurd rfl h) fun zz => ?_
  exact wh_tab A6 P.ap.rd W6 f6 fun X lX => wh_ret (A6.le lX) bw (P.ap.rd.le lX) v' bw' eT hT (W6.up lX) (lX _ _ f6) q
end
end Vg
end
section
set_option autoImplicit false
set_option linter.all false
namespace Vg
open PySem PySem.W PyProof.Rows
section
variable {l : List Int} {i j v w : Int}
theorem sz_sz : sz (sz l i v) i w = sz l i w := List.set_set ..
theorem sz_comm (hi : 0 ≤ i) (hj : 0 ≤ j) (h : i ≠ j) : sz (sz l i v) j w = sz (sz l j w) i v := List.set_comm _ _ fun e => h (tnI hi hj e)
theorem gz_ne (hi : 0 ≤ i) (hj : 0 ≤ j) (h : i ≠ j) : gz (sz l i v) j = gz l j := by
  unfold gz sz
  rw [List.getD_eq_getElem?_getD, List.getD_eq_getElem?_getD, List.getElem?_set_ne fun e => h (tnI hi hj e)]
theorem sz_same (hi : Ix i l.length) (h : gz l i = v) : sz l i v = l := by
  unfold sz
  rw [← h]
  unfold gz
  rw [List.getD_eq_getElem?_getD, List.getElem?_eq_getElem hi.2]
  exact List.set_getElem_self hi.2
end
structure EPI (f r : Int) (cells : List Int) (side ep : Int) : Prop where
  e : ep = -1 ∨ ((Ix ep (f * r).toNat ∧ gz cells ep = 0) ∧ Ix (ep - (1 - 2 * side) * f) (f * r).toNat ∧ gz cells (ep - (1 - 2 * side) * f) % 8 = 1)
theorem EPI.z {f r : Int} {cells : List Int} {side ep : Int} (h : EPI f r cells side ep) : Ix ep (f * r).toNat → gz cells ep = 0 := fun hx => h.e.elim (fun e => by rw [e] at hx; exact absurd hx.1 (by decide)) fun h => h.1.2
structure LB (f r : Int) (cb : Bool) (cells : List Int) (side ep rights : Int) : Prop where
  hs : Sh f r
  hcb : cb = true → f = 6 ∧ r = 3
  sd : side = 0 ∨ side = 1
  B : BJ f r cells 11
  safe : SafeB f r cells side
  ep : EPI f r cells side ep
  ri : RI cb cells rights
noncomputable def newX (cells : List Int) (o sp pr : Int) : Int := if sp ≠ 1 then gz cells o else gz cells o - 1 + pr
inductive AF (f r : Int) (cells : List Int) (side o t sp pr : Int) : List Int → Prop
  | a (h : sp = 0 ∨ sp = 1) : AF f r cells side o t sp pr (sz (sz cells t (newX cells o sp pr)) o 0)
  | b (h : sp = 2) (hw : Ix (t - (1 - 2 * side) * f) (f * r).toNat) (h1 : t - (1 - 2 * side) * f ≠ t) (h2 : t - (1 - 2 * side) * f ≠ o) (h3 : gz cells (t - (1 - 2 * side) * f) % 8 = 1) (h4 : gz cells t = 0) (h5 : gz cells o % 8 = 1) : AF f r cells side o t sp pr (sz (sz (sz cells t (newX cells o sp pr)) o 0) (t - (1 - 2 * side) * f) 0)
  | c (h : sp = 3) (hf : f = 6 ∧ r = 3) (ho : o = 3 + 12 * side) (ht : t = 1 + 12 * side) (h1 : gz cells (1 + 12 * side) = 0) (h2 : gz cells (2 + 12 * side) = 0) (h3 : gz cells (3 + 12 * side) = 8 * side + 6) (h4 : gz cells (12 * side) = 8 * side + 4) : AF f r cells side o t sp pr (sz (sz (sz (sz cells t (newX cells o sp pr)) o 0) (2 + 12 * side) (8 * side + 4)) (12 * side) 0)
section
variable {f r : Int} {cb : Bool} {cells new : List Int} {side ep rights o t sp pr : Int}
structure MV (f r : Int) (cells : List Int) (side o t sp pr : Int) : Prop where
  ot : t ≠ o
  x : 0 ≤ newX cells o sp pr ∧ newX cells o sp pr < 15 ∧ newX cells o sp pr ≠ 7 ∧ newX cells o sp pr ≠ 8
  xn : newX cells o sp pr ≠ 0
  xk : ∀ k, k = 6 ∨ k = 14 → (newX cells o sp pr = k ↔ gz cells o = k)
  tk : gz cells t ≠ 6 ∧ gz cells t ≠ 14
  xs : newX cells o sp pr / 8 = side
theorem pv_ok {p pr side : Int} (h : 0 ≤ p ∧ p < 15) (hk : p % 8 = 1) (hd : p / 8 = side) (h2 : 2 ≤ pr ∧ pr ≤ 5) : (0 ≤ p - 1 + pr ∧ p - 1 + pr < 15 ∧ p - 1 + pr ≠ 7 ∧ p - 1 + pr ≠ 8) ∧ p - 1 + pr ≠ 0 ∧ p - 1 + pr ≠ 6 ∧ p - 1 + pr ≠ 14 ∧ p ≠ 6 ∧ p ≠ 14 ∧ (p - 1 + pr) / 8 = side ∧ p - 1 + pr = side * 8 + pr := by
  subst hd
  have h4 : pr = 2 ∨ pr = 3 ∨ pr = 4 ∨ pr = 5 := by lia
  have h1 : p = 1 ∨ p = 9 := by lia
  exact (by decide : ∀ p ∈ [(1 : Int), 9], ∀ pr ∈ [(2 : Int), 3, 4, 5], (0 ≤ p - 1 + pr ∧ p - 1 + pr < 15 ∧ p - 1 + pr ≠ 7 ∧ p - 1 + pr ≠ 8) ∧ p - 1 + pr ≠ 0 ∧ p - 1 + pr ≠ 6 ∧ p - 1 + pr ≠ 14 ∧ p ≠ 6 ∧ p ≠ 14 ∧ (p - 1 + pr) / 8 = p / 8 ∧ p - 1 + pr = p / 8 * 8 + pr) p (by simpa using h1) pr (by simpa using h4)
theorem LB.mv (L : LB f r cb cells side ep rights) (V : VM f r cb cells side ep (o, t, sp, pr)) : MV f r cells side o t sp pr := by
  have on : gz cells o ≠ 0 := V.on
  have os : gz cells o / 8 = side := V.os
  have tf : gz cells t ≠ 0 → gz cells t / 8 ≠ side ∧ t ∈ goalsV f r cells o := V.tf
  have cx := L.B.co.at (s := o)
  have ot : t ≠ o := fun e => by rw [e] at tf; exact (tf on).1 os
  have tk : gz cells t ≠ 6 ∧ gz cells t ≠ 14 := by
    have no : gz cells t ≠ 14 - side * 8 := fun e => by
      have hn : gz cells t ≠ 0 := by rw [e]; rcases L.sd with h | h <;> rw [h] <;> decide
      apply L.safe
      have hi := idx_eq L.B (k := 14 - side * 8) (by rcases L.sd with h | h <;> rw [h] <;> decide) V.it e
      refine ⟨o.toNat, by rw [L.B.co.len]; exact V.io.2, ?_⟩
      have eo : ((o.toNat : Nat) : Int) = o := Int.toNat_of_nonneg V.io.1
      rw [eo, hi]
      exact ⟨on, os, (tf hn).2⟩
    have no2 : gz cells t ≠ 6 + side * 8 := fun e => by
      have hn : gz cells t ≠ 0 := by rw [e]; rcases L.sd with h | h <;> rw [h] <;> decide
      exact (tf hn).1 (by rw [e]; rcases L.sd with h | h <;> rw [h] <;> decide)
    rcases L.sd with h | h <;> rw [h] at no no2
    · exact ⟨no2, no⟩
    · exact ⟨no, no2⟩
  by_cases h1 : sp = 1
  · have e : newX cells o sp pr = gz cells o - 1 + pr := if_neg (fun z => z h1)
    have hp : gz cells o % 8 = 1 ∧ 2 ≤ pr ∧ pr ≤ 5 := V.pr h1
    refine go1 fun G hG => ?_
    obtain ⟨p1, p2, p3, p4, p5, p6, p7, _⟩ := pv_ok ⟨cx.1, cx.2.1⟩ hp.1 os hp.2
    refine hG ?_
    refine ⟨ot, by rw [e]; exact p1, by rw [e]; exact p2, fun k hk => ?_, tk, by rw [e]; exact p7⟩
    rw [e]
    rcases hk with rfl | rfl
    · exact ⟨fun z => absurd z p3, fun z => absurd z p5⟩
    · exact ⟨fun z => absurd z p4, fun z => absurd z p6⟩
  · have e : newX cells o sp pr = gz cells o := if_pos h1
    exact ⟨ot, by rw [e]; exact cx, by rw [e]; exact on, fun k _ => by rw [e], tk, by rw [e]; exact os⟩
theorem up_ne {f t side : Int} (hsd : side = 0 ∨ side = 1) (hf : 0 < f) : t - (1 - 2 * side) * f ≠ t := by rcases hsd with rfl | rfl <;> omega
theorem LB.af (L : LB f r cb cells side ep rights) (V : VM f r cb cells side ep (o, t, sp, pr)) : AF f r cells side o t sp pr (afterV f cells o t sp pr) := by
  have s4 : sp = 0 ∨ sp = 1 ∨ sp = 2 ∨ sp = 3 := V.s4
  have ev : ∀ w, o - o % f + t % f = w → afterV f cells o t sp pr = (let c2 := if sp = 2 then sz (sz (sz cells t (newX cells o sp pr)) o 0) w 0 else sz (sz cells t (newX cells o sp pr)) o 0
      if sp = 3 then sz (sz c2 (t + 1) (gz c2 (t - 1))) (t - 1) 0 else c2) := fun w e => by rw [← e]; rfl
  have hot := (L.mv V).ot
  by_cases h2 : sp = 2
  · refine go1 fun G hG => ?_
    obtain ⟨a1, a2, a3, a4⟩ := V.e2 h2
    refine hG ?_
    have a1 : gz cells o % 8 = 1 := a1
    have a2 : t = ep := a2
    have a3 : o - o % f + t % f = t - (1 - 2 * side) * f := a3
    rw [ev _ a3]
    simp only [if_pos h2, if_neg (show ¬ sp = 3 by rw [h2]; decide)]
    rcases L.ep.e with e | ⟨⟨e1, e2⟩, e3, e4⟩
    · have := V.it; rw [show (o, t, sp, pr).2.1 = ep from a2, e] at this; exact absurd this.1 (by decide)
    · rw [← a2] at e2 e3 e4
      exact .b h2 e3 (up_ne L.sd L.hs.le.2.1) a4 e4 e2 a1
  · by_cases h3 : sp = 3
    · obtain ⟨b1, b2, b3, b4, b5, b6, b7⟩ := V.c3 h3
      have b2 : o = 3 + 12 * side := b2
      have b3 : t = 1 + 12 * side := b3
      rw [ev _ rfl]
      simp only [if_neg h2, if_pos h3]
      have c1 : t + 1 = 2 + 12 * side := by omega
      have c2 : t - 1 = 12 * side := by omega
      have c3 : gz (sz (sz cells t (newX cells o sp pr)) o 0) (12 * side) = 8 * side + 4 := by
        rcases L.sd with h | h <;> rw [h] at b2 b3 b7 ⊢ <;> rw [b2, b3] <;> exact (gz_ne (by decide) (by decide) (by decide)).trans ((gz_ne (by decide) (by decide) (by decide)).trans b7)
      rw [c1, c2, c3]
      exact .c h3 (L.hcb b1) b2 b3 b4 b5 b6 b7
    · rw [ev _ rfl]
      simp only [if_neg h2, if_neg h3]
      exact .a (by lia)
end
end Vg
end
section
set_option autoImplicit false
set_option linter.all false
namespace Vg
open PySem PySem.W PyProof.Rows
noncomputable def taV (f side t sp : Int) : Int := if sp = 2 then t - (1 - 2 * side) * f else t
theorem ar1 {K A X B : Int} : K - A + X - B = K + (X - B - A) + 0 := by lia
theorem ar2 {K X B W : Int} : K - 0 + X - B - W = K + (X - B - W) + 0 := by lia
theorem ar3 {K X B C D : Int} : K - 0 + X - B - 0 + C - D = K + (X - B - 0) + (C - D) := by lia
theorem ar4 {X A C : Int} (h : X = A) : 1 + (X - A - 0) + (C - C) = 1 := by lia
theorem ar5 {K A C : Int} (h : 0 ≤ A) (hk : K ≤ 11) : K + (1 - 1 - A) + (C - C) ≤ 11 := by lia
section
variable {f r : Int} {cb : Bool} {cells new : List Int} {side ep rights o t sp pr s v : Int} {n : Nat} {G : Int → Int → Int}
theorem sum_l (h : cells.length = n) (hs : Ix s n) : sumC G (sz cells s v) n = sumC G cells n - G (gz cells s) s + G v s := by rw [sum_set (h.symm ▸ hs), if_pos hs.2]
theorem sum_0 (hG : ∀ s, G 0 s = 0) (h : cells.length = n) (hs : Ix s n) : sumC G (sz cells s 0) n = sumC G cells n - G (gz cells s) s := by rw [sum_l h hs, hG, Int.add_zero]
theorem ix12 (hf : f = 6 ∧ r = 3) (hsd : side = 0 ∨ side = 1) : Ix (2 + 12 * side) (f * r).toNat ∧ Ix (12 * side) (f * r).toNat := by
  rw [hf.1, hf.2]; rcases hsd with rfl | rfl <;> decide
structure D12 (side : Int) : Prop where
  a : 0 ≤ 2 + 12 * side
  b : 0 ≤ 12 * side
  oa : 3 + 12 * side ≠ 2 + 12 * side
  ob : 3 + 12 * side ≠ 12 * side
  ta : 1 + 12 * side ≠ 2 + 12 * side
  tb : 1 + 12 * side ≠ 12 * side
  ab : 2 + 12 * side ≠ 12 * side
theorem d12 (hsd : side = 0 ∨ side = 1) : D12 side := by rcases hsd with rfl | rfl <;> exact ⟨by decide, by decide, by decide, by decide, by decide, by decide, by decide⟩
theorem AF.sum (hG : ∀ s, G 0 s = 0) (hl : cells.length = (f * r).toNat) (hsd : side = 0 ∨ side = 1) (ho : Ix o (f * r).toNat) (ht : Ix t (f * r).toNat) (ot : t ≠ o) (A : AF f r cells side o t sp pr new) :
    sumC G new (f * r).toNat = sumC G cells (f * r).toNat + (G (newX cells o sp pr) t - G (gz cells o) o - G (gz cells (taV f side t sp)) (taV f side t sp)) + (if sp = 3 then G (8 * side + 4) (2 + 12 * side) - G (8 * side + 4) (12 * side) else 0) := by
  have base : sumC G (sz (sz cells t (newX cells o sp pr)) o 0) (f * r).toNat = sumC G cells (f * r).toNat - G (gz cells t) t + G (newX cells o sp pr) t - G (gz cells o) o := by
    rw [sum_0 hG (sz_len.trans hl) ho, sum_l hl ht, gz_ne ht.1 ho.1 ot]
  unfold taV
  cases A with
  | a h =>
    rw [if_neg (fun e => by rw [e] at h; exact absurd h (by decide)), if_neg (fun e => by rw [e] at h; exact absurd h (by decide)), base]
    exact ar1
  | b h hw h1 h2 h3 h4 h5 =>
    rw [if_pos h, if_neg (by rw [h]; decide), sum_0 hG (sz_len.trans (sz_len.trans hl)) hw, base, gz_ne ho.1 hw.1 (Ne.symm h2), gz_ne ht.1 hw.1 (Ne.symm h1), h4, hG]
    exact ar2
  | c h hf e1 e2 h1 h2 h3 h4 =>
    subst e1 e2
    obtain ⟨i1, i2⟩ := ix12 hf hsd
    have d := d12 hsd
    rw [if_neg (by rw [h]; decide), if_pos h, sum_0 hG (sz_len.trans (sz_len.trans (sz_len.trans hl))) i2, sum_l (sz_len.trans (sz_len.trans hl)) i1, base, gz_ne ho.1 i1.1 d.oa, gz_ne ht.1 i1.1 d.ta, gz_ne i1.1 i2.1 d.ab, gz_ne ho.1 i2.1 d.ob, gz_ne ht.1 i2.1 d.tb, h1, h2, h4, hG, hG]
    exact ar3
theorem AF.keep (hsd : side = 0 ∨ side = 1) (ho : 0 ≤ o) (ht : 0 ≤ t) (A : AF f r cells side o t sp pr new) {j : Int} (hj : 0 ≤ j) (h1 : j ≠ o) (h2 : j ≠ t) (h3 : gz cells j % 8 ≠ 1) (h4 : sp = 3 → j ≠ 2 + 12 * side ∧ j ≠ 12 * side) : gz new j = gz cells j := by
  cases A with
  | a h => exact (gz_ne ho hj h1.symm).trans (gz_ne ht hj h2.symm)
  | b h hw _ _ h3' => exact (gz_ne hw.1 hj (fun e => h3 (e ▸ h3'))).trans ((gz_ne ho hj h1.symm).trans (gz_ne ht hj h2.symm))
  | c h hf e1 e2 => exact (gz_ne (d12 hsd).b hj (h4 h).2.symm).trans ((gz_ne (d12 hsd).a hj (h4 h).1.symm).trans ((gz_ne ho hj h1.symm).trans (gz_ne ht hj h2.symm)))
theorem AF.co (hsd : side = 0 ∨ side = 1) (co : CO f r cells) (hx : 0 ≤ newX cells o sp pr ∧ newX cells o sp pr < 15 ∧ newX cells o sp pr ≠ 7 ∧ newX cells o sp pr ≠ 8) (A : AF f r cells side o t sp pr new) : CO f r new := by
  have z : (0 : Int) ≤ 0 ∧ (0 : Int) < 15 ∧ (0 : Int) ≠ 7 ∧ (0 : Int) ≠ 8 := by decide
  cases A with
  | a => exact (co.set hx).set z
  | b => exact ((co.set hx).set z).set z
  | c => exact (((co.set hx).set z).set (by rcases hsd with h | h <;> rw [h] <;> decide)).set z
theorem AF.pi (hsd : side = 0 ∨ side = 1) (hl : cells.length = (f * r).toNat) (pi : PI f r cells) (ho : Ix o (f * r).toNat) (ht : Ix t (f * r).toNat) (hx : newX cells o sp pr % 8 = 1 → t / f ≠ lastR r (newX cells o sp pr / 8)) (A : AF f r cells side o t sp pr new) : PI f r new := by
  have z : ∀ {s : Int}, (0 : Int) % 8 = 1 → s / f ≠ lastR r (0 / 8) := fun h => absurd h (by decide)
  have ix : ∀ {l : List Int} {s}, l.length = (f * r).toNat → Ix s (f * r).toNat → Ix s l.length := fun h hs => h.symm ▸ hs
  have base := (pi.set (ix hl ht) hx).set (ix (sz_len.trans hl) ho) z
  cases A with
  | a => exact base
  | b h hw => exact base.set (ix (sz_len.trans (sz_len.trans hl)) hw) z
  | c h hf => exact (base.set (ix (sz_len.trans (sz_len.trans hl)) (ix12 hf hsd).1) (by rcases hsd with h | h <;> rw [h] <;> exact fun h => absurd h (by decide))).set (ix (sz_len.trans (sz_len.trans (sz_len.trans hl))) (ix12 hf hsd).2) z
end
section
variable {f r : Int} {cb : Bool} {cells new : List Int} {side ep rights o t sp pr s v : Int} {n : Nat} {G : Int → Int → Int}
theorem pr_no {p pr : Int} (h : p % 8 = 1) (h2 : 2 ≤ pr ∧ pr ≤ 5) : (p - 1 + pr) % 8 ≠ 1 := by omega
theorem MV.ta (m : MV f r cells side o t sp pr) (A : AF f r cells side o t sp pr new) {k : Int} (hk : k = 6 ∨ k = 14) : gz cells (taV f side t sp) ≠ k := by
  unfold taV
  by_cases h : sp = 2
  · rw [if_pos h]
    cases A with
    | a h' => rw [h] at h'; exact absurd h' (by decide)
    | b _ _ _ _ h3 => exact fun e => by rw [e] at h3; rcases hk with rfl | rfl <;> exact absurd h3 (by decide)
    | c h' => rw [h] at h'; exact absurd h' (by decide)
  · rw [if_neg h]; rcases hk with rfl | rfl
    · exact m.tk.1
    · exact m.tk.2
theorem LB.bj (L : LB f r cb cells side ep rights) (V : VM f r cb cells side ep (o, t, sp, pr)) (m : MV f r cells side o t sp pr) (A : AF f r cells side o t sp pr new) : BJ f r new 11 := by
  have B := L.B
  have on : gz cells o ≠ 0 := V.on
  have kk : ∀ k, k = 6 ∨ k = 14 → sumC (kc k) cells (f * r).toNat = 1 → sumC (kc k) new (f * r).toNat = 1 := fun k hk e => by
    have n4 : (8 * side + 4) ≠ k := by rcases L.sd with h | h <;> rcases hk with rfl | rfl <;> rw [h] <;> decide
    rw [A.sum (G := kc k) (fun s => if_neg (by rcases hk with rfl | rfl <;> decide)) B.co.len L.sd V.io V.it m.ot, e]
    have e1 : kc k (newX cells o sp pr) t = kc k (gz cells o) o := by
      unfold kc; by_cases z : gz cells o = k
      · rw [if_pos z, if_pos ((m.xk k hk).mpr z)]
      · rw [if_neg z, if_neg (fun y => z ((m.xk k hk).mp y))]
    rw [show kc k (gz cells (taV f side t sp)) (taV f side t sp) = 0 from if_neg (m.ta A hk), show kc k (8 * side + 4) (2 + 12 * side) = 0 from if_neg n4, show kc k (8 * side + 4) (12 * side) = 0 from if_neg n4, show (if sp = 3 then (0 : Int) - 0 else 0) = 0 - 0 from ite_self _]
    exact ar4 e1
  refine ⟨A.co L.sd B.co m.x, A.pi L.sd B.co.len B.pi V.io V.it ?_, kk 6 (.inl rfl) B.k0, kk 14 (.inr rfl) B.k1, ?_⟩
  · intro h
    rw [m.xs]
    by_cases h1 : sp = 1
    · rw [show newX cells o sp pr = gz cells o - 1 + pr from if_neg (fun z => z h1)] at h
      exact absurd h (pr_no (V.pr h1).1 (V.pr h1).2)
    · rw [show newX cells o sp pr = gz cells o from if_pos h1] at h
      exact V.pw h h1
  · have n4 : (8 * side + 4) ≠ 0 := by rcases L.sd with h | h <;> rw [h] <;> decide
    rw [A.sum (G := mc) (fun s => if_pos rfl) B.co.len L.sd V.io V.it m.ot, show mc (newX cells o sp pr) t = 1 from if_neg m.xn, show mc (gz cells o) o = 1 from if_neg on,
      show mc (8 * side + 4) (2 + 12 * side) = 1 from if_neg n4, show mc (8 * side + 4) (12 * side) = 1 from if_neg n4, show (if sp = 3 then (1 : Int) - 1 else 0) = 1 - 1 from ite_self _]
    exact ar5 (by unfold mc; split <;> decide) B.cnt
noncomputable def epV (f : Int) (cells : List Int) (o t : Int) : Int := if gz cells o % 8 = 1 ∧ dist o t = 2 * f then (o + t) / 2 else -1
theorem half_up {o u : Int} : (o + (o + 2 * u)) / 2 = o + u := by lia
theorem mid_ix {o u : Int} {n : Nat} (ho : Ix o n) (ht : Ix (o + 2 * u) n) : Ix (o + u) n := by
  have a := ho.1; have b := ht.1; have c := ixL ho; have d := ixL ht
  exact ixI (by lia) (by lia)
theorem up_up (hsd : side = 0 ∨ side = 1) : o + (1 - 2 * side) * f - (1 - 2 * (1 - side)) * f = o + 2 * ((1 - 2 * side) * f) := by rcases hsd with rfl | rfl <;> lia
theorem LB.epi (L : LB f r cb cells side ep rights) (V : VM f r cb cells side ep (o, t, sp, pr)) (ot : t ≠ o) (A : AF f r cells side o t sp pr new) : EPI f r new (1 - side) (epV f cells o t) := by
  unfold epV
  by_cases h : gz cells o % 8 = 1 ∧ dist o t = 2 * f
  · rw [if_pos h]
    obtain ⟨h0, h1, h2⟩ := V.db h.1 h.2
    have h0 : sp = 0 := h0
    have h1 : t = o + 2 * ((1 - 2 * side) * f) := h1
    have h2 : gz cells (o + (1 - 2 * side) * f) = 0 := h2
    have it : Ix t (f * r).toNat := V.it
    have io : Ix o (f * r).toNat := V.io
    have nz : (1 - 2 * side) * f ≠ 0 := fun z => up_ne (t := 0) L.sd L.hs.le.2.1 (by rw [z]; rfl)
    have e : new = sz (sz cells t (newX cells o sp pr)) o 0 := by
      cases A with
      | a => rfl
      | b h' => rw [h0] at h'; exact absurd h' (by decide)
      | c h' => rw [h0] at h'; exact absurd h' (by decide)
    rw [h1] at it
    have im := mid_ix io it
    have hx : newX cells o sp pr = gz cells o := if_pos (by rw [h0]; decide)
    subst h1
    rw [e, half_up, hx]
    refine ⟨.inr ⟨⟨im, ?_⟩, ?_⟩⟩
    · rw [gz_ne io.1 im.1 (fun z => nz (Int.add_left_cancel ((Int.add_zero o).trans z)).symm), gz_ne it.1 im.1 (fun z => nz (by clear h h2 e hx A V L; lia))]; exact h2
    · rw [up_up L.sd, gz_ne io.1 it.1 ot.symm, gz_sz (L.B.co.ix it) it.1, if_pos rfl]
      exact ⟨it, h.1⟩
  · rw [if_neg h]; exact ⟨.inl rfl⟩
noncomputable def lb (rights right : Int) (p : Bool) : Int := if Builtin.bitAnd rights right ≠ 0 ∧ p = true then rights - right else rights
noncomputable def lost1 (rights right corner f o t : Int) : Int := lb rights right (decide ((o = corner ∨ o = corner + f / 2) ∨ t = corner))
noncomputable def lostV (rights f n o t : Int) : Int := lost1 (lost1 rights 2 0 f o t) 8 (n - f) f o t
noncomputable abbrev lbP (x y : Int) (p q : Bool) : Prop := (y = 0 ∨ y = 2 ∨ y = 8 ∨ y = 10) ∧ (y ≠ 0 → x ≠ 0) ∧ (Builtin.bitAnd y 2 ≠ 0 → Builtin.bitAnd x 2 ≠ 0 ∧ p = false) ∧ (Builtin.bitAnd y 8 ≠ 0 → Builtin.bitAnd x 8 ≠ 0 ∧ q = false)
theorem lb_fin : ([(0 : Int), 2, 8, 10].all fun x => [true, false].all fun p => [true, false].all fun q => decide (lbP x (lb (lb x 2 p) 8 q) p q)) = true := by decide +kernel
theorem lb_ok {x : Int} (h : x = 0 ∨ x = 2 ∨ x = 8 ∨ x = 10) (p q : Bool) : lbP x (lb (lb x 2 p) 8 q) p q := by
  have hx : x ∈ [(0 : Int), 2, 8, 10] := by rcases h with rfl | rfl | rfl | rfl <;> decide
  exact of_decide_eq_true (List.all_eq_true.mp (List.all_eq_true.mp (List.all_eq_true.mp lb_fin x hx) p (by cases p <;> decide)) q (by cases q <;> decide))
theorem LB.rin (L : LB f r cb cells side ep rights) (V : VM f r cb cells side ep (o, t, sp, pr)) (m : MV f r cells side o t sp pr) (A : AF f r cells side o t sp pr new) {n : Int} (hn : (cells.length : Int) = n) : RI cb new (lostV rights f n o t) := by
  have R := L.ri
  obtain ⟨v1, v2, v3, v4⟩ := lb_ok R.v (decide ((o = 0 ∨ o = 0 + f / 2) ∨ t = 0)) (decide ((o = n - f ∨ o = n - f + f / 2) ∨ t = n - f))
  have io : Ix o (f * r).toNat := V.io
  have it : Ix t (f * r).toNat := V.it
  have key : ∀ j : Int, 0 ≤ j → ∀ k, gz cells j = k → k % 8 ≠ 1 → j ≠ o → j ≠ t → (sp = 3 → j ≠ 2 + 12 * side ∧ j ≠ 12 * side) → gz new j = k := fun j hj k e hk h1 h2 h3 => (A.keep L.sd io.1 it.1 hj h1 h2 (e.symm ▸ hk) h3).trans e
  have c3 : sp = 3 → o = 3 + 12 * side := fun h => (V.c3 h).2.1
  refine ⟨v1, fun h => R.c (v2 h), fun h => ?_, fun h => ?_⟩
  · obtain ⟨h1, h2⟩ := v3 h
    obtain ⟨a1, a2⟩ := R.w h1
    obtain ⟨rfl, rfl⟩ := L.hcb (R.c (fun z => h1 (by rw [z]; decide)))
    have h2 := of_decide_eq_false h2
    have o3 : o ≠ 3 := fun e => h2 (.inl (.inr e))
    have s1 : sp = 3 → side = 1 := fun e => L.sd.resolve_left fun z => o3 (by rw [c3 e, z]; rfl)
    exact ⟨key 3 (by decide) 6 a1 (by decide) o3.symm (fun e => m.tk.1 (e ▸ a1)) (fun e => by rw [s1 e]; decide), key 0 (by decide) 4 a2 (by decide) (fun e => h2 (.inl (.inl e.symm))) (fun e => h2 (.inr e.symm)) (fun e => by rw [s1 e]; decide)⟩
  · obtain ⟨h1, h2⟩ := v4 h
    obtain ⟨a1, a2⟩ := R.b h1
    obtain ⟨rfl, rfl⟩ := L.hcb (R.c (fun z => h1 (by rw [z]; decide)))
    rw [show n = 18 from hn.symm.trans (by rw [L.B.co.len]; rfl)] at h2
    have h2 := of_decide_eq_false h2
    have o3 : o ≠ 15 := fun e => h2 (.inl (.inr e))
    have s1 : sp = 3 → side = 0 := fun e => L.sd.resolve_right fun z => o3 (by rw [c3 e, z]; rfl)
    exact ⟨key 15 (by decide) 14 a1 (by decide) o3.symm (fun e => m.tk.2 (e ▸ a1)) (fun e => by rw [s1 e]; decide), key 12 (by decide) 12 a2 (by decide) (fun e => h2 (.inl (.inl e.symm))) (fun e => h2 (.inr e.symm)) (fun e => by rw [s1 e]; decide)⟩
theorem LB.next (L : LB f r cb cells side ep rights) (V : VM f r cb cells side ep (o, t, sp, pr)) {n : Int} (hn : (cells.length : Int) = n) (h : ¬ HeldP f r (afterV f cells o t sp pr) ((afterV f cells o t sp pr).idxOf (side * 8 + 6)) (1 - side)) : LB f r cb (afterV f cells o t sp pr) (1 - side) (epV f cells o t) (lostV rights f n o t) :=
  have A := L.af V
  have m := L.mv V
  ⟨L.hs, L.hcb, by rcases L.sd with h | h <;> rw [h] <;> decide, L.bj V m A, by unfold SafeB; rw [show 14 - (1 - side) * 8 = side * 8 + 6 by rcases L.sd with h | h <;> rw [h] <;> decide]; exact h, L.epi V m.ot A, L.rin V m A hn⟩
end
end Vg
end
section
set_option autoImplicit false
set_option linter.all false
namespace Vg
open PySem PySem.W PyProof.Rows
section
variable {f r : Int} {cb : Bool} {cells new : List Int} {side ep rights o t sp pr s v : Int} {n : Nat} {l : Ls} {w np : Int}
theorem LB.w2 (L : LB f r cb cells side ep rights) (V : VM f r cb cells side ep (o, t, sp, pr)) (h : sp = 2) : (o - o % f + t % f = t - (1 - 2 * side) * f ∧ Ix (t - (1 - 2 * side) * f) (f * r).toNat) ∧ gz cells (t - (1 - 2 * side) * f) % 8 = 1 := by
  refine go1 fun G hG => ?_
  obtain ⟨a1, a2, a3, a4⟩ := V.e2 h
  refine hG ?_
  have a2 : t = ep := a2
  rcases L.ep.e with e | ⟨⟨e1, e2⟩, e3, e4⟩
  · have := V.it; rw [show (o, t, sp, pr).2.1 = ep from a2, e] at this; exact absurd this.1 (by decide)
  · rw [← a2] at e3 e4; exact ⟨⟨a3, e3⟩, e4⟩
theorem LB.nx (L : LB f r cb cells side ep rights) : NX f r cb cells side ep :=
  ⟨fun o t sp pr V => (L.bj V (L.mv V) (L.af V)).mem (by rcases L.sd with h | h <;> rw [h] <;> decide), fun o t sp pr V => (L.bj V (L.mv V) (L.af V)).co, fun o t sp pr V h => by obtain ⟨⟨h1, h2⟩, _⟩ := L.w2 V h; rw [h1]; exact h2, fun o t sp pr V h => by
    have ht : t = 1 + 12 * side := (V.c3 h).2.2.1
    obtain ⟨i1, i2⟩ := ix12 (L.hcb (V.c3 h).1) L.sd
    rw [ht, show 1 + 12 * side + 1 = 2 + 12 * side by rcases L.sd with h | h <;> rw [h] <;> decide, show 1 + 12 * side - 1 = 12 * side by rcases L.sd with h | h <;> rw [h] <;> decide]
    exact ⟨i1, i2⟩⟩
theorem mv1_ok (v : V n l) (b : BW l) (hw : Ix w n) : (V n (l.mv1 w) ∧ BW (l.mv1 w)) ∧ (l.mv1 w).cells = sz l.cells w 0 ∧ (l.mv1 w).hist = l.hist := by
  unfold Ls.mv1
  by_cases h : gz l.cells w ≠ 0
  · rw [if_pos h]; exact ⟨⟨v.take, b.take v hw h⟩, rfl, rfl⟩
  · rw [if_neg h]; exact ⟨⟨v, b⟩, (sz_same (v.c.symm ▸ hw) (Decidable.not_not.mp h)).symm, rfl⟩
theorem mv2_ok (v : V n l) (b : BW l) (ho : Ix o n) (ht : Ix t n) (ot : t ≠ o) (h0 : gz l.cells o ≠ 0) (h1 : gz l.cells t = 0) (hp : sp = 1 → okc np ∧ np ≠ 0) :
    (V n (l.mv2 o t sp np) ∧ BW (l.mv2 o t sp np)) ∧ (l.mv2 o t sp np).cells = sz (sz l.cells t (if sp = 1 then np else gz l.cells o)) o 0 ∧ (l.mv2 o t sp np).hist = l.hist := by
  unfold Ls.mv2
  by_cases h : sp = 1
  · rw [if_pos h, if_pos h]
    have e : gz (sz l.cells o 0) t = 0 := (gz_ne ho.1 ht.1 ot.symm).trans h1
    exact ⟨⟨v.take.put (hp h).1, (b.take v ho h0).put v.take ht (hp h).1 (hp h).2 e⟩, sz_comm ho.1 ht.1 ot.symm, rfl⟩
  · rw [if_neg h, if_neg h]
    exact ⟨⟨v.shift v.at, b.shift v ho ht ot h0 h1⟩, sz_comm ho.1 ht.1 ot.symm, rfl⟩
theorem mv3_ok (v : V n l) (b : BW l) (hs : sp = 3 → (Ix (12 * side) n ∧ Ix (2 + 12 * side) n) ∧ 2 + 12 * side ≠ 12 * side ∧ gz l.cells (12 * side) ≠ 0 ∧ gz l.cells (2 + 12 * side) = 0) :
    (V n (l.mv3 sp side) ∧ BW (l.mv3 sp side)) ∧ (l.mv3 sp side).cells = (if sp = 3 then sz (sz l.cells (2 + 12 * side) (gz l.cells (12 * side))) (12 * side) 0 else l.cells) ∧ (l.mv3 sp side).hist = l.hist := by
  unfold Ls.mv3
  by_cases h : sp = 3
  · rw [if_pos h, if_pos h]
    refine go1 fun G hG => ?_
    obtain ⟨⟨i1, i2⟩, ne, h1, h2⟩ := hs h
    refine hG ?_
    exact ⟨⟨v.shift v.at, b.shift v i1 i2 ne h1 h2⟩, sz_comm i1.1 i2.1 ne.symm, rfl⟩
  · rw [if_neg h, if_neg h]; exact ⟨⟨v, b⟩, rfl, rfl⟩
theorem okc_pr (hsd : side = 0 ∨ side = 1) (h : 2 ≤ pr ∧ pr ≤ 5) : okc (side * 8 + pr) ∧ side * 8 + pr ≠ 0 := by
  have : pr = 2 ∨ pr = 3 ∨ pr = 4 ∨ pr = 5 := by lia
  rcases hsd with rfl | rfl <;> rcases this with rfl | rfl | rfl | rfl <;> decide
theorem mv_lists (L : LB f r cb cells side ep rights) (V' : VM f r cb cells side ep (o, t, sp, pr)) (v : V (f * r).toNat l) (b : BW l) (e : l.cells = cells) (hw : (if sp = 2 then t - (1 - 2 * side) * f else t) = w) :
    (V (f * r).toNat (((l.mv1 w).mv2 o t sp (side * 8 + pr)).mv3 sp side) ∧ BW (((l.mv1 w).mv2 o t sp (side * 8 + pr)).mv3 sp side)) ∧ (((l.mv1 w).mv2 o t sp (side * 8 + pr)).mv3 sp side).cells = afterV f cells o t sp pr ∧ (((l.mv1 w).mv2 o t sp (side * 8 + pr)).mv3 sp side).hist = l.hist := by
  subst e
  have io : Ix o (f * r).toNat := V'.io
  have it : Ix t (f * r).toNat := V'.it
  have on : gz l.cells o ≠ 0 := V'.on
  have m := L.mv V'
  have A := L.af V'
  generalize afterV f l.cells o t sp pr = new at A ⊢
  have ot := m.ot
  have hX : ∀ {k}, k = gz l.cells o → (if sp = 1 then side * 8 + pr else k) = newX l.cells o sp pr := fun {k} e => by
    by_cases h : sp = 1
    · rw [if_pos h, show newX l.cells o sp pr = gz l.cells o - 1 + pr from if_neg (fun z => z h)]
      exact (pv_ok ⟨L.B.co.at.1, L.B.co.at.2.1⟩ (V'.pr h).1 V'.os (V'.pr h).2).2.2.2.2.2.2.2.symm
    · rw [if_neg h, show newX l.cells o sp pr = gz l.cells o from if_pos h, e]
  have wx : Ix w (f * r).toNat ∧ (w = o → False) ∧ gz (sz l.cells w 0) t = 0 := by
    subst hw
    by_cases h : sp = 2
    · rw [if_pos h]
      cases A with
      | a h' => rw [h] at h'; exact absurd h' (by decide)
      | b _ hw h1 h2 h3 h4 => exact ⟨hw, h2, (gz_ne hw.1 it.1 h1).trans h4⟩
      | c h' => rw [h] at h'; exact absurd h' (by decide)
    · rw [if_neg h]; exact ⟨it, ot, (gz_sz (v.c.symm ▸ it) it.1).trans (if_pos rfl)⟩
  obtain ⟨⟨v1, b1⟩, c1, h1⟩ := mv1_ok v b wx.1
  have go : gz (l.mv1 w).cells o = gz l.cells o := by rw [c1]; exact gz_ne wx.1.1 io.1 wx.2.1
  obtain ⟨⟨v2, b2⟩, c2, h2⟩ := mv2_ok (sp := sp) (np := side * 8 + pr) v1 b1 io it ot (by rw [go]; exact on) (by rw [c1]; exact wx.2.2) fun h => okc_pr L.sd (V'.pr h).2
  rw [hX go, c1] at c2
  have hn3 : ¬ sp = 3 → (((l.mv1 w).mv2 o t sp (side * 8 + pr)).mv3 sp side) = (l.mv1 w).mv2 o t sp (side * 8 + pr) := fun h => if_neg h
  cases A with
  | a h =>
    rw [if_neg (fun e => by rw [e] at h; exact absurd h (by decide))] at hw
    subst hw
    rw [hn3 (fun e => by rw [e] at h; exact absurd h (by decide))]
    exact ⟨⟨v2, b2⟩, c2.trans (by rw [sz_sz]), h2.trans h1⟩
  | b h hwx n1 n2 h3 h4 h5 =>
    rw [if_pos h] at hw
    rw [hw] at hwx n1 n2 ⊢
    rw [hn3 (by rw [h]; decide)]
    exact ⟨⟨v2, b2⟩, c2.trans (by rw [sz_comm hwx.1 it.1 n1, sz_comm hwx.1 io.1 n2]), h2.trans h1⟩
  | c h hf e1 e2 k1 k2 k3 k4 =>
    rw [if_neg (by rw [h]; decide)] at hw
    subst hw e1 e2
    obtain ⟨i1, i2⟩ := ix12 hf L.sd
    have d := d12 L.sd
    have g1 : gz ((l.mv1 (1 + 12 * side)).mv2 (3 + 12 * side) (1 + 12 * side) sp (side * 8 + pr)).cells (12 * side) = 8 * side + 4 := by rw [c2, gz_ne io.1 i2.1 d.ob, gz_ne it.1 i2.1 d.tb, gz_ne it.1 i2.1 d.tb, k4]
    have g2 : gz ((l.mv1 (1 + 12 * side)).mv2 (3 + 12 * side) (1 + 12 * side) sp (side * 8 + pr)).cells (2 + 12 * side) = 0 := by rw [c2, gz_ne io.1 i1.1 d.oa, gz_ne it.1 i1.1 d.ta, gz_ne it.1 i1.1 d.ta, k2]
    obtain ⟨⟨v3, b3⟩, c3, h3⟩ := mv3_ok (sp := sp) (side := side) v2 b2 fun _ => ⟨⟨i2, i1⟩, d.ab, by rw [g1]; rcases L.sd with h | h <;> rw [h] <;> decide, g2⟩
    rw [if_pos h, g1, c2, sz_sz] at c3
    exact ⟨⟨v3, b3⟩, c3, h3.trans (h2.trans h1)⟩
noncomputable def numV (o t sp pr : Int) : Int := t + 64 * o + 4096 * max (pr - 2) 0 + 16384 * sp
theorem num_1 {o t q sp : Int} (ho : 0 ≤ o ∧ o < 64) (ht : 0 ≤ t ∧ t < 64) : (t + 64 * o + 4096 * q + 16384 * sp) % 64 = t ∧ (t + 64 * o + 4096 * q + 16384 * sp) / 64 % 64 = o := by
  rw [show t + 64 * o + 4096 * q + 16384 * sp = t + 64 * (o + 64 * (q + 4 * sp)) by omega, (dmL ht).1, (dmL ht).2]
  exact ⟨rfl, (dmL ho).1⟩
theorem num_2 {o t q sp : Int} (ho : 0 ≤ o ∧ o < 64) (ht : 0 ≤ t ∧ t < 64) (hq : 0 ≤ q ∧ q < 4) (hs : sp = 0 ∨ sp = 1 ∨ sp = 2 ∨ sp = 3) : (t + 64 * o + 4096 * q + 16384 * sp) / 4096 % 4 = q ∧ (t + 64 * o + 4096 * q + 16384 * sp) / 16384 % 4 = sp := by
  refine ⟨?_, ?_⟩
  · rw [show t + 64 * o + 4096 * q + 16384 * sp = (t + 64 * o) + 4096 * (q + 4 * sp) by omega, (dmL ⟨by lia, by lia⟩).2]
    exact (dmL hq).1
  · rw [(dmL ⟨by lia, by lia⟩).2]
    rcases hs with rfl | rfl | rfl | rfl <;> rfl
theorem num_ok (ho : 0 ≤ o ∧ o < 64) (ht : 0 ≤ t ∧ t < 64) (hs : sp = 0 ∨ sp = 1 ∨ sp = 2 ∨ sp = 3) (hp : pr ≤ 5) : Num (numV o t sp pr) o t sp ∧ (2 ≤ pr → Builtin.bitAnd (numV o t sp pr / 4096) 3 + 2 = pr) := by
  have m6 : ∀ x, Builtin.bitAnd x 63 = x % 64 := fun x => kbt_mask x 6
  have m2 : ∀ x, Builtin.bitAnd x 3 = x % 4 := fun x => kbt_mask x 2
  have hq : 0 ≤ max (pr - 2) 0 ∧ max (pr - 2) 0 < 4 := by clear ho ht hs; omega
  have h1 := num_1 (q := max (pr - 2) 0) (sp := sp) ho ht
  have h2 := num_2 ho ht hq hs
  exact ⟨⟨(m6 _).trans h1.2, (m6 _).trans h1.1, (m2 _).trans h2.2⟩, fun h => by rw [m2]; unfold numV; rw [h2.1]; clear ho ht hs hq h1 h2; omega⟩
theorem VM.p5 (V : VM f r cb cells side ep (o, t, sp, pr)) : pr ≤ 5 := by
  by_cases h : sp = 1
  · exact (V.pr h).2.2
  · rw [show pr = 0 from V.np h]; decide
theorem Sh.lt64 (hs : Sh f r) (h : Ix s (f * r).toNat) : 0 ≤ s ∧ s < 64 := ⟨h.1, Int.lt_of_lt_of_le (ixW h) (Int.le_trans hs.le.1 (by decide))⟩
theorem VM.num (hs : Sh f r) (V : VM f r cb cells side ep (o, t, sp, pr)) : Num (numV o t sp pr) o t sp ∧ (2 ≤ pr → Builtin.bitAnd (numV o t sp pr / 4096) 3 + 2 = pr) := num_ok (hs.lt64 V.io) (hs.lt64 V.it) V.s4 V.p5
end
section
variable {M : Mem} {Q : AV → Mem → Prop} {g : Geo} {z : Za} {a : Ad} {l : Ls} {c : Sc} {cb : Bool} {side ep rights o t sp pr : Int}
theorem tv_zero {f r : Int} (s : Int) : tv (tabV f r) 0 s = 0 := by
  unfold tv
  rw [(show rw_ (tabV f r) 0 = prt (rowF f r 0) (f * r).toNat 0 from rfl).trans prt0]
  exact gz_rep
theorem ar6 {K X B A R : Int} (e : R = 0) : X - B - A = K + (X - B - A) + R - K := by lia
theorem ar7 {K X B C D : Int} : X - B + C - D = K + (X - B - 0) + (C - D) - K := by lia
theorem C_change (P : PO M z a g.n g.f.toNat) (W : GW g) (v : V g.n l) (L : LB g.f g.r cb l.cells side ep rights) (V' : VM g.f g.r cb l.cells side ep (o, t, sp, pr)) (q : Q (.int (keptV g.f g.r (afterV g.f l.cells o t sp pr) - keptV g.f g.r l.cells)) (MP M g.av (.inst 1 z.d) a l c)) :
    t_psq_change [.inst 2 a.d, .int (numV o t sp pr), aintss (tabV g.f g.r)] (MP M g.av (.inst 1 z.d) a l c) Q := by
  have io : Ix o g.n := V'.io
  have it : Ix t g.n := V'.it
  have A := L.af V'
  have m := L.mv V'
  obtain ⟨hN, hN2⟩ := V'.num L.hs
  have z0 : ∀ s, tv (tabV g.f g.r) 0 s = 0 := tv_zero
  have hsum : keptV g.f g.r (afterV g.f l.cells o t sp pr) = _ := A.sum (G := tv (tabV g.f g.r)) z0 L.B.co.len L.sd V'.io V'.it m.ot
  rw [hsum] at q
  clear hsum
  generalize afterV g.f l.cells o t sp pr = new at A
  by_cases h3 : sp = 3
  · cases A with
    | a h => rw [h3] at h; exact absurd h (by decide)
    | b h => rw [h3] at h; exact absurd h (by decide)
    | c h hf e1 e2 k1 k2 k3 k4 =>
      subst e1 e2 h
      have en : g.n = 18 := by unfold Geo.n; rw [hf.1, hf.2]; rfl
      have hX : newX l.cells (3 + 12 * side) 3 pr = 8 * side + 6 := (if_pos (by decide)).trans k3
      rw [if_pos rfl, show taV g.f side (1 + 12 * side) 3 = 1 + 12 * side from if_neg (by decide), k1, z0, hX, k3] at q
      exact C_psq_castle P v (W.cas hf.1) L.sd (en ▸ tab_ok) hN io k3 ar7 q
  · have hcm : newX l.cells o sp pr = if sp = 1 then gz l.cells o / 8 * 8 + (Builtin.bitAnd (numV o t sp pr / 4096) 3 + 2) else gz l.cells o := by
      by_cases h : sp = 1
      · have hp := V'.pr h
        rw [if_pos h, hN2 hp.2.1, show gz l.cells o / 8 = side from V'.os, show newX l.cells o sp pr = gz l.cells o - 1 + pr from if_neg (fun z => z h)]
        exact (pv_ok ⟨L.B.co.at.1, L.B.co.at.2.1⟩ hp.1 V'.os hp.2).2.2.2.2.2.2.2
      · rw [if_neg h]; exact if_pos h
    have hta : taV g.f side t sp = (if sp = 2 then o - o % g.f + t % g.f else t) ∧ Ix (taV g.f side t sp) g.n := by
      unfold taV
      by_cases h : sp = 2
      · rw [if_pos h, if_pos h]; exact ⟨(L.w2 V' h).1.1.symm, (L.w2 V' h).1.2⟩
      · rw [if_neg h, if_neg h]; exact ⟨rfl, it⟩
    exact C_psq_change P W.sh.le.2.1 v tab_ok (cm := newX l.cells o sp pr) (ta := taV g.f side t sp) ⟨hN, io, it, hcm, ⟨m.x.1, by have := m.x; lia⟩, by rw [show gz l.cells o / 8 = side from V'.os]; rcases L.sd with h | h <;> rw [h] <;> exact smc rfl, hta.1, hta.2⟩ h3 (ar6 (if_neg h3)) q
end
end Vg
end
section
set_option autoImplicit false
set_option linter.all false
namespace Vg
open PySem PySem.W PyProof.Rows
section
variable {M : Mem} {Q : AV → Mem → Prop} {N B : List AV → Mem → Prop} {R : AV → Mem → Prop}
noncomputable abbrev lw (ns : List Int) (ad : Addr) (n f r : Int) (db cb : Bool) (side : Int) (g : Geo) (cells : List Int) (rights : Int) (a : Ad) (kept ep : Int) (v13 v14 v15 v16 v17 v18 v19 v20 v21 : AV) : List AV :=
  [aints ns, .ref ad, .int n, shV f r db cb, .int f, .int side, g.av, aints cells, .int rights, .inst 2 a.d, aintss (tabV f r), .int kept, .int ep, v13, v14, v15, v16, v17, v18, v19, v20, v21]
variable {ns drawn cells new : List Int} {ad : Addr} {n f r side rights kept ep o t sp pr num i right corner : Int} {db cb : Bool} {g : Geo} {a : Ad} {v13 v14 v15 v16 v17 v18 v19 v20 v21 : AV}
theorem lost_yes {h : Prop} [Decidable h] (h1 : Builtin.bitAnd rights right ≠ 0) (h2 : h) : rights - right = lb rights right (decide h) := (if_pos ⟨h1, decide_eq_true h2⟩).symm
theorem lost_no {h : Prop} [Decidable h] (h1 : ¬ (Builtin.bitAnd rights right ≠ 0 ∧ h)) : rights = lb rights right (decide h) := (if_neg fun z => h1 ⟨z.1, of_decide_eq_true z.2⟩).symm
theorem lw_lost (q : N (lw ns ad n f r db cb side g new (lost1 rights right corner f o t) a kept ep v13 v14 (.int o) (.int t) v17 v18 v19 (.int right) (.int corner)) M) :
    w_law_1 (lw ns ad n f r db cb side g new rights a kept ep v13 v14 (.int o) (.int t) v17 v18 v19 (.int right) (.int corner)) M N B R := by
  unfold lost1 at q
  refine .intro (fun h1 => .intro (by decide) <| .intro (by decide) <| .intro [corner, corner + f / 2] <| .intro rfl <| .intro (fun h2 => iP trivial ?_) fun h2 => .intro (fun h3 => ?_) fun h3 => ?_) fun h1 => iN id ?_
  · rw [← lost_yes h1 (.inl (by simpa using h2))] at q; exact q
  · rw [← lost_yes h1 (.inr h3)] at q; exact q
  · rw [← lost_no fun z => z.2.elim (fun z => h2 (by simpa using z)) h3] at q; exact q
  · rw [← lost_no fun z => h1 z.1] at q; exact q
theorem lw_ep (io : Ix o cells.length) (q : w_law_2_7 (lw ns ad n f r db cb side g cells rights a kept (epV f cells o t) v13 v14 (.int o) (.int t) v17 v18 v19 v20 v21) M N B R) :
    w_law_2_6 (lw ns ad n f r db cb side g cells rights a kept ep v13 v14 (.int o) (.int t) v17 v18 v19 v20 v21) M N B R := by
  unfold epV at q
  refine subL io <| .intro (by decide) <| .intro (fun h1 => .intro (smc rfl) <| .intro (fun h2 => .intro (by decide) <| .intro (by decide) ?_) fun h2 => ?_) fun h1 => iN id ?_
  · rw [if_pos ⟨h1, h2⟩] at q; exact q
  · rw [if_neg fun z => h2 z.2] at q; exact q
  · rw [if_neg fun z => h1 z.1] at q; exact q
theorem lw_num (q : w_law_2_4 (lw ns ad n f r db cb side g cells rights a kept ep v13 v14 (.int o) (.int t) (.int sp) (.int pr) (.int (numV o t sp pr)) v20 v21) M N B R) :
    w_law_2_3 (lw ns ad n f r db cb side g cells rights a kept ep v13 v14 (.int o) (.int t) (.int sp) (.int pr) v19 v20 v21) M N B R :=
  .intro (smc rfl) <| .intro (smc rfl) <| .intro (smc rfl) q
end
end Vg
end
section
set_option autoImplicit false
set_option linter.all false
namespace Vg
open PySem PySem.W PyProof.Rows
structure LW (M₀ : Mem) (z : Za) (a : Ad) (g : Geo) (cb : Bool) (i : Nat) (cells : List Int) (side ep rights : Int) (l : Ls) (c : Sc) : Prop where
  P : PO M₀ z a g.n g.f.toNat
  v : V g.n l
  b : BW l
  e : l.cells = cells
  s : c.side = side
  rg : Ix c.rights 16
  h : l.hist.length ≤ i
  L : LB g.f g.r cb cells side ep rights
theorem RI.rip {cb : Bool} {cells : List Int} {side rights : Int} (R : RI cb cells rights) (hsd : side = 0 ∨ side = 1) : RiP cb cells side rights := fun _ h => by
  rcases hsd with rfl | rfl
  · exact R.w h
  · exact R.b h
theorem tk_w {f side t sp : Int} (hsd : side = 0 ∨ side = 1) : (if sp ≠ 2 then t else if side = 0 then t - f else t + f) = (if sp = 2 then t - (1 - 2 * side) * f else t) := by
  by_cases h : sp = 2
  · rw [if_pos h, if_neg (fun z => z h)]
    rcases hsd with rfl | rfl
    · rw [if_pos rfl]; lia
    · rw [if_neg (by decide)]; lia
  · rw [if_neg h, if_pos h]
theorem kept_add {a b : Int} : a + (b - a) = b := by lia
section
variable {M₀ : Mem} {Q : AV → Mem → Prop} {N B : List AV → Mem → Prop} {R : AV → Mem → Prop} {z : Za} {l : Ls} {c : Sc} {k : Nat}
variable {ns drawn cells new : List Int} {ad : Addr} {n n' f r side rights kept ep o t sp pr num i right corner : Int} {db cb : Bool} {g : Geo} {a : Ad} {v13 v14 v15 v16 v17 v18 v19 v20 v21 : AV}
theorem LW.ag (h : LW M₀ z a g cb k cells side ep rights l c) : AG (MP M₀ g.av (.inst 1 z.d) a l c) g (.inst 1 z.d) a l c cells (keptV g.f g.r cells) := ⟨h.P.ap.rd, h.v, h.e, h.L.hs, h.L.B.co, h.L.B.cnt, rfl⟩
theorem LW.six (h : LW M₀ z a g cb k cells side ep rights l c) : (6 : Int) ∈ cells := h.L.B.mem (.inl rfl)
theorem lw_fin (hR : ∀ M, R (.bool true) M) (w : GW g) (h : LW M₀ z a g cb k cells side ep rights l c) : q_law_16 (lw ns ad n g.f g.r db cb side g cells rights a (keptV g.f g.r cells) ep v13 v14 v15 v16 v17 v18 v19 v20 v21) (MP M₀ g.av (.inst 1 z.d) a l c) N B R :=
  C_whole w h.ag h.b h.six (hR _)
theorem lw_end (h : LW M₀ z a g cb k new (1 - side) ep rights l c) (q : ∀ v20 v21, N (lw ns ad n g.f g.r db cb (1 - side) g new rights a (keptV g.f g.r new) ep v13 v14 v15 v16 v17 v18 v19 v20 v21) (MP M₀ g.av (.inst 1 z.d) a l c)) :
    w_law_2_9 (lw ns ad n g.f g.r db cb side g new rights a (keptV g.f g.r new) ep v13 v14 v15 v16 v17 v18 v19 v20 v21) (MP M₀ g.av (.inst 1 z.d) a l c) N B R :=
  C_agree h.ag <| .intro (fun h => absurd rfl h) fun zz => q _ _
theorem lw_rights (h : LW M₀ z a g cb k new (1 - side) ep (lostV rights g.f n' o t) l c) (hn : (new.length : Int) = n') (q : ∀ v20 v21, N (lw ns ad n g.f g.r db cb (1 - side) g new (lostV rights g.f n' o t) a (keptV g.f g.r new) ep v13 v14 (.int o) (.int t) v17 v18 v19 v20 v21) (MP M₀ g.av (.inst 1 z.d) a l c)) :
    w_law_2_8 (lw ns ad n g.f g.r db cb side g new rights a (keptV g.f g.r new) ep v13 v14 (.int o) (.int t) v17 v18 v19 v20 v21) (MP M₀ g.av (.inst 1 z.d) a l c) N B R := by
  subst hn
  have lm : ((new.map AV.int).length : Int) = new.length := by rw [List.length_map]
  unfold lostV at q h
  refine forP.of ?_
  rw [lm]
  exact .intro rfl <| lw_lost <| .intro trivial <| .intro rfl <| lw_lost <| .intro trivial <| lw_end h q
theorem lw_turn (w : GW g) (h : LW M₀ z a g cb k cells side ep rights l c) (hk : k < 1000) (hv : VM g.f g.r cb cells side ep (o, t, sp, pr)) (hh : ¬ HeldP g.f g.r (afterV g.f cells o t sp pr) ((afterV g.f cells o t sp pr).idxOf (side * 8 + 6)) (1 - side))
    (q : ∀ l c new ep rights v15 v16 v17 v18 v19 v20 v21, LW M₀ z a g cb (k + 1) new (1 - side) ep rights l c → N (lw ns ad n g.f g.r db cb (1 - side) g new rights a (keptV g.f g.r new) ep v13 (quad (o, t, sp, pr)) v15 v16 v17 v18 v19 v20 v21) (MP M₀ g.av (.inst 1 z.d) a l c)) :
    w_law_2_2 (lw ns ad n g.f g.r db cb side g cells rights a (keptV g.f g.r cells) ep v13 (quad (o, t, sp, pr)) v15 v16 v17 v18 v19 v20 v21) (MP M₀ g.av (.inst 1 z.d) a l c) N B R := by
  obtain ⟨P, v, b, rfl, rfl, rg, hl, L⟩ := h
  have Ln := L.next hv rfl hh
  have lnew := (Ln.B.co.len).trans L.B.co.len.symm
  have io : Ix o g.n := hv.io
  have it : Ix t g.n := hv.it
  obtain ⟨hN, hN2⟩ := hv.num L.hs
  have sle := L.hs.le
  have hw2 : Ix (if sp = 2 then t - (1 - 2 * c.side) * g.f else t) g.n := by
    by_cases h : sp = 2
    · rw [if_pos h]; exact (L.w2 hv h).1.2
    · rw [if_neg h]; exact it
  have key : ∀ l' c', LW M₀ z a g cb (k + 1) (afterV g.f l.cells o t sp pr) (1 - c.side) (epV g.f l.cells o t) (lostV rights g.f l.cells.length o t) l' c' → ∀ v20 v21,
      w_law_2_6 (lw ns ad n g.f g.r db cb c.side g l.cells rights a (keptV g.f g.r (afterV g.f l.cells o t sp pr)) ep v13 (quad (o, t, sp, pr)) (.int o) (.int t) (.int sp) (.int pr) (.int (numV o t sp pr)) v20 v21) (MP M₀ g.av (.inst 1 z.d) a l' c') N B R := fun l' c' h' v20 v21 =>
    lw_ep (L.B.co.ix io) <| C_after sle.2.1 (by rw [L.B.co.len]; omega) (L.B.co.ix io) (L.B.co.ix it) (fun h => L.B.co.ix (L.nx.w _ _ _ _ hv h)) (fun h => ⟨L.B.co.ix (L.nx.c _ _ _ _ hv h).1, L.B.co.ix (L.nx.c _ _ _ _ hv h).2⟩) <|
      lw_rights h' (congrArg _ lnew) fun v20 v21 => q _ _ _ _ _ _ _ _ _ _ _ _ h'
  have dm : ∀ v20 v21, w_law_2_5 (lw ns ad n g.f g.r db cb c.side g l.cells rights a (keptV g.f g.r (afterV g.f l.cells o t sp pr)) ep v13 (quad (o, t, sp, pr)) (.int o) (.int t) (.int sp) (.int pr) (.int (numV o t sp pr)) v20 v21) (MP M₀ g.av (.inst 1 z.d) a l c) N B R := fun v20 v21 =>
    C_do_move (np := c.side * 8 + pr) P w v L.sd hN io it hv.on hv.os (tk_w L.sd) hw2 (fun h => ⟨(L.hcb (hv.c3 h).1).1, (hv.c3 h).2.2.1⟩) rg (fun h => ⟨by rw [hN2 (hv.pr h).2.1], (okc_pr L.sd (hv.pr h).2).1⟩) (Nat.lt_of_le_of_lt hl hk) fun H c' e1 e2 e3 => by
      obtain ⟨⟨v', b'⟩, e', h'⟩ := mv_lists (l := { l with hist := H }) L hv ⟨v.c, v.k, v.s, by rw [e1]; lia, v.ok⟩ ⟨b.k, b.s⟩ rfl rfl
      exact .intro trivial <| key _ _ ⟨P, v', b', e', e2, e3, by rw [h', e1]; lia, Ln⟩ _ _
  refine .intro rfl <| lw_num (o := o) (t := t) (sp := sp) (pr := pr) <| C_change P w v L hv ?_
  show w_law_2_5 (lw ns ad n g.f g.r db cb c.side g l.cells rights a (keptV g.f g.r l.cells + (keptV g.f g.r (afterV g.f l.cells o t sp pr) - keptV g.f g.r l.cells)) ep v13 (quad (o, t, sp, pr)) (.int o) (.int t) (.int sp) (.int pr) (.int (numV o t sp pr)) v20 v21) (MP M₀ g.av (.inst 1 z.d) a l c) N B R
  rw [kept_add]
  exact dm _ _
end
end Vg
end
section
set_option autoImplicit false
set_option linter.all false
namespace Vg
open PySem PySem.W PyProof.Rows
section
variable {M₀ : Mem} {Q : AV → Mem → Prop} {N B : List AV → Mem → Prop} {R : AV → Mem → Prop} {z : Za} {l : Ls} {c : Sc} {k : Nat}
variable {ns drawn cells new : List Int} {ad : Addr} {n n' f r side rights kept ep o t sp pr num i right corner : Int} {db cb : Bool} {g : Geo} {a : Ad} {v13 v14 v15 v16 v17 v18 v19 v20 v21 : AV}
theorem lw_step (w : GW g) (hdb : db = true → 5 ≤ g.r) (h : LW M₀ z a g cb k cells side ep rights l c) (hk : k < 5) (hd : M₀ ad = some (iL drawn)) (hl : drawn.length = 24)
    (q : ∀ l c cells side ep rights v14 v15 v16 v17 v18 v19 v20 v21, LW M₀ z a g cb (k + 1) cells side ep rights l c → N (lw ns ad n g.f g.r db cb side g cells rights a (keptV g.f g.r cells) ep (.int k) v14 v15 v16 v17 v18 v19 v20 v21) (MP M₀ g.av (.inst 1 z.d) a l c))
    (qb : ∀ v14, B (lw ns ad n g.f g.r db cb side g cells rights a (keptV g.f g.r cells) ep (.int k) v14 v15 v16 v17 v18 v19 v20 v21) (MP M₀ g.av (.inst 1 z.d) a l c)) :
    w_law_2 (lw ns ad n g.f g.r db cb side g cells rights a (keptV g.f g.r cells) ep (.int k) v14 v15 v16 v17 v18 v19 v20 v21) (MP M₀ g.av (.inst 1 z.d) a l c) N B R := by
  have hx : LI (MP M₀ g.av (.inst 1 z.d) a l c) drawn (.ref ad) := (LI.ref hd).le h.P.le
  have ix : Ix (11 + (k : Int)) drawn.length := by rw [hl]; exact ⟨by lia, by omega⟩
  refine hx.sub ix <| C_pick h.L.hs hdb h.L.hcb h.L.B.co h.L.B.pi h.L.sd h.L.ep.z (h.L.ri.rip h.L.sd) h.L.nx
    (.intro (fun zz => qb _) fun h => absurd rfl h) fun o t sp pr hv hh => iN (fun h => absurd (show false = true from h) Bool.false_ne_true) <| lw_turn w h (Nat.lt_trans hk (by decide)) hv hh fun l c new ep rights v15 v16 v17 v18 v19 v20 v21 h' => q _ _ _ _ _ _ _ _ _ _ _ _ _ _ h'
inductive LwI (M₀ : Mem) (z : Za) (a : Ad) (g : Geo) (cb db : Bool) (ns : List Int) (ad : Addr) (n : Int) (k : Nat) : List AV → Mem → Prop
  | mk (l : Ls) (c : Sc) (cells : List Int) (side ep rights : Int) (v13 v14 v15 v16 v17 v18 v19 v20 v21 : AV) (h : LW M₀ z a g cb k cells side ep rights l c) : LwI M₀ z a g cb db ns ad n k (lw ns ad n g.f g.r db cb side g cells rights a (keptV g.f g.r cells) ep v13 v14 v15 v16 v17 v18 v19 v20 v21) (MP M₀ g.av (.inst 1 z.d) a l c)
theorem lw_loop (hR : ∀ M, R (.bool true) M) (w : GW g) (hdb : db = true → 5 ≤ g.r) (h : LW M₀ z a g cb 0 cells side ep rights l c) (hd : M₀ ad = some (iL drawn)) (hl : drawn.length = 24) (hn : 0 ≤ n ∧ n ≤ 24) :
    q_law_15 (lw ns ad n g.f g.r db cb side g cells rights a (keptV g.f g.r cells) ep v13 v14 v15 v16 v17 v18 v19 v20 v21) (MP M₀ g.av (.inst 1 z.d) a l c) N B R := by
  have hm : 0 ≤ min 3 (n / 6) ∧ min 3 (n / 6) ≤ 3 := ⟨Int.le_min.mpr ⟨by decide, Int.ediv_nonneg hn.1 (by decide)⟩, Int.min_le_left _ _⟩
  refine .intro (by decide) <| .intro (by decide) <| .intro (okr15 (k := 2 + min 3 (n / 6)) (Int.add_nonneg (by decide) hm.1) (Int.le_trans (Int.add_le_add_left hm.2 2) (by decide))) <| for0 (LwI M₀ z a g cb db ns ad n) ⟨_, _, _, _, _, _, _, _, _, _, _, _, _, _, _, h⟩ ?_ ?_
  · rintro i _ _ hi ⟨l, c, cells, side, ep, rights, v13, v14, v15, v16, v17, v18, v19, v20, v21, h⟩
    exact lw_step w hdb h (by have := hi.2; omega) hd hl (fun l c cells side ep rights v14 v15 v16 v17 v18 v19 v20 v21 h => .intro trivial ⟨_, _, _, _, _, _, _, _, _, _, _, _, _, _, _, h⟩) fun v14 => lw_fin hR w h
  · rintro _ _ ⟨l, c, cells, side, ep, rights, v13, v14, v15, v16, v17, v18, v19, v20, v21, h⟩
    exact lw_fin hR w h
end
end Vg
end
section
set_option autoImplicit false
set_option linter.all false
namespace Vg
open PySem PySem.W PyProof.Rows
noncomputable def shapesV : List AV := [shV 3 4 false false, shV 6 3 false true, shV 3 6 true false, shV 4 5 true false]
section
variable {M M₀ : Mem} {Q : AV → Mem → Prop} {N B : List AV → Mem → Prop} {R : AV → Mem → Prop} {k : Int}
theorem C_shapes (q : Q (.lst shapesV) M) : t_law_shapes [] M Q := fnT.gs u_law_shapes rfl <| .intro (nle rfl) fun a ha => Exit.l (Mem.set_self _ _ _) ha (Mem.le_set ha) q
theorem shape_ok (h : 0 ≤ k ∧ k < 4) : ∃ f r db cb, Sh f r ∧ (db = true → 5 ≤ r) ∧ (cb = true → f = 6 ∧ r = 3) ∧ cb = decide (f = 6) ∧ shapesV[k.toNat]? = some (shV f r db cb) := by
  have : k = 0 ∨ k = 1 ∨ k = 2 ∨ k = 3 := by lia
  rcases this with rfl | rfl | rfl | rfl
  · exact ⟨3, 4, false, false, .a, by decide, by decide, rfl, rfl⟩
  · exact ⟨6, 3, false, true, .b, by decide, by decide, rfl, rfl⟩
  · exact ⟨3, 6, true, false, .c, by decide, by decide, rfl, rfl⟩
  · exact ⟨4, 5, true, false, .d, by decide, by decide, rfl, rfl⟩
theorem law_draw {ns : List Int} (hn : ns.length ≤ 63) (q : ∀ M' ad drawn n, M' ad = some (iL drawn) → drawn.length = 24 → 0 ≤ n ∧ n ≤ 24 → q_law_3 [aints ns, .ref ad, .int n, .undef, .undef, .undef, .undef, .undef, .undef, .undef, .undef, .undef, .undef, .undef, .undef, .undef, .undef, .undef, .undef, .undef, .undef, .undef] M' N B R) :
    b_law [aints ns, .undef, .undef, .undef, .undef, .undef, .undef, .undef, .undef, .undef, .undef, .undef, .undef, .undef, .undef, .undef, .undef, .undef, .undef, .undef, .undef, .undef] M N B R := by
  refine .intro (by rw [List.length_map]; omega) fun a1 h1 => ?_
  refine .intro (by decide) <| .intro (by decide) <| .intro _ <| .intro (Mem.set_self _ _ _) <| ?_
  show newL _ ((ns.map .int).take 24) _
  rw [← List.map_take]
  have l1 : (ns.take 24).length ≤ 24 := by rw [List.length_take]; omega
  generalize ns.take 24 = ds at l1
  generalize M.set a1 _ = M1
  have ln : 24 - ((ds.map AV.int).length : Int) = 24 - (ds.length : Int) := by rw [List.length_map]
  refine .intro (by rw [List.length_map]; omega) fun a2 h2 => .intro _ <| .intro (Mem.set_self _ _ _) <| .intro (nle rfl) fun a3 h3 => mul0 (Mem.set_self _ _ _) (ln ▸ by omega) (ln ▸ by omega) fun a4 h4 => ?_
  have n23 : a3 ≠ a2 := fun e => by rw [e, Mem.set_self] at h3; cases h3
  have n24 : a4 ≠ a2 := fun e => by rw [e, Mem.set_ne _ _ n23.symm, Mem.set_self] at h4; cases h4
  refine .intro rfl <| .intro _ <| .intro ((Mem.set_ne _ _ n24.symm).trans ((Mem.set_ne _ _ n23.symm).trans (Mem.set_self _ _ _))) <| .intro _ <| .intro (Mem.set_self _ _ _) <| .intro (by simp only [List.length_append, List.length_map, List.length_replicate]; omega) fun a5 h5 => ?_
  refine q _ a5 (ds ++ List.replicate (24 - ((ds.map AV.int).length : Int)).toNat 0) (ds.map AV.int).length ((Mem.set_self _ _ _).trans (congrArg (fun l => some (AO.list l)) List.map_append.symm)) ?_ ?_
  · rw [List.length_append, List.length_replicate, List.length_map]; omega
  · rw [List.length_map]; lia
noncomputable abbrev GeoC : Prop := ∀ (f r : Int) (db cb : Bool) (M : Mem) (Q : AV → Mem → Prop), Sh f r → cb = decide (f = 6) → (∀ g : Geo, g.f = f → g.r = r → GW g → Q g.av M) → t_make_geometry [.int f, .int r, .bool db, .bool cb] M Q
variable {ns drawn : List Int} {ad : Addr} {n : Int}
theorem law_geo (G : GeoC) (hd : M ad = some (iL drawn)) (hl : drawn.length = 24)
    (q : ∀ (g : Geo) db cb side, GW g → (db = true → 5 ≤ g.r) → (cb = true → g.f = 6 ∧ g.r = 3) → (side = 0 ∨ side = 1) → q_law_7 [aints ns, .ref ad, .int n, shV g.f g.r db cb, .int g.f, .int side, g.av, .undef, .undef, .undef, .undef, .undef, .undef, .undef, .undef, .undef, .undef, .undef, .undef, .undef, .undef, .undef] M N B R) :
    q_law_3 [aints ns, .ref ad, .int n, .undef, .undef, .undef, .undef, .undef, .undef, .undef, .undef, .undef, .undef, .undef, .undef, .undef, .undef, .undef, .undef, .undef, .undef, .undef] M N B R := by
  have hx : LI M drawn (.ref ad) := .ref hd
  have k1 : 0 ≤ gz drawn 0 % 4 ∧ gz drawn 0 % 4 < 4 := ⟨Int.emod_nonneg _ (by decide), Int.emod_lt_of_pos _ (by decide)⟩
  obtain ⟨f, r, db, cb, hs, hdb, hcb, ec, e⟩ := shape_ok k1
  refine C_shapes <| hx.sub (by rw [hl]; decide) <| .intro (by decide) <| subF k1.1 e <| subF (Int.le_refl 0) rfl <| hx.sub (by rw [hl]; decide) <| .intro (by decide) <| subF (by decide : (0 : Int) ≤ 1) rfl <| subF (by decide : (0 : Int) ≤ 2) rfl <| subF (by decide : (0 : Int) ≤ 3) rfl <| G f r db cb M _ hs ec ?_
  rintro g rfl rfl w
  exact q g db cb _ w hdb hcb (by lia)
end
end Vg
end
section
set_option autoImplicit false
set_option linter.all false
namespace Vg
open PySem PySem.W PyProof.Rows
section
variable {M : Mem} {Q : AV → Mem → Prop} {N B : List AV → Mem → Prop} {R : AV → Mem → Prop} {ns drawn cells : List Int} {ad : Addr} {n side rights : Int} {g : Geo} {db cb : Bool} {x10 x11 x12 x13 x14 x15 x16 x17 x18 x19 x20 x21 : AV}
theorem RI.ix {cb : Bool} {cells : List Int} {rights : Int} (R : RI cb cells rights) : Ix rights 16 := by rcases R.v with e | e | e | e <;> rw [e] <;> decide
theorem law_pos (hR : ∀ M, R (.bool true) M) (w : GW g) (hdb : db = true → 5 ≤ g.r) (hcb : cb = true → g.f = 6 ∧ g.r = 3) (hsd : side = 0 ∨ side = 1) (hd : M ad = some (iL drawn)) (hl : drawn.length = 24) (hn : 0 ≤ n ∧ n ≤ 24) (bj : BJ g.f g.r cells 11) (S : SafeB g.f g.r cells side) (ri : RI cb cells rights) :
    q_law_8 [aints ns, .ref ad, .int n, shV g.f g.r db cb, .int g.f, .int side, g.av, aints cells, .int rights, .undef, .undef, .undef, .undef, .undef, .undef, .undef, .undef, .undef, .undef, .undef, .undef, .undef] M N B R := by
  refine C_position w.sh bj.co .lst fun M₀ z a l c le P v b e eh ec => ?_
  subst e
  have h : LW M₀ z a g cb 0 l.cells side (-1) rights l ⟨side, rights, c.ep, c.half, c.full, c.key⟩ := ⟨P, v, b, rfl, rfl, ri.ix, by rw [eh]; exact Nat.le_refl 0, ⟨w.sh, hcb, hsd, bj, S, ⟨.inl rfl⟩, ri⟩⟩
  exact p_side P.ap <| p_rights P.ap <| C_make_psqt w.sh <| C_psq_of P.ap.rd w.sh v tab_ok <| C_whole w h.ag h.b h.six <| .intro (fun h => absurd rfl h) fun zz => lw_loop hR w hdb h (le _ _ hd) hl hn
theorem law_body (hR : ∀ M, R (.bool true) M) (G : GeoC) (hn : ns.length ≤ 63) :
    b_law [aints ns, .undef, .undef, .undef, .undef, .undef, .undef, .undef, .undef, .undef, .undef, .undef, .undef, .undef, .undef, .undef, .undef, .undef, .undef, .undef, .undef, .undef] M N B R :=
  law_draw hn fun M' ad drawn n hd hl hn => law_geo G hd hl fun g db cb side w hdb hcb hsd => C_board w.sh hdb hcb hsd (.ref hd) hl hn.1 fun cells rights bj S ri => .intro rfl <| law_pos hR w hdb hcb hsd hd hl hn bj S ri
end
end Vg
end
section
set_option autoImplicit false
set_option linter.all false
namespace Vg
open PySem PySem.W PyProof.Rows
structure VO (M₀ : Mem) (as : List Addr) (cs : List AO) (M : Mem) : Prop where
  le : M₀.le M
  at_ : ∀ (i : Nat) (a : Addr), as[i]? = some a → M a = cs[i]?
  len : as.length = cs.length
  fr : ∀ (i : Nat) (a : Addr), as[i]? = some a → M₀ a = none
  inj : ∀ (i j : Nat) (a : Addr), as[i]? = some a → as[j]? = some a → i = j
section
variable {M₀ M : Mem} {as : List Addr} {cs : List AO} {i j : Nat} {a b : Addr} {o o' : AO} {l : List Int} {x : Int} {k : Int} {N : Mem → Prop}
theorem VO.nil : VO M₀ [] [] M₀ := ⟨Mem.le.refl _, fun i a e => (nomatch e), rfl, fun i a e => (nomatch e), fun i j a e => (nomatch e)⟩
theorem VO.get (v : VO M₀ as cs M) (h : as[i]? = some a) (hc : cs[i]? = some o) : M a = some o := (v.at_ i a h).trans hc
theorem VO.ne (v : VO M₀ as cs M) (h : M a = none) (e : as[i]? = some b) : b ≠ a := fun z => by
  have hb := v.at_ i b e
  rw [z, h, List.getElem?_eq_getElem (v.len ▸ (List.getElem?_eq_some_iff.mp e).1)] at hb; cases hb
theorem VO.junk (v : VO M₀ as cs M) (h : M a = none) : VO M₀ as cs (M.set a o) :=
  ⟨v.le.trans (Mem.le_set h), fun i b e => (Mem.set_ne _ _ (v.ne h e)).trans (v.at_ i b e), v.len, v.fr, v.inj⟩
theorem getC {α : Type} {xs : List α} {x y : α} (h : (xs ++ [x])[i]? = some y) : xs[i]? = some y ∨ (i = xs.length ∧ y = x) := by
  by_cases hi : i < xs.length
  · exact .inl (List.getElem?_append_left hi ▸ h)
  · rw [List.getElem?_append_right (Nat.not_lt.mp hi)] at h
    cases hk : i - xs.length with
    | zero => rw [hk] at h; exact .inr ⟨Nat.le_antisymm (Nat.sub_eq_zero_iff_le.mp hk) (Nat.not_lt.mp hi), (Option.some.inj h).symm⟩
    | succ k => rw [hk] at h; cases h
theorem VO.new (v : VO M₀ as cs M) (h : M a = none) : VO M₀ (as ++ [a]) (cs ++ [o]) (M.set a o) := by
  have w := v.junk (o := o) h
  refine ⟨w.le, fun i b e => ?_, by rw [List.length_append, List.length_append, v.len]; rfl, fun i b e => ?_, fun i j b e e' => ?_⟩
  · rcases getC e with e | ⟨rfl, rfl⟩
    · rw [List.getElem?_append_left (v.len ▸ (List.getElem?_eq_some_iff.mp e).1)]; exact w.at_ i b e
    · rw [v.len, List.getElem?_concat_length]; exact Mem.set_self _ _ _
  · rcases getC e with e | ⟨rfl, rfl⟩
    · exact v.fr i b e
    · exact v.le.none h
  · rcases getC e with e | ⟨rfl, rfl⟩ <;> rcases getC e' with e' | ⟨rfl, h'⟩
    · exact v.inj i j b e e'
    · exact absurd h' (v.ne h e)
    · exact absurd rfl (v.ne h e')
    · rfl
theorem VO.rep (v : VO M₀ as cs M) (h : M a = none) : VO M₀ (as.set i a) (cs.set i o) (M.set a o) := by
  have w := v.junk (o := o) h
  have g : ∀ {j b}, (as.set i a)[j]? = some b → (i ≠ j ∧ as[j]? = some b) ∨ (i = j ∧ b = a ∧ i < cs.length) := fun {j b} e => by
    by_cases hj : i = j
    · subst hj
      have hl := (List.getElem?_eq_some_iff.mp e).1
      rw [List.length_set] at hl
      rw [List.getElem?_set_self hl] at e
      exact .inr ⟨rfl, (Option.some.inj e).symm, v.len ▸ hl⟩
    · rw [List.getElem?_set_ne hj] at e; exact .inl ⟨hj, e⟩
  refine ⟨w.le, fun j b e => ?_, by rw [List.length_set, List.length_set, v.len], fun j b e => ?_, fun j k b e e' => ?_⟩
  · rcases g e with ⟨hj, e⟩ | ⟨rfl, rfl, hl⟩
    · rw [List.getElem?_set_ne hj]; exact w.at_ j b e
    · rw [List.getElem?_set_self hl]; exact Mem.set_self _ _ _
  · rcases g e with ⟨hj, e⟩ | ⟨rfl, rfl, hl⟩
    · exact v.fr j b e
    · exact v.le.none h
  · rcases g e with ⟨hj, e⟩ | ⟨rfl, rfl, hl⟩ <;> rcases g e' with ⟨hk, e'⟩ | ⟨rfl, h', _⟩
    · exact v.inj j k b e e'
    · exact absurd h' (v.ne h e)
    · exact absurd rfl (v.ne h e')
    · rfl
theorem VO.set (v : VO M₀ as cs M) (h : as[i]? = some a) : VO M₀ as (cs.set i o) (M.set a o) := by
  refine ⟨fun b x e => ?_, fun j b e => ?_, by rw [List.length_set]; exact v.len, v.fr, v.inj⟩
  · have hb : b ≠ a := fun z => by rw [z, v.fr i a h] at e; cases e
    exact (Mem.set_ne _ _ hb).trans (v.le b x e)
  · by_cases hj : i = j
    · subst hj
      rw [h] at e
      cases Option.some.inj e
      rw [List.getElem?_set_self (v.len ▸ (List.getElem?_eq_some_iff.mp h).1)]
      exact Mem.set_self _ _ _
    · rw [List.getElem?_set_ne hj, ← v.at_ j b e]
      exact Mem.set_ne _ _ fun z => hj (v.inj i j a h (z ▸ e))
theorem VO.getL (v : VO M₀ (as ++ [a]) (cs ++ [o]) M) : M a = some o := by
  have e : as.length = cs.length := by have := v.len; rw [List.length_append, List.length_append] at this; exact Nat.add_right_cancel this
  exact v.get List.getElem?_concat_length (e ▸ List.getElem?_concat_length)
theorem VO.setL (v : VO M₀ (as ++ [a]) (cs ++ [o]) M) : VO M₀ (as ++ [a]) (cs ++ [o']) (M.set a o') := by
  have e : as.length = cs.length := by have := v.len; rw [List.length_append, List.length_append] at this; exact Nat.add_right_cancel this
  have w := v.set (o := o') (i := as.length) List.getElem?_concat_length
  rw [e, List.set_append_right _ _ (Nat.le_refl _), Nat.sub_self] at w
  exact w
end
end Vg
end
section
set_option autoImplicit false
set_option linter.all false
namespace Vg
open PySem PySem.W PyProof.Rows
structure Gp where
  M₀ : Mem
  f : Int
  r : Int
  b : AV
  cb : AV
  d : Addr
  x6 : Addr
  x7 : Addr
  x8 : Addr
  x9 : Addr
  x10 : Addr
  p0 : Addr
  p1 : Addr
  x11 : Addr
  x12 : Addr
  x13 : Addr
structure Gs where
  fm : List Int
  rm : List Int
  rays : List AV
  kg : List Int
  kn : List Int
  l0 : List Int
  l1 : List Int
  ca : List AV
  lo : List Int
noncomputable def Gs.setFm (s : Gs) (x : List Int) : Gs := { s with fm := x }
noncomputable def Gs.setRm (s : Gs) (x : List Int) : Gs := { s with rm := x }
noncomputable def Gs.setRays (s : Gs) (x : List AV) : Gs := { s with rays := x }
noncomputable def Gs.setKg (s : Gs) (x : List Int) : Gs := { s with kg := x }
noncomputable def Gs.setKn (s : Gs) (x : List Int) : Gs := { s with kn := x }
noncomputable def Gs.setL0 (s : Gs) (x : List Int) : Gs := { s with l0 := x }
noncomputable def Gs.setL1 (s : Gs) (x : List Int) : Gs := { s with l1 := x }
noncomputable def Gs.setCa (s : Gs) (x : List AV) : Gs := { s with ca := x }
noncomputable def Gs.setLo (s : Gs) (x : List Int) : Gs := { s with lo := x }
noncomputable def Gp.set9 (g : Gp) (a : Addr) : Gp := { g with x9 := a }
noncomputable def Gp.set13 (g : Gp) (a : Addr) : Gp := { g with x13 := a }
noncomputable def gs0 : Gs := ⟨[], [], [], [], [], [], [], [], []⟩
noncomputable abbrev fullV (f r : Int) : Int := 1 * 2 ^ (f * r).toNat - 1
noncomputable def gf (g : Gp) : List (Nat × AV) :=
  [(0, .int g.f), (1, .int g.r), (2, .int (g.f * g.r)), (3, .int (fullV g.f g.r)), (4, g.b), (5, g.cb), (6, .ref g.x6), (7, .ref g.x7), (8, .ref g.x8), (9, .ref g.x9), (10, .ref g.x10), (11, .ref g.x11), (12, .ref g.x12), (13, .ref g.x13)]
noncomputable def gA (g : Gp) (more : List Addr) : List Addr := g.d :: g.x6 :: g.x7 :: g.x8 :: g.x9 :: g.x10 :: g.p0 :: g.p1 :: g.x11 :: g.x12 :: g.x13 :: more
noncomputable def gC (g : Gp) (s : Gs) (mc : List AO) : List AO := .flds (gf g) :: iL s.fm :: iL s.rm :: .list s.rays :: iL s.kg :: iL s.kn :: iL s.l0 :: iL s.l1 :: .list [.ref g.p0, .ref g.p1] :: .list s.ca :: iL s.lo :: mc
noncomputable def gV (g : Gp) (more : List Addr) (s : Gs) (mc : List AO) (M : Mem) : Prop := VO g.M₀ (gA g more) (gC g s mc) M
section
variable {M₀ M : Mem} {Q : AV → Mem → Prop} {N : Mem → Prop} {f r : Int} {db cb : Bool} {d a : Addr} {g : Gp} {s : Gs} {more : List Addr} {mc : List AO} {i : Nat} {x : AV} {G : AV → Prop} {xs : List AV} {l : List Int} {k n : Int}
theorem gV.at (v : gV g more s mc M) (e : (gf g).lookup i = some x) (q : G x) : atP M (.inst 0 g.d) i G := atI (c := 0) (VO.get (i := 0) v rfl rfl) e q
theorem gV.a6 (v : gV g more s mc M) : M g.x6 = some (iL s.fm) := VO.get (i := 1) v rfl rfl
theorem gV.a7 (v : gV g more s mc M) : M g.x7 = some (iL s.rm) := VO.get (i := 2) v rfl rfl
theorem gV.a8 (v : gV g more s mc M) : M g.x8 = some (.list s.rays) := VO.get (i := 3) v rfl rfl
theorem gV.a9 (v : gV g more s mc M) : M g.x9 = some (iL s.kg) := VO.get (i := 4) v rfl rfl
theorem gV.a10 (v : gV g more s mc M) : M g.x10 = some (iL s.kn) := VO.get (i := 5) v rfl rfl
theorem gV.ap0 (v : gV g more s mc M) : M g.p0 = some (iL s.l0) := VO.get (i := 6) v rfl rfl
theorem gV.ap1 (v : gV g more s mc M) : M g.p1 = some (iL s.l1) := VO.get (i := 7) v rfl rfl
theorem gV.a11 (v : gV g more s mc M) : M g.x11 = some (.list [.ref g.p0, .ref g.p1]) := VO.get (i := 8) v rfl rfl
theorem gV.a12 (v : gV g more s mc M) : M g.x12 = some (.list s.ca) := VO.get (i := 9) v rfl rfl
theorem gV.a13 (v : gV g more s mc M) : M g.x13 = some (iL s.lo) := VO.get (i := 10) v rfl rfl
theorem gV.ml (v : gV g more s mc M) : more.length = mc.length := Nat.add_right_cancel (m := 11) (VO.len v)
theorem lpI {l : List Int} (h : M a = some (iL l)) : listP M (.ref a) fun zz => True := ⟨_, h, trivial⟩
theorem iL_app {l : List Int} {x : Int} : iL (l ++ [x]) = .list (l.map .int ++ [.int x]) := by unfold iL; rw [List.map_append]; rfl
theorem gV.s6 (v : gV g more s mc M) : gV g more (s.setFm l) mc (M.set g.x6 (iL l)) := VO.set (i := 1) v rfl
theorem gV.s7 (v : gV g more s mc M) : gV g more (s.setRm l) mc (M.set g.x7 (iL l)) := VO.set (i := 2) v rfl
theorem gV.s8 (v : gV g more s mc M) : gV g more (s.setRays xs) mc (M.set g.x8 (.list xs)) := VO.set (i := 3) v rfl
theorem gV.s9 (v : gV g more s mc M) : gV g more (s.setKg l) mc (M.set g.x9 (iL l)) := VO.set (i := 4) v rfl
theorem gV.s10 (v : gV g more s mc M) : gV g more (s.setKn l) mc (M.set g.x10 (iL l)) := VO.set (i := 5) v rfl
theorem gV.sp0 (v : gV g more s mc M) : gV g more (s.setL0 l) mc (M.set g.p0 (iL l)) := VO.set (i := 6) v rfl
theorem gV.sp1 (v : gV g more s mc M) : gV g more (s.setL1 l) mc (M.set g.p1 (iL l)) := VO.set (i := 7) v rfl
theorem gV.s12 (v : gV g more s mc M) : gV g more (s.setCa xs) mc (M.set g.x12 (.list xs)) := VO.set (i := 9) v rfl
theorem gV.s13 (v : gV g more s mc M) : gV g more (s.setLo l) mc (M.set g.x13 (iL l)) := VO.set (i := 10) v rfl
theorem apI {T : Mem → Prop} (h : M a = some (iL l)) (hl : l.length ≤ 1000) (t : T (M.set a (iL (l ++ [n])))) (q : ∀ M', T M' → Q .none M') : meP M .append (.ref a) (.int n) Q :=
  ⟨_, h, by rw [List.length_map]; exact Nat.le_trans hl (by decide), by rw [← iL_app]; exact q _ t⟩
theorem apX {T : Mem → Prop} (h : M a = some (.list xs)) (hl : xs.length ≤ 1000) (t : T (M.set a (.list (xs ++ [x])))) (q : ∀ M', T M' → Q .none M') : meP M .append (.ref a) x Q :=
  ⟨_, h, Nat.le_trans hl (by decide), q _ t⟩
theorem setT {T : Mem → Prop} (h : M a = some (iL l)) (hi : Ix k l.length) (t : T (M.set a (iL (sz l k n)))) (q : ∀ M', T M' → N M') : setSubP M (.ref a) (.int k) (.int n) N := setI h hi (q _ t)
theorem gV.rep9 (v : gV g more s mc M) (h : M a = none) (q : ∀ M', gV (g.set9 a) more (s.setKg l) mc M' → N M') : setAtP (M.set a (iL l)) (.inst 0 g.d) 9 (.ref a) N := by
  have w := VO.rep (i := 4) (o := iL l) v h
  exact ⟨_, VO.get (i := 0) w rfl rfl, nle rfl, q _ (VO.set (i := 0) (o := .flds (setF 9 (.ref a) (gf g))) w rfl)⟩
theorem gV.rep13 (v : gV g more s mc M) (h : M a = none) (q : ∀ M', gV (g.set13 a) more (s.setLo l) mc M' → N M') : setAtP (M.set a (iL l)) (.inst 0 g.d) 13 (.ref a) N := by
  have w := VO.rep (i := 10) (o := iL l) v h
  exact ⟨_, VO.get (i := 0) w rfl rfl, nle rfl, q _ (VO.set (i := 0) (o := .flds (setF 13 (.ref a) (gf g))) w rfl)⟩
theorem gV.junk {o : AO} (v : gV g more s mc M) (h : M a = none) : gV g more s mc (M.set a o) := VO.junk v h
theorem voSet {as : List Addr} {cs : List AO} {fs : List (Nat × AV)} {i : Nat} {x : AV} {P : Mem → Prop} (v : VO M₀ (d :: as) (.flds fs :: cs) M) (h : fs.length ≤ 100) (q : ∀ M', VO M₀ (d :: as) (.flds (setF i x fs) :: cs) M' → P M') : setAtP M (.inst 0 d) i x P := ⟨fs, v.get (i := 0) rfl rfl, h, q _ (v.set (i := 0) rfl)⟩
noncomputable abbrev g5 (f r full : Int) (b : Bool) : List (Nat × AV) := [(0, .int f), (1, .int r), (2, .int (f * r)), (3, .int full), (4, .bool b)]
theorem C_geo5 {b : Bool} {v3 : AV} {N B : List AV → Mem → Prop} {R : AV → Mem → Prop} (v : VO M₀ [d] [.flds (g5 f r (fullV f r) b)] M) (q : ∀ M' x6 x7 x8 x9 x10 p0 p1 x11 x12 x13, gV ⟨M₀, f, r, .bool b, .bool cb, d, x6, x7, x8, x9, x10, p0, p1, x11, x12, x13⟩ [] gs0 [] M' → N [.inst 0 d, .int f, .int r, v3, .bool cb] M') :
    q_Geometry_5 [.inst 0 d, .int f, .int r, v3, .bool cb] M N B R :=
  voSet v (nle rfl) fun M v => .intro (nle rfl) fun x6 h => voSet (v.new h) (nle rfl) fun M v => .intro (nle rfl) fun x7 h => voSet (v.new h) (nle rfl) fun M v => .intro (nle rfl) fun x8 h => voSet (v.new h) (nle rfl) fun M v => .intro (nle rfl) fun x9 h => voSet (v.new h) (nle rfl) fun M v => .intro (nle rfl) fun x10 h => voSet (v.new h) (nle rfl) fun M v =>
    .intro (nle rfl) fun p0 h0 => .intro (nle rfl) fun p1 h1 => .intro (nle rfl) fun x11 h => voSet (((v.new h0).new h1).new h) (nle rfl) fun M v => .intro (nle rfl) fun x12 h => voSet (v.new h) (nle rfl) fun M v => .intro (nle rfl) fun x13 h => voSet (v.new h) (nle rfl) fun M v => q _ _ _ _ _ _ _ _ _ _ _ v
theorem C_Geometry (hs : Sh f r) (v : VO M₀ [d] [.flds []] M) (q : ∀ M' (g : Gp), g.M₀ = M₀ → g.f = f → g.r = r → g.cb = .bool cb → g.d = d → gV g [] gs0 [] M' → Q .none M') :
    t_Geometry [.inst 0 d, .int f, .int r, .bool db, .bool cb] M Q := by
  have sf : sm f := by cases hs <;> exact smc rfl
  have sfr := hs.le
  have t : ∀ b M', VO M₀ [d] [.flds (g5 f r (fullV f r) b)] M' → q_Geometry_5 [.inst 0 d, .int f, .int r, .bool db, .bool cb] M' (XN M Q) XB (XR M Q) := fun b M' v => C_geo5 v fun M' x6 x7 x8 x9 x10 p0 p1 x11 x12 x13 v => XN.mk (q _ _ rfl rfl rfl rfl rfl v)
  exact fnT.gs u_Geometry rfl <| voSet v (nle rfl) fun M v => voSet v (nle rfl) fun M v => .intro sf <| voSet v (nle rfl) fun M v => .intro sf <| .intro (smc rfl) <| .intro (by omega) <| .intro (by omega) <| voSet v (nle rfl) fun M v =>
    .intro (fun _ u _ => voSet v (nle rfl) fun M v => t u M v) fun zz => voSet v (nle rfl) fun M v => t db M v
end
end Vg
end
section
set_option autoImplicit false
set_option linter.all false
namespace Vg
open PySem PySem.W PyProof.Rows
theorem sh_bd {k : Int} (h0 : 0 ≤ k) (h : k < 40) : (0 : Int) ≤ 1 * 2 ^ k.toNat ∧ (1 : Int) * 2 ^ k.toNat < 2 ^ 40 := by
  obtain ⟨n, rfl⟩ := Int.eq_ofNat_of_zero_le h0
  have hn : n < 40 := by omega
  rw [Int.one_mul, Int.toNat_natCast]
  exact ⟨Int.le_of_lt (Int.pow_pos (by decide)), Int.pow_lt_pow_of_lt (by decide) hn⟩
theorem or_bd {a b : Int} {n : Nat} (ha : 0 ≤ a ∧ a < 2 ^ n) (hb : 0 ≤ b ∧ b < 2 ^ n) : 0 ≤ Builtin.bitOr a b ∧ Builtin.bitOr a b < 2 ^ n := by
  obtain ⟨x, rfl⟩ := Int.eq_ofNat_of_zero_le ha.1
  obtain ⟨y, rfl⟩ := Int.eq_ofNat_of_zero_le hb.1
  rw [bitOr_nat]
  have e : ∀ z : Nat, (z : Int) < 2 ^ n ↔ z < 2 ^ n := fun z => by rw [← Int.ofNat_lt]; simp
  exact ⟨Int.natCast_nonneg _, (e _).mpr (Nat.or_lt_two_pow ((e _).mp ha.2) ((e _).mp hb.2))⟩
noncomputable def colV (f : Int) (n : Nat) : Int := Nat.rec 0 (fun i c => Builtin.bitOr c (1 * 2 ^ ((i : Int) * f).toNat)) n
noncomputable def rmV (f : Int) (n : Nat) : List Int := (List.range n).map fun (i : Nat) => (1 * 2 ^ f.toNat - 1) * 2 ^ ((i : Int) * f).toNat
noncomputable def fmV (c : Int) (n : Nat) : List Int := (List.range n).map fun (i : Nat) => c * 2 ^ (i : Int).toNat
theorem rmV_succ {f : Int} {n : Nat} : rmV f (n + 1) = rmV f n ++ [(1 * 2 ^ f.toNat - 1) * 2 ^ ((n : Int) * f).toNat] := by unfold rmV; rw [List.range_succ, List.map_append]; rfl
theorem fmV_succ {c : Int} {n : Nat} : fmV c (n + 1) = fmV c n ++ [c * 2 ^ (n : Int).toNat] := by unfold fmV; rw [List.range_succ, List.map_append]; rfl
theorem rmV_len {f : Int} {n : Nat} : (rmV f n).length = n := by unfold rmV; rw [List.length_map, List.length_range]
theorem fmV_len {c : Int} {n : Nat} : (fmV c n).length = n := by unfold fmV; rw [List.length_map, List.length_range]
theorem sh_row {f r : Int} (hs : Sh f r) : sm (1 * 2 ^ f.toNat - 1) := by cases hs <;> exact smc rfl
theorem sh_mul {f r : Int} {i : Nat} (hs : Sh f r) (hi : Ix (i : Int) r.toNat) : 0 ≤ (i : Int) * f ∧ (i : Int) * f ≤ 36 := by
  have hi := hi.2
  cases hs <;> constructor <;> lia
theorem ix_sm {i n : Nat} (h : n ≤ 100) (hi : Ix (i : Int) n) : sm (i : Int) ∧ (i : Int) ≤ 1000 ∧ i ≤ 1000 := by
  have hi := Nat.le_trans (Nat.le_of_lt hi.2) h
  exact ⟨⟨Int.le_trans (by decide) (Int.natCast_nonneg i), Int.le_trans (Int.ofNat_le.mpr hi) (by decide)⟩, Int.le_trans (Int.ofNat_le.mpr hi) (by decide), Nat.le_trans hi (by decide)⟩
theorem Sh.sm6 {f r : Int} (hs : Sh f r) : r.toNat ≤ 100 ∧ f.toNat ≤ 100 ∧ (f * r).toNat ≤ 100 := by cases hs <;> decide
theorem Sh.nn {f r : Int} (hs : Sh f r) : (0 ≤ f ∧ f ≤ 100) ∧ (0 ≤ r ∧ r ≤ 100) ∧ 0 ≤ f * r ∧ f * r ≤ 20 := by cases hs <;> decide
section
variable {M : Mem} {Q : AV → Mem → Prop} {N B : List AV → Mem → Prop} {R : AV → Mem → Prop} {g : Gp} {x0 x3 x4 : AV} {i : Nat} {c : Int} {s : Gs}
theorem C_mask1 (hs : Sh g.f g.r) (hi : Ix (i : Int) g.r.toNat) (v : gV g [] (gs0.setRm (rmV g.f i)) [] M)
    (q : ∀ M', gV g [] (gs0.setRm (rmV g.f (i + 1))) [] M' → N [.inst 0 g.d, .int (1 * 2 ^ g.f.toNat - 1), .int (Builtin.bitOr c (1 * 2 ^ ((i : Int) * g.f).toNat)), .int i, x4] M') : w_add_masks_1 [.inst 0 g.d, .int (1 * 2 ^ g.f.toNat - 1), .int c, .int i, x4] M N B R :=
  have sh := sh_mul hs hi
  have si := ix_sm hs.sm6.1 hi
  v.at rfl <| .intro (lpI v.a7) <| v.at rfl <| .intro si.1 <| .intro (sh_row hs) <| .intro sh.1 <| .intro (Int.le_trans sh.2 (by decide)) <| apI (T := gV g [] (gs0.setRm (rmV g.f (i + 1))) []) v.a7 (rmV_len.symm ▸ si.2.2) (rmV_succ ▸ v.s7) fun M' v => .intro trivial <| v.at rfl <| .intro si.1 <| .intro (smc rfl) <| .intro sh.1 <| .intro (Int.le_trans sh.2 (by decide)) <| q _ v
theorem C_mask2 (hs : Sh g.f g.r) (hi : Ix (i : Int) g.f.toNat) (hc : sm c) (v : gV g [] ((gs0.setRm (rmV g.f g.r.toNat)).setFm (fmV c i)) [] M)
    (q : ∀ M', gV g [] ((gs0.setRm (rmV g.f g.r.toNat)).setFm (fmV c (i + 1))) [] M' → N [.inst 0 g.d, x0, .int c, x3, .int i] M') : w_add_masks_2 [.inst 0 g.d, x0, .int c, x3, .int i] M N B R :=
  have si := ix_sm hs.sm6.2.1 hi
  v.at rfl <| .intro (lpI v.a6) <| .intro hc <| .intro hi.1 <| .intro si.2.1 <| apI (T := gV g [] ((gs0.setRm (rmV g.f g.r.toNat)).setFm (fmV c (i + 1))) []) v.a6 (fmV_len.symm ▸ si.2.2) (fmV_succ ▸ v.s6) fun M' v => .intro trivial <| q _ v
noncomputable abbrev masks (g : Gp) : Gs := (gs0.setRm (rmV g.f g.r.toNat)).setFm (fmV (colV g.f g.r.toNat) g.f.toNat)
theorem C_add_masks (hs : Sh g.f g.r) (v : gV g [] gs0 [] M) (q : ∀ M', gV g [] (masks g) [] M' → Q .none M') : t_add_masks [.inst 0 g.d] M Q := by
  have nn := hs.nn
  refine fnT.gs u_add_masks rfl <| v.at rfl <| .intro (smc rfl) <| .intro nn.1.1 <| .intro (Int.le_trans nn.1.2 (by decide)) <| v.at rfl <| .intro (okr15 nn.2.1.1 nn.2.1.2) <|
    for0 (fun i m M' => (∃ v3 v4, m = [.inst 0 g.d, .int (1 * 2 ^ g.f.toNat - 1), .int (colV g.f i), v3, v4]) ∧ (0 ≤ colV g.f i ∧ colV g.f i < 2 ^ 40) ∧ gV g [] (gs0.setRm (rmV g.f i)) [] M') ⟨⟨_, _, rfl⟩, ⟨Int.le_refl 0, (by decide : (0 : Int) < 2 ^ 40)⟩, v⟩ ?_ ?_
  · rintro i _ M' hi ⟨⟨v3, v4, rfl⟩, hc, v⟩
    have sh := sh_mul hs hi
    exact C_mask1 hs hi v fun M' v => ⟨trivial, ⟨_, _, rfl⟩, or_bd hc (sh_bd sh.1 (by omega)), v⟩
  · rintro _ M' ⟨⟨v3, v4, rfl⟩, hc, v⟩
    have sc : sm (colV g.f g.r.toNat) := ⟨by omega, by omega⟩
    refine v.at rfl <| .intro (okr15 nn.1.1 nn.1.2) <| for0 (fun i m M' => (∃ v3 v4, m = [.inst 0 g.d, .int (1 * 2 ^ g.f.toNat - 1), .int (colV g.f g.r.toNat), v3, v4]) ∧ gV g [] ((gs0.setRm (rmV g.f g.r.toNat)).setFm (fmV (colV g.f g.r.toNat) i)) [] M') ⟨⟨_, _, rfl⟩, v⟩ ?_ ?_
    · rintro i _ M' hi ⟨⟨v3, v4, rfl⟩, v⟩
      exact C_mask2 hs hi sc v fun M' v => ⟨trivial, ⟨_, _, rfl⟩, v⟩
    · rintro _ M' ⟨⟨v3, v4, rfl⟩, v⟩
      exact XN.mk (q _ v)
end
end Vg
end
section
set_option autoImplicit false
set_option linter.all false
namespace Vg
open PySem PySem.W PyProof.Rows
section
variable {M : Mem} {Q : AV → Mem → Prop} {N B : List AV → Mem → Prop} {R : AV → Mem → Prop} {f r full k : Int} {g : Gp} {more : List Addr} {mc : List AO} {s : Gs} {fm rm : List Int}
theorem step8 {k : Int} (hk : 0 ≤ k ∧ k < 8) (l : List Int) (hl : l.length = 8) : Ix k l.length := hl ▸ ⟨hk.1, by omega⟩
noncomputable def in2 (fm : List Int) (f k e : Int) : Int := if 0 < gz stepFiles k then Builtin.bitOr e (gz fm (f - 1)) else e
noncomputable def in3 (fm : List Int) (k e : Int) : Int := if gz stepFiles k < 0 then Builtin.bitOr e (gz fm 0) else e
noncomputable def in4 (rm : List Int) (r k e : Int) : Int := if 0 < gz stepRanks k then Builtin.bitOr e (gz rm (r - 1)) else e
noncomputable def in5 (rm : List Int) (k e : Int) : Int := if gz stepRanks k < 0 then Builtin.bitOr e (gz rm 0) else e
noncomputable def inV (full : Int) (fm rm : List Int) (f r k : Int) : Int := Builtin.bitAnd full (Builtin.bitNot (in5 rm k (in4 rm r k (in3 fm k (in2 fm f k 0)))))
theorem Sh.ix {f r : Int} (hs : Sh f r) : (∀ l : List Int, l.length = f.toNat → Ix 0 l.length ∧ Ix (f - 1) l.length ∧ Ix 1 l.length ∧ Ix (f - 2) l.length) ∧ ∀ l : List Int, l.length = r.toNat → Ix 0 l.length ∧ Ix (r - 1) l.length := by
  cases hs <;> exact ⟨fun l e => e ▸ by decide, fun l e => e ▸ by decide⟩
theorem C_inner_squares (v : gV g more s mc M) (hs : Sh g.f g.r) (hf : s.fm.length = g.f.toNat) (hr : s.rm.length = g.r.toNat) (hk : 0 ≤ k ∧ k < 8)
    (q : Q (.int (inV (fullV g.f g.r) s.fm s.rm g.f g.r k)) M) : t_inner_squares [.inst 0 g.d, .int k] M Q := by
  have kf : Ix k stepFiles.length := step8 hk _ rfl
  have kr : Ix k stepRanks.length := step8 hk _ rfl
  have xf := hs.ix.1 _ hf
  have xr := hs.ix.2 _ hr
  generalize hE : in5 s.rm k (in4 s.rm g.r k (in3 s.fm k (in2 s.fm g.f k 0))) = E5 at *
  have t5 : ∀ e, E5 = e → q_inner_squares_5 [.inst 0 g.d, .int k, .int e] M (XN M Q) XB (XR M Q) := fun e z => by cases z; exact v.at rfl <| XR.mk (by unfold inV at q; rw [hE] at q; exact q)
  generalize hE4 : in4 s.rm g.r k (in3 s.fm k (in2 s.fm g.f k 0)) = E4 at *
  have t4 : ∀ e, E4 = e → q_inner_squares_4 [.inst 0 g.d, .int k, .int e] M (XN M Q) XB (XR M Q) := fun e z => by cases z; exact subL kr <| .intro (fun h => v.at rfl <| subI v.a7 xr.1 <| t5 _ (hE.symm.trans (if_pos h))) fun h => t5 _ (hE.symm.trans (if_neg h))
  generalize hE3 : in3 s.fm k (in2 s.fm g.f k 0) = E3 at *
  have t3 : ∀ e, E3 = e → q_inner_squares_3 [.inst 0 g.d, .int k, .int e] M (XN M Q) XB (XR M Q) := fun e z => by cases z; exact subL kr <| .intro (fun h => v.at rfl <| v.at rfl <| subI v.a7 xr.2 <| t4 _ (hE4.symm.trans (if_pos h))) fun h => t4 _ (hE4.symm.trans (if_neg h))
  generalize hE2 : in2 s.fm g.f k 0 = E2 at *
  have t2 : ∀ e, E2 = e → q_inner_squares_2 [.inst 0 g.d, .int k, .int e] M (XN M Q) XB (XR M Q) := fun e z => by cases z; exact subL kf <| .intro (fun h => v.at rfl <| subI v.a6 xf.1 <| t3 _ (hE3.symm.trans (if_pos h))) fun h => t3 _ (hE3.symm.trans (if_neg h))
  exact fnT.gs u_inner_squares rfl <| subL kf <| .intro (fun h => v.at rfl <| v.at rfl <| subI v.a6 xf.2.1 <| t2 _ (hE2.symm.trans (if_pos h))) fun h => t2 _ (hE2.symm.trans (if_neg h))
theorem in_ok1 {c : Bool} {P : Prop} [Decidable P] (h : (!c || decide P) = true) (e : c = true) : P := by subst e; exact of_decide_eq_true h
noncomputable def stepD (f k : Int) : Int := gz stepRanks k * f + gz stepFiles k
noncomputable def inOK (f r : Int) (k s : Nat) : Bool := !(decide (Builtin.bitAnd (inV (fullV f r) (fmV (colV f r.toNat) f.toNat) (rmV f r.toNat) f r (k : Int) / 2 ^ (s : Int).toNat) 1 ≠ 0)) || decide (0 ≤ (s : Int) + stepD f (k : Int) ∧ (s : Int) + stepD f (k : Int) < f * r)
theorem in_all {f r : Int} (hs : Sh f r) : (List.range 8).all (fun k => (List.range (f * r).toNat).all (inOK f r k)) = true := by cases hs <;> decide +kernel
theorem in_goal {f r k s : Int} (hs : Sh f r) (hk : 0 ≤ k ∧ k < 8) (hi : Ix s (f * r).toNat) (h : Builtin.bitAnd (inV (fullV f r) (fmV (colV f r.toNat) f.toNat) (rmV f r.toNat) f r k / 2 ^ s.toNat) 1 ≠ 0) : 0 ≤ s + stepD f k ∧ s + stepD f k < f * r := by
  have a := List.all_eq_true.mp (List.all_eq_true.mp (in_all hs) k.toNat (List.mem_range.mpr (by omega))) s.toNat (List.mem_range.mpr hi.2)
  have e1 : (k.toNat : Int) = k := Int.toNat_of_nonneg hk.1
  have e2 : (s.toNat : Int) = s := Int.toNat_of_nonneg hi.1
  unfold inOK at a
  rw [e1, e2] at a
  exact in_ok1 a (decide_eq_true h)
end
end Vg
end
section
set_option autoImplicit false
set_option linter.all false
namespace Vg
open PySem PySem.W PyProof.Rows
section
variable {b : St} {m : List AV} {M : Mem} {N : List AV → Mem → Prop} {R : AV → Mem → Prop} {t : Nat} {n : Nat} {u w c : Int}
theorem forR (hx : ∀ x ∈ rngL u w c, ∃ i : Int, x = .int i ∧ Ix i n) (I : List AV → Mem → Prop) (h0 : I m M) (hs : ∀ (i : Int) m M, Ix i n → I m M → b (m.set t (.int i)) M (fun m M => True ∧ I m M) N R) (he : ∀ m M, I m M → N m M) :
    forP (.v t) b (.rng u w c) (rngL u w c) m M N R :=
  ⟨fun zz => I, h0, fun i x m M e h => by obtain ⟨j, rfl, hj⟩ := hx x (List.mem_of_getElem? e); exact hs j m M hj h, fun m M h => he m M h⟩
theorem rng_up {k : Int} : ∀ x ∈ rngL 0 k 1, ∃ i : Int, x = .int i ∧ Ix i k.toNat := fun x hx => by
  rw [rngL, if_pos rfl] at hx
  obtain ⟨i, hi, rfl⟩ := List.mem_map.mp hx
  have := List.mem_range.mp hi
  exact ⟨_, rfl, by constructor <;> lia⟩
theorem rng_dn {k : Int} : ∀ x ∈ rngL (k - 1) (-1) (-1), ∃ i : Int, x = .int i ∧ Ix i k.toNat := fun x hx => by
  rw [rngL, if_neg (by decide)] at hx
  obtain ⟨i, hi, rfl⟩ := List.mem_map.mp hx
  have := List.mem_range.mp hi
  exact ⟨_, rfl, by constructor <;> omega⟩
end
theorem refv {i : Nat} {m : List AV} {M : Mem} {a : Addr} {N : AV → Mem → Prop} (e : m.getD i .undef = .ref a) (q : N (.ref a) M) : (X.v i).e m M N := show defd (m.getD i .undef) _ by rw [e]; exact q
noncomputable def RaysOK (n : Nat) (rays : List AV) (more : List Addr) (mc : List AO) : Prop := ∀ x ∈ rays, ∃ (i : Nat) (a : Addr) (l : List Int), x = .ref a ∧ more[i]? = some a ∧ mc[i]? = some (iL l) ∧ l.length = n
theorem RaysOK.app {n : Nat} {rays : List AV} {more : List Addr} {mc : List AO} {a : Addr} {l : List Int} (h : RaysOK n rays more mc) (e : more.length = mc.length) (hl : l.length = n) : RaysOK n (rays ++ [.ref a]) (more ++ [a]) (mc ++ [iL l]) := fun x hx => by
  rcases List.mem_append.mp hx with hx | hx
  · refine go1 fun G hG => ?_
    obtain ⟨i, b, k, rfl, e1, e2, e3⟩ := h x hx
    refine hG ?_
    exact ⟨i, b, k, rfl, (List.getElem?_append_left (List.getElem?_eq_some_iff.mp e1).1).trans e1, (List.getElem?_append_left (List.getElem?_eq_some_iff.mp e2).1).trans e2, e3⟩
  · exact ⟨more.length, a, l, List.mem_singleton.mp hx, List.getElem?_concat_length, e ▸ List.getElem?_concat_length, hl⟩
section
variable {M : Mem} {Q : AV → Mem → Prop} {N B : List AV → Mem → Prop} {R : AV → Mem → Prop} {k : Int} {g : Gp} {s : Gs} {a : Addr} {more : List Addr} {mc : List AO} {ray kg : List Int} {rays : List AV}
theorem C_is_growing (hk : 0 ≤ k ∧ k < 8) (q : ∀ c : Bool, Q (.bool c) M) : t_is_growing [.int k] M Q :=
  fnT.gs u_is_growing rfl <| subL (step8 hk _ rfl) fun c _ => .intro (fun zz => XR.mk (q _)) fun _ c _ => XR.mk (q c)
theorem gV.getL (v : gV g (more ++ [a]) s (mc ++ [iL ray]) M) : M a = some (iL ray) := VO.getL (as := gA g more) (cs := gC g s mc) v
theorem gV.setL {l : List Int} (v : gV g (more ++ [a]) s (mc ++ [iL ray]) M) : gV g (more ++ [a]) s (mc ++ [iL l]) (M.set a (iL l)) := VO.setL (as := gA g more) (cs := gC g s mc) v
theorem gV.new {o : AO} (v : gV g more s mc M) (h : M a = none) : gV g (more ++ [a]) s (mc ++ [o]) (M.set a o) := VO.new (as := gA g more) (cs := gC g s mc) v h
theorem goal_ix2 {x n : Int} {l : List Int} (hl : n ≤ 20) (h : 0 ≤ x ∧ x < n) (e : l.length = n.toNat) : Ix x l.length ∧ x ≤ 1000 := ⟨e ▸ ixT h.1 h.2, Int.le_trans (Int.le_of_lt h.2) (Int.le_trans hl (by decide))⟩
noncomputable def rayI (g : Gp) (more : List Addr) (mc : List AO) (a : Addr) (k inn dl : Int) (v5 : AV) (rays : List AV) (m : List AV) (M : Mem) : Prop :=
  ∃ v6 v7 kg ray, m = [.inst 0 g.d, .int k, .int inn, .int dl, .ref a, v5, v6, v7] ∧ kg.length = (g.f * g.r).toNat ∧ ray.length = (g.f * g.r).toNat ∧ gV g (more ++ [a]) (((masks g).setKg kg).setRays rays) (mc ++ [iL ray]) M
theorem ray_body (hs : Sh g.f g.r) {inn dl i : Int} {v7 v5 : AV} (hg : Builtin.bitAnd (inn / 2 ^ i.toNat) 1 ≠ 0 → 0 ≤ i + dl ∧ i + dl < g.f * g.r) (hi : Ix i (g.f * g.r).toNat) (hk : s.kg.length = (g.f * g.r).toNat) (hr : ray.length = (g.f * g.r).toNat) (v : gV g (more ++ [a]) s (mc ++ [iL ray]) M)
    (q : ∀ M' v7 kg ray, kg.length = (g.f * g.r).toNat → ray.length = (g.f * g.r).toNat → gV g (more ++ [a]) (s.setKg kg) (mc ++ [iL ray]) M' → N [.inst 0 g.d, .int k, .int inn, .int dl, .ref a, v5, .int i, v7] M') :
    w_add_rays_1 [.inst 0 g.d, .int k, .int inn, .int dl, .ref a, v5, .int i, v7] M N B R := by
  refine .intro hi.1 <| .intro (fun h => ?_) fun zz => q _ _ _ _ hk hr v
  have g1 := hg h
  have gi := goal_ix2 hs.nn.2.2.2 g1 hr
  exact subI v.getL gi.1 <| .intro (smc rfl) <| .intro g1.1 <| .intro gi.2 <| setT (T := gV g (more ++ [a]) s (mc ++ [_])) v.getL (hr ▸ hi) v.setL fun M v => v.at rfl <| subI v.a9 (hk ▸ hi) <| .intro (smc rfl) <| .intro g1.1 <| .intro gi.2 <| setT v.a9 (hk ▸ hi) v.s9 fun M v => q _ _ _ _ (sz_len.trans hk) (sz_len.trans hr) v
theorem step_sm {i : Nat} (hi : i < 8) : sm (gz stepRanks (i : Int)) := by
  have h : ∀ i : Fin 8, decide (-1000000 ≤ gz stepRanks (i.val : Int) ∧ gz stepRanks (i.val : Int) ≤ 1000000) = true := by decide
  exact smc (h ⟨i, hi⟩)
noncomputable abbrev inM (g : Gp) (k : Int) : Int := inV (fullV g.f g.r) (fmV (colV g.f g.r.toNat) g.f.toNat) (rmV g.f g.r.toNat) g.f g.r k
noncomputable def dirI (g : Gp) (i : Nat) (M : Mem) : Prop := ∃ more mc rays kg, kg.length = (g.f * g.r).toNat ∧ RaysOK (g.f * g.r).toNat rays more mc ∧ rays.length = i ∧ gV g more (((masks g).setKg kg).setRays rays) mc M
theorem rays_fin (hs : Sh g.f g.r) {i : Nat} {u w c : Int} {v6 v7 : AV} (h8 : rays.length = i) (k8 : 0 ≤ (i : Int) ∧ (i : Int) < 8) (hro : RaysOK (g.f * g.r).toNat rays more mc) (e : more.length = mc.length) (hk : kg.length = (g.f * g.r).toNat) (hr : ray.length = (g.f * g.r).toNat) (hx : ∀ x ∈ rngL u w c, ∃ i : Int, x = .int i ∧ Ix i (g.f * g.r).toNat)
    (v : gV g (more ++ [a]) (((masks g).setKg kg).setRays rays) (mc ++ [iL ray]) M) (q : ∀ M' v6 v7, dirI g (i + 1) M' → N [.inst 0 g.d, .int i, .int (inM g i), .int (stepD g.f i), .ref a, .rng u w c, v6, v7] M') :
    w_add_rays_2_5 [.inst 0 g.d, .int i, .int (inM g i), .int (stepD g.f i), .ref a, .rng u w c, v6, v7] M N B R := by
  refine forR hx (rayI g more mc a i (inM g i) (stepD g.f i) (.rng u w c) rays) ⟨_, _, _, _, rfl, hk, hr, v⟩ ?_ ?_
  · rintro j _ M' hj hh
    refine go1 fun G hG => ?_
    obtain ⟨v6, v7, kg, ray, rfl, hk, hr, v⟩ := hh
    refine hG ?_
    exact ray_body hs (in_goal hs k8 hj) hj hk hr v fun M' v7 kg ray hk hr v => ⟨trivial, _, _, kg, ray, rfl, hk, hr, v⟩
  · rintro _ M' hh
    refine go1 fun G hG => ?_
    obtain ⟨v6, v7, kg, ray, rfl, hk, hr, v⟩ := hh
    refine hG ?_
    exact v.at rfl <| .intro ⟨_, v.a8, trivial⟩ <| refv rfl <| apX (T := gV g (more ++ [a]) (((masks g).setKg kg).setRays (rays ++ [AV.ref a])) (mc ++ [iL ray])) v.a8 (by show rays.length ≤ 1000; omega) v.s8 fun M' v => .intro trivial <| q _ _ _ ⟨_, _, rays ++ [AV.ref a], kg, hk, hro.app e hr, by rw [List.length_append, h8]; rfl, v⟩
theorem ray_dir (hs : Sh g.f g.r) {i : Nat} {v2 v3 v4 v5 v6 v7 : AV} (hi : Ix (i : Int) 8) (D : dirI g i M) (q : ∀ M' v2 v3 v4 v5 v6 v7, dirI g (i + 1) M' → N [.inst 0 g.d, .int i, v2, v3, v4, v5, v6, v7] M') :
    w_add_rays_2 [.inst 0 g.d, .int i, v2, v3, v4, v5, v6, v7] M N B R := by
  refine go1 fun G hG => ?_
  obtain ⟨more, mc, rays, kg, hk, hro, h8, v⟩ := D
  refine hG ?_
  have nn := hs.nn.2.2
  have k8 : 0 ≤ (i : Int) ∧ (i : Int) < 8 := ⟨hi.1, Int.ofNat_lt.mpr hi.2⟩
  refine C_inner_squares v hs fmV_len rmV_len k8 <| subL (step8 k8 _ rfl) <| v.at rfl <| .intro (step_sm hi.2) <| subL (step8 k8 _ rfl) <| .intro (nle rfl) fun z hz => (v.junk hz).at rfl <| mul0 (Mem.set_self _ _ _) nn.1 (Int.le_trans nn.2 (by decide)) fun a ha => ?_
  have v1 := v.junk (o := .list [.int 0]) hz
  have v2 := v1.new (o := iL (List.replicate (g.f * g.r).toNat 0)) ha
  have go : ∀ {u w c : Int}, (∀ x ∈ rngL u w c, ∃ i : Int, x = .int i ∧ Ix i (g.f * g.r).toNat) → w_add_rays_2_5 [.inst 0 g.d, .int i, .int (inM g i), .int (stepD g.f i), .ref a, .rng u w c, v6, v7] _ N B R := fun hx => rays_fin hs h8 k8 hro v1.ml hk List.length_replicate hx v2 fun M' v6 v7 D => q _ _ _ _ _ _ _ D
  exact v2.at rfl <| .intro (okr15 nn.1 (Int.le_trans nn.2 (by decide))) <| C_is_growing k8 fun c => .intro (fun zz => v2.at rfl <| .intro ⟨by omega, by omega⟩ <| .intro ⟨by decide, by decide⟩ <| .intro rfl <| go rng_dn) fun zz => go rng_up
inductive RdM (g : Gp) : List AV → Prop
  | mk (x v2 v3 v4 v5 v6 v7 : AV) : RdM g [.inst 0 g.d, x, v2, v3, v4, v5, v6, v7]
theorem C_add_rays (hs : Sh g.f g.r) (v : gV g [] (masks g) [] M) (q : ∀ M' x9, dirI (g.set9 x9) 8 M' → Q .none M') : t_add_rays [.inst 0 g.d] M Q := by
  have nn := hs.nn.2.2
  refine fnT.gs u_add_rays rfl <| .intro (nle rfl) fun z hz => (v.junk hz).at rfl <| mul0 (Mem.set_self _ _ _) nn.1 (Int.le_trans nn.2 (by decide)) fun a ha => (v.junk hz).rep9 ha fun M' v => .intro ⟨by decide, by decide⟩ ?_
  refine for0 (fun i m M' => RdM g m ∧ dirI (g.set9 a) i M') ⟨.mk _ _ _ _ _ _ _, [], [], [], _, List.length_replicate, fun x h => (nomatch h), rfl, v⟩ ?_ ?_
  · rintro i _ M' hi hh
    refine go1 fun G hG => ?_
    obtain ⟨⟨x, v2, v3, v4, v5, v6, v7⟩, D⟩ := hh
    refine hG ?_
    exact ray_dir (g := g.set9 a) hs hi D fun M' v2 v3 v4 v5 v6 v7 D => ⟨trivial, .mk _ _ _ _ _ _ _, D⟩
  · rintro _ M' hh
    refine go1 fun G hG => ?_
    obtain ⟨⟨x, v2, v3, v4, v5, v6, v7⟩, D⟩ := hh
    refine hG ?_
    exact XN.mk (q _ _ D)
end
end Vg
end
section
set_option autoImplicit false
set_option linter.all false
namespace Vg
open PySem PySem.W PyProof.Rows
section
variable {M : Mem} {Q : AV → Mem → Prop} {N B : List AV → Mem → Prop} {R : AV → Mem → Prop} {g : Gp} {s : Gs} {more : List Addr} {mc : List AO} {n i : Nat} {x : AV}
theorem borI {x y : Int} {K : AV → Mem → Prop} (q : K (.int (Builtin.bitOr x y)) M) : binP M .bor (.int x) (.int y) K := q
theorem bandI {x y : Int} {K : AV → Mem → Prop} (q : K (.int (Builtin.bitAnd x y)) M) : binP M .band (.int x) (.int y) K := q
theorem intv {i : Nat} {m : List AV} {k : Int} {K : AV → Mem → Prop} (e : m.getD i .undef = .int k) (q : K (.int k) M) : (X.v i).e m M K := show defd (m.getD i .undef) _ by rw [e]; exact q
theorem rdRay {j : Int} (v : gV g more s mc M) (hro : RaysOK n s.rays more mc) (h8 : s.rays.length = 8) (hj : 0 ≤ j ∧ j < 8) {G : AV → Prop} (q : ∀ a l, M a = some (iL l) → l.length = n → G (.ref a)) : subP M (.ref g.x8) (.int j) G := by
  have hj' : j.toNat < s.rays.length := by omega
  refine go1 fun G hG => ?_
  obtain ⟨i, a, l, e, e1, e2, e3⟩ := hro _ (List.getElem_mem hj')
  refine hG ?_
  exact subX v.a8 hj.1 (List.getElem?_eq_getElem hj') (e ▸ q a l (VO.get (i := i + 11) v e1 e2) e3)
theorem pw1 (hi : Ix (i : Int) n) (hk : s.kg.length = n) (hro : RaysOK n s.rays more mc) (h8 : s.rays.length = 8) (hl : s.l1.length ≤ 1000) (v : gV g more s mc M) (q : ∀ M' x, gV g more (s.setL1 (s.l1 ++ [x])) mc M' → N [.inst 0 g.d, .int i] M') : w_add_pawns_1_1 [.inst 0 g.d, .int i] M N B R :=
  v.at rfl <| subX v.a11 (by decide) rfl <| .intro (lpI v.ap1) <| v.at rfl <| subI v.a9 (hk ▸ hi) <| v.at rfl <| rdRay v hro h8 (by decide) fun a l e1 e2 => subI e1 (e2 ▸ hi) <| v.at rfl <| rdRay v hro h8 (by decide) fun a l e1 e2 => subI e1 (e2 ▸ hi) <| borI <| bandI <| apI v.ap1 hl v.sp1 fun M' v => .intro trivial <| q _ _ v
theorem pw0 (hi : Ix (i : Int) n) (hk : s.kg.length = n) (hro : RaysOK n s.rays more mc) (h8 : s.rays.length = 8) (h0 : s.l0.length ≤ 1000) (hl : s.l1.length ≤ 1000) (v : gV g more s mc M) (q : ∀ M' x y, gV g more ((s.setL0 (s.l0 ++ [x])).setL1 (s.l1 ++ [y])) mc M' → N [.inst 0 g.d, .int i] M') : w_add_pawns_1 [.inst 0 g.d, .int i] M N B R :=
  v.at rfl <| subX v.a11 (by decide) rfl <| .intro (lpI v.ap0) <| v.at rfl <| subI v.a9 (hk ▸ hi) <| v.at rfl <| rdRay v hro h8 (by decide) fun a l e1 e2 => subI e1 (e2 ▸ hi) <| v.at rfl <| rdRay v hro h8 (by decide) fun a l e1 e2 => subI e1 (e2 ▸ hi) <| borI <| bandI <| apI v.ap0 h0 v.sp0 fun M' v => .intro trivial <| pw1 (s := s.setL0 (s.l0 ++ [_])) hi hk hro h8 hl v fun M' y v => q _ _ _ v
theorem C_add_pawns (hs : Sh g.f g.r) (hk : s.kg.length = (g.f * g.r).toNat) (hro : RaysOK (g.f * g.r).toNat s.rays more mc) (h8 : s.rays.length = 8) (e0 : s.l0 = []) (e1 : s.l1 = []) (v : gV g more s mc M)
    (q : ∀ M' l0 l1, l0.length = (g.f * g.r).toNat → l1.length = (g.f * g.r).toNat → gV g more ((s.setL0 l0).setL1 l1) mc M' → Q .none M') : t_add_pawns [.inst 0 g.d] M Q := by
  have nn := hs.nn.2.2
  refine fnT.gs u_add_pawns rfl <| v.at rfl <| .intro (okr15 nn.1 (Int.le_trans nn.2 (by decide))) <| for0 (fun i m M' => (∃ v1, m = [.inst 0 g.d, v1]) ∧ ∃ l0 l1, l0.length = i ∧ l1.length = i ∧ gV g more ((s.setL0 l0).setL1 l1) mc M') ⟨⟨_, rfl⟩, s.l0, s.l1, by rw [e0]; rfl, by rw [e1]; rfl, v⟩ ?_ ?_
  · rintro i _ M' hi hh
    refine go1 fun G hG => ?_
    obtain ⟨⟨v1, rfl⟩, l0, l1, h0, h1, v⟩ := hh
    refine hG ?_
    have si := (ix_sm hs.sm6.2.2 hi).2.2
    exact pw0 (s := (s.setL0 l0).setL1 l1) hi hk hro h8 (h0.symm ▸ si) (h1.symm ▸ si) v fun M' x y v => ⟨trivial, ⟨_, rfl⟩, l0 ++ [x], l1 ++ [y], by rw [List.length_append, h0]; rfl, by rw [List.length_append, h1]; rfl, v⟩
  · rintro _ M' hh
    refine go1 fun G hG => ?_
    obtain ⟨⟨v1, rfl⟩, l0, l1, h0, h1, v⟩ := hh
    refine hG ?_
    exact XN.mk (q _ _ _ h0 h1 v)
theorem near_sm {b c x y : Int} (h : 0 ≤ b ∧ b < 2 ^ 40) (hc : 0 < c ∧ c ≤ 4) : sm (Builtin.bitOr (Builtin.bitAnd (b * c) x) (Builtin.bitAnd (b / c) y)) := by
  have h1 : 0 ≤ b * c := Int.mul_nonneg h.1 (Int.le_of_lt hc.1)
  have h2 : b * c ≤ b * 4 := Int.mul_le_mul_of_nonneg_left hc.2 h.1
  have h3 : 0 ≤ b / c := Int.ediv_nonneg h.1 (Int.le_of_lt hc.1)
  have h4 : b / c ≤ b := Int.ediv_le_self _ h.1
  have a1 := bitAnd_le (x := x) h1
  have a2 := bitAnd_le (x := y) h3
  have k := h.2
  have m1 : b * 4 < 2 ^ 60 := Int.lt_of_lt_of_le (Int.mul_lt_mul_of_pos_right k (by decide)) (by decide)
  have m2 : b < 2 ^ 60 := Int.lt_trans k (by decide)
  have o := or_bd (n := 60) (a := Builtin.bitAnd (b * c) x) (b := Builtin.bitAnd (b / c) y) ⟨a1.1, Int.lt_of_le_of_lt (Int.le_trans a1.2 h2) m1⟩ ⟨a2.1, Int.lt_of_le_of_lt (Int.le_trans a2.2 h4) m2⟩
  exact ⟨Int.le_trans (by decide) o.1, Int.le_of_lt (Int.lt_trans o.2 (by decide))⟩
theorem kn3 (hs : Sh g.f g.r) (hl : s.kn.length ≤ 1000) (v : gV g more s mc M) {near far : Int} {v1 v2 v3 v4 v6 v7 v10 : AV} (s1 : sm near) (s2 : sm far) (q : ∀ M' x v10, gV g more (s.setKn (s.kn ++ [x])) mc M' → N [.inst 0 g.d, .int g.f, v1, v2, v3, v4, v6, v7, .int near, .int far, v10] M') :
    w_add_knights_1_3 [.inst 0 g.d, .int g.f, v1, v2, v3, v4, v6, v7, .int near, .int far, v10] M N B R := by
  have f0 := hs.nn.1
  have f1 : 0 ≤ 2 * g.f ∧ 2 * g.f ≤ 1000 := by omega
  have f2 : g.f ≤ 1000 := Int.le_trans f0.2 (by decide)
  exact .intro (smc rfl) <| .intro s1 <| .intro f1.1 <| .intro f1.2 <| .intro (smc rfl) <| .intro f1.1 <| .intro s2 <| .intro f0.1 <| .intro f2 <| .intro f0.1 <| v.at rfl <| .intro (lpI v.a10) <| v.at rfl <| bandI <| apI v.a10 hl v.s10 fun M' v => .intro trivial <| q _ _ _ v
theorem kn_turn (hs : Sh g.f g.r) (hi : Ix (i : Int) (g.f * g.r).toNat) (hl : s.kn.length ≤ 1000) (v : gV g more s mc M) {nf nl nf2 nl2 : Int} {v7 v8 v9 v10 : AV} (q : ∀ M' x v7 v8 v9 v10, gV g more (s.setKn (s.kn ++ [x])) mc M' → N [.inst 0 g.d, .int g.f, .int nf, .int nl, .int nf2, .int nl2, .int i, v7, v8, v9, v10] M') :
    w_add_knights_1 [.inst 0 g.d, .int g.f, .int nf, .int nl, .int nf2, .int nl2, .int i, v7, v8, v9, v10] M N B R := by
  have si := ix_sm hs.sm6.2.2 hi
  have hi2 : (i : Int) < 40 := by have := hi.2; have := hs.nn.2.2.2; grind
  have bd := sh_bd hi.1 hi2
  have sb : sm (1 * 2 ^ (i : Int).toNat) := ⟨by have := bd.1; omega, by have := bd.2; omega⟩
  have s1 := near_sm (x := nf) (y := nl) (c := 2 ^ (1 : Int).toNat) bd (by decide)
  have s2 := near_sm (x := nf2) (y := nl2) (c := 2 ^ (2 : Int).toNat) bd (by decide)
  exact .intro (smc rfl) <| .intro hi.1 <| .intro si.2.1 <| .intro sb <| .intro (by decide) <| .intro (by decide) <| .intro (by decide) <| .intro sb <| .intro (by decide) <| .intro (by decide) <| .intro (by decide) <| intv rfl <| bandI <| borI <| kn3 hs hl v s1 s2 fun M' x v10 v => q _ _ _ _ _ _ v
inductive KnM (g : Gp) : List AV → Prop
  | mk (nf nl nf2 nl2 : Int) (v6 v7 v8 v9 v10 : AV) : KnM g [.inst 0 g.d, .int g.f, .int nf, .int nl, .int nf2, .int nl2, v6, v7, v8, v9, v10]
theorem C_add_knights (hs : Sh g.f g.r) (hf : s.fm.length = g.f.toNat) (e0 : s.kn = []) (v : gV g more s mc M) (q : ∀ M' kn, gV g more (s.setKn kn) mc M' → Q .none M') : t_add_knights [.inst 0 g.d] M Q := by
  obtain ⟨g1, g2, g3, g4⟩ := hs.ix.1 _ hf
  have nn := hs.nn.2.2
  refine fnT.gs u_add_knights rfl <| v.at rfl <| v.at rfl <| v.at rfl <| subI v.a6 g1 <| v.at rfl <| v.at rfl <| subI v.a6 g2 <| v.at rfl <| subI v.a6 g3 <| v.at rfl <| subI v.a6 g4 <| v.at rfl <| .intro (okr15 nn.1 (Int.le_trans nn.2 (by decide))) ?_
  refine for0 (fun i m M' => KnM g m ∧ ∃ kn, kn.length = i ∧ gV g more (s.setKn kn) mc M') ⟨.mk _ _ _ _ _ _ _ _ _, s.kn, by rw [e0]; rfl, v⟩ ?_ ?_
  · rintro i _ M' hi ⟨⟨nf, nl, nf2, nl2, v6, v7, v8, v9, v10⟩, kn, hkn, v⟩
    exact kn_turn hs hi (hkn ▸ (ix_sm hs.sm6.2.2 hi).2.2) v fun M' x v7 v8 v9 v10 v => ⟨trivial, .mk _ _ _ _ _ _ _ _ _, kn ++ [x], by rw [List.length_append, hkn]; rfl, v⟩
  · rintro _ M' hh
    refine go1 fun G hG => ?_
    obtain ⟨⟨nf, nl, nf2, nl2, v6, v7, v8, v9, v10⟩, kn, hkn, v⟩ := hh
    refine hG ?_
    exact XN.mk (q _ _ v)
end
end Vg
end
section
set_option autoImplicit false
set_option linter.all false
namespace Vg
open PySem PySem.W PyProof.Rows
section
variable {M : Mem} {Q : AV → Mem → Prop} {N B : List AV → Mem → Prop} {R : AV → Mem → Prop} {g : Gp} {s : Gs} {more : List Addr} {mc : List AO} {i : Nat} {v1 v2 v3 v4 v5 v6 : AV} {K : AV → Mem → Prop} {m : List AV} {z : Int}
theorem cE {x : AV} (q : K x M) : (X.c x).e m M K := q
theorem addE {i j : Nat} {u w : Int} (e1 : m.getD i .undef = .int u) (e2 : m.getD j .undef = .int w) (q : K (.int (u + w)) M) : (X.bin .add (.v i) (.v j)).e m M K := show defd (m.getD i .undef) _ by
  rw [e1]; show defd (m.getD j .undef) _; rw [e2]; exact q
theorem addsE {i j k : Nat} {u w y : Int} (e1 : m.getD i .undef = .int u) (e2 : m.getD j .undef = .int w) (e3 : m.getD k .undef = .int y) (q : K (.int (u + w - y)) M) : (X.bin .sub (.bin .add (.v i) (.v j)) (.v k)).e m M K := addE (K := fun x M => (X.v k).e m M fun y M => binP M .sub x y K) e1 e2 (show defd (m.getD k .undef) _ by rw [e3]; exact q)
theorem tup4 {e1 e2 e3 e4 : X} (q : e1.e m M fun a M => e2.e m M fun b M => e3.e m M fun c M => e4.e m M fun d M => K (.tup [a, b, c, d]) M) : (X.tup [e1, e2, e3, e4]).e m M K := q
noncomputable def casV (f : Int) : List AV := if f = 6 then [.none, .tup [.int 3, .int 1, .int 0, .int 2], .none, .tup [.int 15, .int 13, .int 12, .int 14]] else [.none, .none, .none, .none]
theorem cas_no (hb : g.cb = .bool false) (hc : s.ca.length ≤ 100) (v : gV g more s mc M) (q : ∀ M', gV g more (s.setCa (s.ca ++ [.none])) mc M' → N [.inst 0 g.d, v1, v2, v3, v4, v5, v6] M') :
    w_add_castles_1_5 [.inst 0 g.d, v1, v2, v3, v4, v5, v6] M N B R :=
  v.at (i := 5) rfl <| hb ▸ iN Bool.false_ne_true (iN id (v.at rfl <| .intro ⟨_, v.a12, trivial⟩ <| cE <| apX v.a12 (Nat.le_trans hc (by decide)) v.s12 fun M' v => .intro trivial (q _ v)))
theorem cas_off {c3 c4 c5 c6 : Int} (hb : g.cb = .bool true) (h : ¬ 0 < (c4 - c6) * c5) (hs : sm (c4 - c6)) (hc : s.ca.length ≤ 100) (v : gV g more s mc M) (q : ∀ M', gV g more (s.setCa (s.ca ++ [.none])) mc M' → N [.inst 0 g.d, v1, v2, .int c3, .int c4, .int c5, .int c6] M') :
    w_add_castles_1_5 [.inst 0 g.d, v1, v2, .int c3, .int c4, .int c5, .int c6] M N B R :=
  v.at (i := 5) rfl <| hb ▸ iP rfl (.intro hs <| iN h <| v.at rfl <| .intro ⟨_, v.a12, trivial⟩ <| cE <| apX v.a12 (Nat.le_trans hc (by decide)) v.s12 fun M' v => .intro trivial (q _ v))
theorem cas_on {c3 c4 c5 c6 z j : Int} (hb : g.cb = .bool true) (h : 0 < (c4 - c6) * c5) (hs : sm (c4 - c6)) (hc : s.ca.length ≤ 100) (hj : 0 ≤ j ∧ j ≤ 1000) (i1 : Ix (c3 + z) s.lo.length) (i2 : Ix (c3 + c4) s.lo.length) (v : gV g more s mc M)
    (q : ∀ M' lo', lo'.length = s.lo.length → gV g more ((s.setCa (s.ca ++ [.tup [.int (c3 + z), .int (c3 + c6), .int (c3 + c4), .int (c3 + c6 - c5)]])).setLo lo') mc M' → N [.inst 0 g.d, .int z, .int j, .int c3, .int c4, .int c5, .int c6] M') :
    w_add_castles_1_5 [.inst 0 g.d, .int z, .int j, .int c3, .int c4, .int c5, .int c6] M N B R :=
  v.at (i := 5) rfl <| hb ▸ iP rfl (.intro hs <| iP h <| v.at rfl <| .intro ⟨_, v.a12, trivial⟩ <| tup4 <| addE rfl rfl <| addE rfl rfl <| addE rfl rfl <| addsE rfl rfl rfl <| apX v.a12 (Nat.le_trans hc (by decide)) v.s12 fun M' v => .intro trivial <|
    v.at rfl <| subI v.a13 i1 <| .intro (smc rfl) <| .intro hj.1 <| .intro hj.2 <| setT v.a13 i1 v.s13 fun M' v => v.at rfl <| subI v.a13 (sz_len.symm ▸ i2) <| .intro (smc rfl) <| .intro hj.1 <| .intro hj.2 <| setT v.a13 (sz_len.symm ▸ i2) v.s13 fun M' v => q _ _ (sz_len.trans sz_len) v)
theorem cas_step (hs : Sh g.f g.r) (hi : i < 4) (v : gV g more s mc M)
    (h1 : Builtin.bitAnd (i : Int) 1 ≠ 0 → w_add_castles_1_5 [.inst 0 g.d, .int z, .int i, .int ((i : Int) / 2 ^ (1 : Int).toNat * (g.r - 1) * g.f), .int 0, .int (-1), .int (z + 2 * -1)] M N B R)
    (h2 : ¬ Builtin.bitAnd (i : Int) 1 ≠ 0 → w_add_castles_1_5 [.inst 0 g.d, .int z, .int i, .int ((i : Int) / 2 ^ (1 : Int).toNat * (g.r - 1) * g.f), .int (g.f - 1), .int 1, .int (z + 2 * 1)] M N B R) :
    w_add_castles_1 [.inst 0 g.d, .int z, .int i, v3, v4, v5, v6] M N B R := by
  have s1 : sm ((i : Int) / 2 ^ (1 : Int).toNat) := show sm ((i : Int) / 2) from ⟨by omega, by omega⟩
  have s2 : sm ((i : Int) / 2 ^ (1 : Int).toNat * (g.r - 1)) := by
    have hr : 3 ≤ g.r ∧ g.r ≤ 6 := by revert hs; generalize g.f = f; generalize g.r = r; intro hs; cases hs <;> decide
    show sm ((i : Int) / 2 * (g.r - 1))
    have : (i : Int) / 2 = 0 ∨ (i : Int) / 2 = 1 := by lia
    rcases this with e | e <;> rw [e] <;> exact ⟨by omega, by omega⟩
  exact .intro (by decide : (0 : Int) ≤ 1) <| v.at rfl <| .intro s1 <| v.at rfl <| .intro s2 <| v.at rfl <| .intro (fun h => .intro (smc rfl) (h1 h)) fun h => .intro (smc rfl) (h2 h)
inductive CaM (g : Gp) : List AV → Prop
  | mk (v2 v3 v4 v5 v6 : AV) : CaM g [.inst 0 g.d, .int (g.f / 2), v2, v3, v4, v5, v6]
theorem cas6 (hf : g.f = 6) (hr : g.r = 3) (hb : g.cb = .bool true) (hi : i < 4) (e : s.ca = (casV 6).take i) (hl : s.lo.length = 18) (v : gV g more s mc M) (q : ∀ M' lo c3 c4 c5 c6, lo.length = 18 → gV g more ((s.setCa ((casV 6).take (i + 1))).setLo lo) mc M' → N [.inst 0 g.d, .int 3, .int i, .int c3, .int c4, .int c5, .int c6] M') :
    w_add_castles_1 [.inst 0 g.d, .int 3, .int i, v3, v4, v5, v6] M N B R := by
  have i4 : i = 0 ∨ i = 1 ∨ i = 2 ∨ i = 3 := by lia
  have ct : s.ca.length ≤ 100 := by rw [e, List.length_take]; exact Nat.le_trans (Nat.min_le_right _ _) (by decide)
  refine cas_step (hf.symm ▸ hr.symm ▸ .b) hi v ?_ ?_ <;> rw [hf, hr] <;> rcases i4 with rfl | rfl | rfl | rfl
  · exact fun h => absurd rfl h
  · exact fun zz => cas_on hb (by decide) (smc rfl) ct (by decide) (hl ▸ by decide) (hl ▸ by decide) v fun M' lo' h v => q _ _ _ _ _ _ (h.trans hl) (by rw [e] at v; exact v)
  · exact fun h => absurd rfl h
  · exact fun zz => cas_on hb (by decide) (smc rfl) ct (by decide) (hl ▸ by decide) (hl ▸ by decide) v fun M' lo' h v => q _ _ _ _ _ _ (h.trans hl) (by rw [e] at v; exact v)
  · exact fun zz => cas_off hb (by decide) (smc rfl) ct v fun M' v => q _ _ _ _ _ _ hl (by rw [e] at v; exact v)
  · exact fun h => absurd (by decide) h
  · exact fun zz => cas_off hb (by decide) (smc rfl) ct v fun M' v => q _ _ _ _ _ _ hl (by rw [e] at v; exact v)
  · exact fun h => absurd (by decide) h
theorem C_add_castles (hs : Sh g.f g.r) (he : g.cb = .bool (decide (g.f = 6))) (e0 : s.ca = []) (v : gV g more s mc M)
    (q : ∀ M' x13 lo, lo.length = (g.f * g.r).toNat → gV (g.set13 x13) more ((s.setCa (casV g.f)).setLo lo) mc M' → Q .none M') : t_add_castles [.inst 0 g.d] M Q := by
  have nn := hs.nn.2.2
  refine fnT.gs u_add_castles rfl <| .intro (nle rfl) fun z hz => (v.junk hz).at rfl <| mul0 (Mem.set_self _ _ _) nn.1 (Int.le_trans nn.2 (by decide)) fun a ha => (v.junk hz).rep13 ha fun M' v => v.at rfl <| .intro (by decide) <| .intro (by decide) <| .intro ⟨by decide, by decide⟩ ?_
  have c4 : (casV g.f).length = 4 := by unfold casV; split <;> rfl
  refine for0 (fun i m M' => CaM g m ∧ ∃ lo, lo.length = (g.f * g.r).toNat ∧ gV (g.set13 a) more ((s.setCa ((casV g.f).take i)).setLo lo) mc M') ⟨.mk _ _ _ _ _, _, List.length_replicate, by rw [show (casV g.f).take 0 = s.ca from e0.symm]; exact v⟩ ?_ ?_
  · rintro i _ M' hi ⟨⟨v2, v3, v4, v5, v6⟩, lo, hlo, v⟩
    have hi4 : i < 4 := hi.2
    by_cases f6 : g.f = 6
    · have r3 := hs.six f6
      rw [f6, r3] at hlo
      show w_add_castles_1 [.inst 0 g.d, .int (g.f / 2), .int i, v3, v4, v5, v6] M' _ _ _
      rw [show g.f / 2 = 3 by rw [f6]; rfl]
      exact cas6 (g := g.set13 a) f6 r3 (he.trans (by rw [f6]; rfl)) hi4 (by rw [f6]; rfl) hlo v fun M' lo c3 c4 c5 c6 hl v => ⟨trivial, by rw [show (3 : Int) = g.f / 2 by rw [f6]; rfl]; exact .mk _ _ _ _ _, lo, by rw [f6, r3]; exact hl, by rw [f6]; exact v⟩
    · have ec : (casV g.f).take i ++ [.none] = (casV g.f).take (i + 1) := by
        unfold casV; rw [if_neg f6]
        have i4 : i = 0 ∨ i = 1 ∨ i = 2 ∨ i = 3 := by lia
        rcases i4 with rfl | rfl | rfl | rfl <;> rfl
      have ct : ((casV g.f).take i).length ≤ 100 := by rw [List.length_take, c4]; exact Nat.le_trans (Nat.min_le_right _ _) (by decide)
      exact cas_step (g := g.set13 a) hs hi4 v (fun zz => cas_no (g := g.set13 a) (he.trans (by rw [decide_eq_false f6])) ct v fun M' v => ⟨trivial, .mk _ _ _ _ _, lo, hlo, ec ▸ v⟩) fun zz => cas_no (g := g.set13 a) (he.trans (by rw [decide_eq_false f6])) ct v fun M' v => ⟨trivial, .mk _ _ _ _ _, lo, hlo, ec ▸ v⟩
  · rintro _ M' hh
    refine go1 fun G hG => ?_
    obtain ⟨⟨v2, v3, v4, v5, v6⟩, lo, hlo, v⟩ := hh
    refine hG ?_
    exact XN.mk (q _ _ _ hlo (List.take_of_length_le (Nat.le_of_eq c4) ▸ v))
end
end Vg
end
section
set_option autoImplicit false
set_option linter.all false
namespace Vg
open PySem PySem.W PyProof.Rows
section
variable {M₀ M : Mem} {Z : Addr → Bool} {a d : Addr} {n c : Nat} {xs : List AV} {fs : List (Nat × AV)} {l : List Int} {f r : Int} {Q : AV → Mem → Prop}
theorem frz_ref (hz : Z a = true) (h : M a = some (.list xs)) : frz Z M (n + 1) (.ref a) = .lst (xs.map (frz Z M n)) := by
  show (if Z a = true then _ else _) = _
  rw [if_pos hz, h]; rfl
theorem frz_inst (hz : Z d = true) (h : M d = some (.flds fs)) : frz Z M (n + 1) (.inst c d) = .obj c (fs.map fun p => (p.1, frz Z M n p.2)) := by
  show (if Z d = true then _ else _) = _
  rw [if_pos hz, h]; rfl
theorem frz_int {i : Int} : frz Z M n (.int i) = .int i := by cases n <;> rfl
theorem frz_ints : (l.map AV.int).map (frz Z M n) = l.map AV.int := by
  rw [List.map_map]; exact List.map_congr_left fun i _ => frz_int
theorem frz_iL (hz : Z a = true) (h : M a = some (iL l)) : frz Z M (n + 1) (.ref a) = aints l := (frz_ref hz h).trans (congrArg AV.lst frz_ints)
theorem frz_cas : (casV f).map (frz Z M 1) = casV f := by unfold casV; split <;> rfl
theorem frz_geo {g : Gp} {more : List Addr} {s : Gs} {mc : List AO} (v : gV g more s mc M) (hz : ∀ (i : Nat) (a : Addr), (gA g more)[i]? = some a → Z a = true) (e : s.ca = casV g.f) :
    frz Z M 3 (.inst 0 g.d) = (Geo.mk g.f g.r (.int (fullV g.f g.r)) (frz Z M 2 g.b) (frz Z M 2 g.cb) (frz Z M 2 (.ref g.x6)) (frz Z M 2 (.ref g.x7)) (frz Z M 2 (.ref g.x8)) (frz Z M 2 (.ref g.x9)) (frz Z M 2 (.ref g.x10)) s.l0 s.l1 (casV g.f) s.lo).av := by
  have e11 : frz Z M 2 (.ref g.x11) = .lst [aints s.l0, aints s.l1] := by
    rw [frz_ref (hz 8 _ rfl) v.a11]
    show AV.lst [frz Z M 1 (.ref g.p0), frz Z M 1 (.ref g.p1)] = _
    rw [frz_iL (hz 6 _ rfl) v.ap0, frz_iL (hz 7 _ rfl) v.ap1]
  have e12 : frz Z M 2 (.ref g.x12) = .lst (casV g.f) := (frz_ref (hz 9 _ rfl) v.a12).trans (by rw [e]; exact congrArg AV.lst frz_cas)
  have e13 : frz Z M 2 (.ref g.x13) = aints s.lo := frz_iL (hz 10 _ rfl) v.a13
  refine (frz_inst (hz 0 _ rfl) (VO.get (i := 0) v rfl rfl)).trans ?_
  unfold Geo.av Geo.fl
  rw [← e11, ← e12, ← e13]; rfl
theorem Sh.cond {f r : Int} (hs : Sh f r) : (¬ f < 2 ∧ ¬ 8 < f) ∧ ¬ r < 3 ∧ ¬ 8 < r := by cases hs <;> decide
theorem geo_end {g : Gp} {more : List Addr} {s : Gs} {mc : List AO} (hs : Sh g.f g.r) (v : gV g more s mc M) (e : s.ca = casV g.f) (h0 : s.l0.length = (g.f * g.r).toNat) (h1 : s.l1.length = (g.f * g.r).toNat) (hlo : s.lo.length = (g.f * g.r).toNat)
    (q : ∀ G : Geo, G.f = g.f → G.r = g.r → GW G → Q G.av g.M₀) : Exit g.M₀ Q (.inst 0 g.d) M := by
  refine ⟨fun b => (g.M₀ b).isNone, 3, g.M₀, fun b h => Option.isNone_iff_eq_none.mp h, VO.le v, fun b h => Option.isNone_iff_eq_none.mp h, ?_⟩
  rw [frz_geo v (fun i a e => by rw [VO.fr v i a e]; rfl) e]
  exact q _ rfl rfl ⟨hs, h0, h1, hlo, fun h => if_pos h, fun h => if_neg h⟩
theorem geoC : GeoC := by
  intro f r db cb M₀ Q hs he q
  have c := hs.cond
  refine fnT.gs u_make_geometry rfl <| iN c.1.1 <| iN c.1.2 <| iN c.2.1 <| iN c.2.2 <| fun d hd => C_Geometry hs (VO.nil.new hd) fun M g e1 e2 e3 e4 e5 v => ?_
  subst e1 e2 e3 e5
  refine .intro rfl <| C_add_masks hs v fun M v => .intro trivial <| C_add_rays hs v fun M x9 D => ?_
  refine go1 fun G hG => ?_
  obtain ⟨more, mc, rays, kg, hk, hro, h8, v⟩ := D
  refine hG ?_
  exact .intro trivial <| C_add_pawns (g := g.set9 x9) hs hk hro h8 rfl rfl v fun M l0 l1 h0 h1 v => .intro trivial <| C_add_knights (g := g.set9 x9) hs fmV_len rfl v fun M kn v => .intro trivial <| C_add_castles (g := g.set9 x9) hs (e4.trans (congrArg AV.bool he)) rfl v fun M x13 lo hlo v => .intro trivial <| geo_end (g := (g.set9 x9).set13 x13) hs v rfl h0 h1 hlo q
end
end Vg
end
section
namespace Vg
open PySem PySem.W PyProof.Rows Vh
set_option maxRecDepth 100000
set_option maxHeartbeats 0
noncomputable def cAd : Nat → Addr
  | 0 => 269
  | 1 => 346
  | _ => 367
noncomputable def mkW (w : World) (h : Heap) (mg mb : Str → Option Value) : Wd :=
  { prog := pw, w := w, h₀ := h, mg := mg, mb := mb, K := KF w.params, p := vw, loose := looseL, cls := cAd, attr := fun i => tab.attrs.getD i "", nc := 3, na := 26 }
noncomputable def noneIs : Option (Option Value) → Bool
  | some none => true
  | _ => false
noncomputable def bltIs (x : String) : Option (Option Value) → Bool
  | some (some (.builtin y)) => x == y
  | _ => false
noncomputable def refIs (a : Addr) : Option (Option Value) → Bool
  | some (some (.ref b)) => Nat.beq a b
  | _ => false
noncomputable def gokB (K : Frag) (C : Addr) (x : Str) : Bool := plainGet K C x && hasDictIn K C && noneIs (findIn K (.ref C) x) && bltIs "object.__setattr__" (findIn K (.ref C) "__setattr__") && plainOver K C && noneIs (takerIn K C x)
theorem gok_ok : ∀ P : Params, ((List.range 3).all fun c => tab.attrs.all fun x => gokB (KF P) (cAd c) x) = true := fun P => by kernel_rfl
noncomputable def clsB (K : Frag) (x : Str) (C fi : Addr) : Bool := refIs C (nsIn K 3 x) && keepIn K (.ref C) && makesIn K C && refIs fi (findIn K (.ref C) "__init__") && isFn K (.ref fi)
theorem cls_ok : ∀ P : Params, (clsB (KF P) "Geometry" 269 266 && clsB (KF P) "Zobrist" 346 343 && clsB (KF P) "Position" 367 364) = true := fun P => by kernel_rfl
noncomputable def vrF (K : Frag) (ih : Value → AV → Bool) (v : Value) (x : AV) : Bool := match v, x with
    | .int i _, .int j => decide (i = j)
    | .ref a, .tup xs => (match K.lookup a with
      | some ⟨.type c, _, .seq vs _, _⟩ => c == "tuple" && Nat.beq vs.toList.length xs.length && Nat.ble xs.length 1000 && (vs.toList.zip xs).all fun p => ih p.1 p.2
      | _ => false)
    | .ref a, .lst xs => (match K.lookup a with
      | some ⟨.type c, none, .seq vs _, sl⟩ => c == "list" && sl.toList.isEmpty && Nat.beq vs.toList.length xs.length && Nat.ble xs.length 1000 && (vs.toList.zip xs).all fun p => ih p.1 p.2
      | _ => false)
    | _, _ => false
noncomputable def vrB (K : Frag) (n : Nat) : Value → AV → Bool := Nat.rec (motive := fun _ => Value → AV → Bool) (fun _ _ => false) (fun _ => vrF K) n
noncomputable def conB (K : Frag) (p : Str × AV) : Bool := match nsIn K 3 p.1 with
  | some (some v) => vrB K 4 v p.2
  | _ => false
theorem con_ok : ∀ P : Params, (tab.consts.all (conB (KF P))) = true := fun P => by kernel_rfl
end Vg
end
section
namespace Vg
open PySem PySem.W PyProof.Rows Vh
set_option maxRecDepth 100000
set_option maxHeartbeats 0
noncomputable def plainA (p : Arguments) : Bool := p.posonlyargs.isEmpty && p.vararg.isNone && p.kwonlyargs.isEmpty && p.kw_defaults.isEmpty && p.kwarg.isNone && p.defaults.isEmpty
noncomputable def argN (p : Arguments) : List Str := p.args.map (·.arg)
theorem plain_is {p : Arguments} (h : plainA p = true) : p = { posonlyargs := [], args := p.args, vararg := none, kwonlyargs := [], kw_defaults := [], kwarg := none, defaults := [] } := by
  obtain ⟨a, b, c, d, e, f, g⟩ := p
  unfold plainA at h
  simp only [Bool.and_eq_true, List.isEmpty_iff, Option.isNone_iff_eq_none] at h
  obtain ⟨⟨⟨⟨⟨rfl, rfl⟩, rfl⟩, rfl⟩, rfl⟩, rfl⟩ := h
  rfl
section
variable {W : Wd} {k np p : Nat} {x : Str} {b : St} {T : Fun} {fa : Addr}
noncomputable def trD (t : TabOK W k tab) (names : List Str) (sc : Scope) (body : List Stmt) : Option { x : St // SndB W k sc.names (rhoOf names sc) (namesOf names sc).length body x } := trB sc.names (rhoOf names sc) (namesOf names sc).length (trS t (trE t 60) sc.names (rhoOf names sc) (namesOf names sc).length 60) body
noncomputable def trOK (t : TabOK W k tab) (ps : Arguments) (sc : Scope) (body : List Stmt) : Option (Nat × St) := if plainA ps && defOK (argN ps) sc then (trD t (argN ps) sc body).map fun r => ((argN ps).length, r.1) else none
theorem fn_of (t : TabOK W k tab) {ps : Arguments} {sc : Scope} {body : List Stmt} (e : trOK t ps sc body = some (np, b)) (u : T = fnT np p b)
    (h : ∃ o fd, W.h₀.get? fa = some o ∧ o.data = .func fd ∧ W.h₀.CodeRec fd.code fd.qualname ∧ fd.body = .stmts body ∧ fd.scope = sc ∧ fd.closure = [] ∧ fd.globals = mainGlobals ∧ fd.builtins = builtinsNs ∧ fd.params = ps ∧ fd.defaults = .none ∧ fd.kwdefaults = .none) : FSound W (k + 1) fa T := by
  unfold trOK at e
  split at e
  · rename_i hc
    refine go1 fun G hG => ?_
    obtain ⟨h1, h2⟩ := Bool.and_eq_true_iff.mp hc
    obtain ⟨r, _, e2⟩ := Option.map_eq_some_iff.mp e
    obtain ⟨rfl, rfl⟩ := Prod.mk.inj e2
    obtain ⟨o, fd, a1, a2, a3, a4, a5, a6, a7, a8, a9, a10, a11⟩ := h
    refine hG ?_
    have hn : (argN ps).Nodup := by
      unfold defOK at h2
      simp only [Bool.and_eq_true, decide_eq_true_eq] at h2
      exact h2.1.1.1.2
    rw [u]
    exact call_sound t.wok ⟨o, fd, a1, a2, a3, a4, a5, a6, a7, a8, fun vals hl => bind_plain (a9.trans (plain_is h1)) a10 a11 hn hl⟩ h2 r.2
  · cases e
noncomputable def isN : Value → Bool
  | .none => true
  | _ => false
theorem isN_is {v : Value} (h : isN v = true) : v = .none := by cases v <;> first | rfl | cases h
noncomputable def mtCk (t : TabOK W k tab) (fi : Addr) : Option (Nat × St) := match W.K.lookup fi with
  | some ⟨_, _, .func fd, _⟩ => (match fd.body with
    | .stmts b => if codeIn W.K fd.code fd.qualname && fd.closure.isEmpty && Nat.beq fd.globals mainGlobals && Nat.beq fd.builtins builtinsNs && isN fd.defaults && isN fd.kwdefaults then trOK t fd.params fd.scope b else none
    | _ => none)
  | _ => none
theorem mt_good (t : TabOK W k tab) (e : mtCk t fa = some (np, b)) (u : T = fnT np p b) : FSound W (k + 1) fa T := by
  unfold mtCk at e
  split at e
  · rename_i c d fd sl hk
    split at e
    · rename_i bd hb
      split at e
      · rename_i hc
        simp only [Bool.and_eq_true, List.isEmpty_iff, Nat.beq_eq] at hc
        obtain ⟨⟨⟨⟨⟨h1, h2⟩, h3⟩, h4⟩, h5⟩, h6⟩ := hc
        exact fn_of t e u ⟨_, fd, t.wok.K _ _ hk, rfl, codeRec_of t.wok.K h1, hb, rfl, h2, h3, h4, rfl, isN_is h5, isN_is h6⟩
      · cases e
    · cases e
  · cases e
end
section
variable {w : World} {h : Heap} {mg mb : Str → Option Value} {s₀ : Shared} {k np p : Nat} {x : Str} {b : St} {T : Fun}
noncomputable def fnCk (t : TabOK (mkW w h mg mb) k tab) (x : Str) : Option (Nat × St) := match defR x with
  | some (d, []) => trOK t d.params d.scope d.body
  | _ => none
noncomputable abbrev FnGood (w : World) (h : Heap) (mg mb : Str → Option Value) (x : Str) (q : Nat × Fun) : Prop := ∃ fa, (mg x = some (.ref fa) ∧ ∃ o fd, h.get? fa = some o ∧ o.data = .func fd) ∧ FSound (mkW w h mg mb) q.1 fa q.2
theorem fn_good (G : Ground vw looseL [] (XL vw []) w s₀ mg mb h) (t : TabOK (mkW w h mg mb) k tab) (e : fnCk t x = some (np, b)) (u : T = fnT np p b) : FnGood w h mg mb x (k + 1, T) := by
  unfold fnCk at e
  split at e
  · rename_i d hd
    obtain ⟨a, o, pm, cd, doc, dV, kV, h1, h2, h3, h4, h5⟩ := G.fn ((defR_eq x).trans hd)
    have hp : plainA d.params = true := by
      unfold trOK at e
      split at e
      · rename_i hc; exact (Bool.and_eq_true_iff.mp hc).1
      · cases e
    have hd0 : d.params.defaults = [] := by rw [plain_is hp]
    have e1 : dV = .none := h5.pos.elim (fun z => z.2) fun z => absurd hd0 z.1
    have e2 : kV = .none := h5.kw.elim (fun z => z.2) fun z => absurd rfl z.1
    exact ⟨a, ⟨h1, o, _, h2, h3⟩, fn_of t e u ⟨o, _, h2, h3, h4, rfl, rfl, rfl, rfl, rfl, rfl, e1, e2⟩⟩
  · cases e
end
end Vg
end
section
namespace Vg
open PySem PySem.W PyProof.Rows Vh
set_option maxRecDepth 100000
set_option maxHeartbeats 0
theorem all_cons {α : Type} {P : α → Prop} {a : α} {l : List α} (h : P a) (t : ∀ e ∈ l, P e) : ∀ e ∈ a :: l, P e := fun e he => (List.mem_cons.mp he).elim (fun z => z ▸ h) (t e)
theorem vrB_ok {W : Wd} {K : Frag} {h : Heap} (X : K.In h) : ∀ (n : Nat) {v : Value} {x : AV}, vrB K n v x = true → VR W (fun b => h.get? b) v x := by
  intro n
  induction n with
  | zero => intro v x e; cases e
  | succ n ih =>
    have items : ∀ {vs : Array Value} {xs : List AV}, ((vs.toList.zip xs).all fun p => vrB K n p.1 p.2) = true → vs.toList.length = xs.length → ∀ (i : Nat) (v : Value) (x : AV), vs.toList[i]? = some v → xs[i]? = some x → VR W (fun b => h.get? b) v x := @fun vs xs ha hl i v x e1 e2 => by
      have : (v, x) ∈ vs.toList.zip xs := List.mem_of_getElem? (by rw [List.getElem?_zip_eq_some]; exact ⟨e1, e2⟩)
      exact ih (List.all_eq_true.mp ha _ this)
    intro v x e
    replace e : vrF _ (vrB _ n) v x = true := e
    unfold vrF at e
    split at e
    · obtain rfl := of_decide_eq_true e
      exact .int _ _
    · split at e
      · rename_i hk
        simp only [Bool.and_eq_true, beq_iff_eq, Nat.beq_eq, Nat.ble_eq] at e
        refine go1 fun G hG => ?_
        obtain ⟨⟨⟨rfl, h1⟩, h2⟩, h3⟩ := e
        refine hG ?_
        exact .tup (vs := (Array.toList _)) (X _ _ hk) rfl rfl (by omega) h1 (items h3 h1)
      · cases e
    · split at e
      · rename_i hk
        simp only [Bool.and_eq_true, beq_iff_eq, Nat.beq_eq, Nat.ble_eq, List.isEmpty_iff] at e
        refine go1 fun G hG => ?_
        obtain ⟨⟨⟨⟨rfl, h0⟩, h1⟩, h2⟩, h3⟩ := e
        refine hG ?_
        rename_i vs ep sl
        have hs : sl = #[] := Array.toList_inj.mp h0
        subst hs
        exact .lst (vs := vs.toList) (X _ _ hk) (by omega) h1 (items h3 h1)
      · cases e
    · cases e
theorem ns_some_of {K : Frag} {h : Heap} {N : Addr} {mg : Str → Option Value} {n : Str} {v : Value} (X : K.In h) (G : h.Ns N mg) (e : nsIn K N n = some (some v)) : mg n = some v := by
  obtain ⟨o, es, ep, ho, hd, _, hf⟩ := G
  unfold nsIn at e
  split at e
  · rename_i c d es' n' sl q
    have := X _ _ q
    rw [ho] at this
    cases this
    cases hd
    split at e
    · rename_i he
      cases e
      rw [← hf]
      unfold nsFind findBy
      rw [← Array.find?_toList, he]
      rfl
    · split at e <;> cases e
  · cases e
theorem noneIs_ok {r : Option (Option Value)} (h : noneIs r = true) : r = some none := by
  unfold noneIs at h; split at h <;> first | rfl | cases h
theorem bltIs_ok {x : String} {r : Option (Option Value)} (h : bltIs x r = true) : r = some (some (.builtin x)) := by
  unfold bltIs at h; split at h
  · rw [eq_of_beq h]
  · cases h
theorem refIs_ok {a : Addr} {r : Option (Option Value)} (h : refIs a r = true) : r = some (some (.ref a)) := by
  unfold refIs at h; split at h
  · rw [Nat.eq_of_beq_eq_true h]
  · cases h
theorem bis_ok : ∀ (P : Params) (f : Bi), noneIs (nsIn (KF P) 3 (biName f)) = true := fun P f => by cases f <;> kernel_rfl
theorem attr_inj : ((List.range 26).all fun i => (List.range 26).all fun j => Nat.beq i j || !(tab.attrs.getD i "" == tab.attrs.getD j "")) = true := by decide +kernel
section
variable {w : World} {h : Heap} {mg mb : Str → Option Value} {s₀ : Shared} {k : Nat}
theorem wok_of (G : Ground vw looseL [] (XL vw []) w s₀ mg mb h) (X : (KF w.params).In h) (top : ∃ a o, h.get? a = some o ∧ h.objs.size = a + 1) : WOK (mkW w h mg mb) :=
  ⟨G.T.g, G.T.b, G.T.builtins, G.T.nolimit, top, X, fun i j hi hj e => by
    have := List.all_eq_true.mp (List.all_eq_true.mp attr_inj i (List.mem_range.mpr hi)) j (List.mem_range.mpr hj)
    rcases Bool.or_eq_true_iff.mp this with q | q
    · exact Nat.eq_of_beq_eq_true q
    · rw [show tab.attrs.getD i "" = tab.attrs.getD j "" from e] at q; simp at q⟩
theorem gok_of (c i : Nat) (hc : c < 3) (hi : i < 26) : GetOK (mkW w h mg mb) c i := by
  have e := List.all_eq_true.mp (List.all_eq_true.mp (gok_ok w.params) c (List.mem_range.mpr hc)) (tab.attrs.getD i "") (by
    rw [List.getD_eq_getElem?_getD, List.getElem?_eq_getElem (show i < tab.attrs.length from hi)]; exact List.getElem_mem _)
  unfold gokB at e
  simp only [Bool.and_eq_true] at e
  obtain ⟨⟨⟨⟨⟨h1, h2⟩, h3⟩, h4⟩, h5⟩, h6⟩ := e
  exact ⟨h1, h2, noneIs_ok h3, bltIs_ok h4, h5, noneIs_ok h6⟩
theorem con_of (G : Ground vw looseL [] (XL vw []) w s₀ mg mb h) (X : (KF w.params).In h) (x : Str) (v : AV) (e : tab.consts.lookup x = some v) : ∃ r, mg x = some r ∧ VR (mkW w h mg mb) (fun b => h.get? b) r v := by
  have hc := List.all_eq_true.mp (con_ok w.params) _ (mem_of_lookup_some e)
  unfold conB at hc
  split at hc
  · rename_i r hr
    exact ⟨r, ns_some_of X G.T.g hr, vrB_ok X 4 hc⟩
  · cases hc
end
end Vg
end
section
namespace Vg
open PySem PySem.W PyProof.Rows Vh
set_option maxRecDepth 100000
set_option maxHeartbeats 0
section
variable {w : World} {h : Heap} {mg mb : Str → Option Value} {s₀ : Shared}
theorem both {a b : Prop} (x : a) (y : b) : a ∧ b := ⟨x, y⟩
theorem lv1 (t : TabOK (mkW w h mg mb) 0 tab) : fnCk t "make_piece" = some (2, b_make_piece) ∧ fnCk t "side_of" = some (1, b_side_of) ∧ fnCk t "kind_of" = some (1, b_kind_of) ∧ fnCk t "move_from" = some (1, b_move_from) ∧ fnCk t "move_to" = some (1, b_move_to) ∧ fnCk t "move_special" = some (1, b_move_special) ∧ fnCk t "move_promo" = some (1, b_move_promo) ∧ fnCk t "wrap_half" = some (1, b_wrap_half) ∧ fnCk t "divide" = some (2, b_divide) ∧ fnCk t "make_score" = some (2, b_make_score) ∧ fnCk t "own_rank" = some (3, b_own_rank) ∧ fnCk t "from_edge" = some (2, b_from_edge) ∧ fnCk t "is_long_diagonal" = some (3, b_is_long_diagonal) ∧ fnCk t "pawn_bonus" = some (2, b_pawn_bonus) ∧ fnCk t "knight_bonus" = some (2, b_knight_bonus) ∧ fnCk t "bishop_bonus" = some (3, b_bishop_bonus) ∧ fnCk t "rook_bonus" = some (3, b_rook_bonus) ∧ fnCk t "queen_bonus" = some (2, b_queen_bonus) ∧ fnCk t "king_bonus" = some (3, b_king_bonus) ∧ fnCk t "psq_of" = some (2, b_psq_of) ∧ fnCk t "is_growing" = some (1, b_is_growing) ∧ fnCk t "add_masks" = some (1, b_add_masks) ∧ fnCk t "inner_squares" = some (2, b_inner_squares) ∧ fnCk t "add_pawns" = some (1, b_add_pawns) ∧ fnCk t "add_knights" = some (1, b_add_knights) ∧ fnCk t "add_castles" = some (1, b_add_castles) ∧ fnCk t "rook_step" = some (3, b_rook_step) ∧ fnCk t "passed_square" = some (4, b_passed_square) ∧ fnCk t "kept_rights" = some (3, b_kept_rights) ∧ fnCk t "clear_ep_key" = some (1, b_clear_ep_key) ∧ fnCk t "set_ep_key" = some (2, b_set_ep_key) ∧ fnCk t "set_rights_key" = some (2, b_set_rights_key) ∧ fnCk t "count_bits" = some (1, b_count_bits) ∧ fnCk t "imbalance" = some (2, b_imbalance) ∧ fnCk t "_law_shapes" = some (0, b_law_shapes) ∧ fnCk t "_law_goals" = some (4, b_law_goals) ∧ fnCk t "_law_after" = some (3, b_law_after) ∧ fnCk t "_law_marks" = some (4, b_law_marks) ∧ fnCk t "_law_form" = some (2, b_law_form) :=
  both (by kernel_rfl) <| both (by kernel_rfl) <| both (by kernel_rfl) <| both (by kernel_rfl) <| both (by kernel_rfl) <| both (by kernel_rfl) <| both (by kernel_rfl) <| both (by kernel_rfl) <| both (by kernel_rfl) <| both (by kernel_rfl) <| both (by kernel_rfl) <| both (by kernel_rfl) <| both (by kernel_rfl) <| both (by kernel_rfl) <| both (by kernel_rfl) <| both (by kernel_rfl) <| both (by kernel_rfl) <| both (by kernel_rfl) <| both (by kernel_rfl) <| both (by kernel_rfl) <| both (by kernel_rfl) <| both (by kernel_rfl) <| both (by kernel_rfl) <| both (by kernel_rfl) <| both (by kernel_rfl) <| both (by kernel_rfl) <| both (by kernel_rfl) <| both (by kernel_rfl) <| both (by kernel_rfl) <| both (by kernel_rfl) <| both (by kernel_rfl) <| both (by kernel_rfl) <| both (by kernel_rfl) <| both (by kernel_rfl) <| both (by kernel_rfl) <| both (by kernel_rfl) <| both (by kernel_rfl) <| both (by kernel_rfl) <| (by kernel_rfl)
theorem lv3 (t : TabOK (mkW w h mg mb) 2 tab) : fnCk t "mg_of" = some (1, b_mg_of) ∧ fnCk t "eg_of" = some (1, b_eg_of) ∧ fnCk t "square_bonus" = some (4, b_square_bonus) ∧ fnCk t "castle_change" = some (5, b_castle_change) ∧ fnCk t "add_rays" = some (1, b_add_rays) ∧ fnCk t "put_piece" = some (3, b_put_piece) ∧ fnCk t "take_piece" = some (2, b_take_piece) ∧ fnCk t "shift_piece" = some (3, b_shift_piece) ∧ fnCk t "moved_piece" = some (2, b_moved_piece) ∧ fnCk t "taken_square" = some (2, b_taken_square) ∧ fnCk t "count_of" = some (3, b_count_of) ∧ fnCk t "imbalance_value" = some (1, b_imbalance_value) ∧ fnCk t "_law_held" = some (5, b_law_held) ∧ fnCk t "_law_pawn_moves" = some (4, b_law_pawn_moves) :=
  both (by kernel_rfl) <| both (by kernel_rfl) <| both (by kernel_rfl) <| both (by kernel_rfl) <| both (by kernel_rfl) <| both (by kernel_rfl) <| both (by kernel_rfl) <| both (by kernel_rfl) <| both (by kernel_rfl) <| both (by kernel_rfl) <| both (by kernel_rfl) <| both (by kernel_rfl) <| both (by kernel_rfl) <| (by kernel_rfl)
theorem lv5 (t : TabOK (mkW w h mg mb) 4 tab) : fnCk t "square_score" = some (3, b_square_score) ∧ fnCk t "psq_change" = some (3, b_psq_change) ∧ fnCk t "make_geometry" = some (4, b_make_geometry) ∧ fnCk t "do_move" = some (2, b_do_move) ∧ fnCk t "counts_of" = some (1, b_counts_of) ∧ fnCk t "_law_castling" = some (4, b_law_castling) ∧ fnCk t "_law_board" = some (4, b_law_board) ∧ fnCk t "_law_position" = some (2, b_law_position) ∧ fnCk t "_law_agree" = some (4, b_law_agree) :=
  both (by kernel_rfl) <| both (by kernel_rfl) <| both (by kernel_rfl) <| both (by kernel_rfl) <| both (by kernel_rfl) <| both (by kernel_rfl) <| both (by kernel_rfl) <| both (by kernel_rfl) <| (by kernel_rfl)
theorem lv7 (t : TabOK (mkW w h mg mb) 6 tab) : fnCk t "make_psqt" = some (1, b_make_psqt) ∧ fnCk t "psq_plain" = some (1, b_psq_plain) ∧ fnCk t "_law_moves" = some (5, b_law_moves) :=
  both (by kernel_rfl) <| both (by kernel_rfl) <| (by kernel_rfl)
theorem lv9 (t : TabOK (mkW w h mg mb) 8 tab) : fnCk t "_law_pick" = some (6, b_law_pick) :=
  (by kernel_rfl)
theorem lv11 (t : TabOK (mkW w h mg mb) 10 tab) : fnCk t "_law_whole" = some (5, b_law_whole) :=
  (by kernel_rfl)
variable (G : Ground vw looseL [] (XL vw []) w s₀ mg mb h)
include G
theorem all_fns (HR : TabOK (mkW w h mg mb) 8 tab → FnGood w h mg mb "_law_refused" (9, t_law_refused)) : ∀ e ∈ tab.fns, TabOK (mkW w h mg mb) (e.2.1 - 1) tab → FnGood w h mg mb e.1 e.2 :=
  all_cons (fun t => fn_good G t (lv1 t).1 u_make_piece) <| all_cons (fun t => fn_good G t (lv1 t).2.1 u_side_of) <| all_cons (fun t => fn_good G t (lv1 t).2.2.1 u_kind_of) <| all_cons (fun t => fn_good G t (lv1 t).2.2.2.1 u_move_from) <| all_cons (fun t => fn_good G t (lv1 t).2.2.2.2.1 u_move_to) <| all_cons (fun t => fn_good G t (lv1 t).2.2.2.2.2.1 u_move_special) <| all_cons (fun t => fn_good G t (lv1 t).2.2.2.2.2.2.1 u_move_promo) <| all_cons (fun t => fn_good G t (lv1 t).2.2.2.2.2.2.2.1 u_wrap_half) <| all_cons (fun t => fn_good G t (lv1 t).2.2.2.2.2.2.2.2.1 u_divide) <| all_cons (fun t => fn_good G t (lv1 t).2.2.2.2.2.2.2.2.2.1 u_make_score) <| all_cons (fun t => fn_good G t (lv3 t).1 u_mg_of) <| all_cons (fun t => fn_good G t (lv3 t).2.1 u_eg_of) <| all_cons (fun t => fn_good G t (lv1 t).2.2.2.2.2.2.2.2.2.2.1 u_own_rank) <| all_cons (fun t => fn_good G t (lv1 t).2.2.2.2.2.2.2.2.2.2.2.1 u_from_edge) <| all_cons (fun t => fn_good G t (lv1 t).2.2.2.2.2.2.2.2.2.2.2.2.1 u_is_long_diagonal) <| all_cons (fun t => fn_good G t (lv1 t).2.2.2.2.2.2.2.2.2.2.2.2.2.1 u_pawn_bonus) <| all_cons (fun t => fn_good G t (lv1 t).2.2.2.2.2.2.2.2.2.2.2.2.2.2.1 u_knight_bonus) <| all_cons (fun t => fn_good G t (lv1 t).2.2.2.2.2.2.2.2.2.2.2.2.2.2.2.1 u_bishop_bonus) <| all_cons (fun t => fn_good G t (lv1 t).2.2.2.2.2.2.2.2.2.2.2.2.2.2.2.2.1 u_rook_bonus) <| all_cons (fun t => fn_good G t (lv1 t).2.2.2.2.2.2.2.2.2.2.2.2.2.2.2.2.2.1 u_queen_bonus) <| all_cons (fun t => fn_good G t (lv1 t).2.2.2.2.2.2.2.2.2.2.2.2.2.2.2.2.2.2.1 u_king_bonus) <| all_cons (fun t => fn_good G t (lv3 t).2.2.1 u_square_bonus) <| all_cons (fun t => fn_good G t (lv5 t).1 u_square_score) <| all_cons (fun t => fn_good G t (lv7 t).1 u_make_psqt) <| all_cons (fun t => fn_good G t (lv1 t).2.2.2.2.2.2.2.2.2.2.2.2.2.2.2.2.2.2.2.1 u_psq_of) <| all_cons (fun t => fn_good G t (lv7 t).2.1 u_psq_plain) <| all_cons (fun t => fn_good G t (lv3 t).2.2.2.1 u_castle_change) <| all_cons (fun t => fn_good G t (lv5 t).2.1 u_psq_change) <| all_cons (fun t => fn_good G t (lv1 t).2.2.2.2.2.2.2.2.2.2.2.2.2.2.2.2.2.2.2.2.1 u_is_growing) <| all_cons (fun t => fn_good G t (lv1 t).2.2.2.2.2.2.2.2.2.2.2.2.2.2.2.2.2.2.2.2.2.1 u_add_masks) <| all_cons (fun t => fn_good G t (lv1 t).2.2.2.2.2.2.2.2.2.2.2.2.2.2.2.2.2.2.2.2.2.2.1 u_inner_squares) <| all_cons (fun t => fn_good G t (lv3 t).2.2.2.2.1 u_add_rays) <| all_cons (fun t => fn_good G t (lv1 t).2.2.2.2.2.2.2.2.2.2.2.2.2.2.2.2.2.2.2.2.2.2.2.1 u_add_pawns) <| all_cons (fun t => fn_good G t (lv1 t).2.2.2.2.2.2.2.2.2.2.2.2.2.2.2.2.2.2.2.2.2.2.2.2.1 u_add_knights) <| all_cons (fun t => fn_good G t (lv1 t).2.2.2.2.2.2.2.2.2.2.2.2.2.2.2.2.2.2.2.2.2.2.2.2.2.1 u_add_castles) <| all_cons (fun t => fn_good G t (lv5 t).2.2.1 u_make_geometry) <| all_cons (fun t => fn_good G t (lv3 t).2.2.2.2.2.1 u_put_piece) <| all_cons (fun t => fn_good G t (lv3 t).2.2.2.2.2.2.1 u_take_piece) <| all_cons (fun t => fn_good G t (lv3 t).2.2.2.2.2.2.2.1 u_shift_piece) <| all_cons (fun t => fn_good G t (lv3 t).2.2.2.2.2.2.2.2.1 u_moved_piece) <| all_cons (fun t => fn_good G t (lv3 t).2.2.2.2.2.2.2.2.2.1 u_taken_square) <| all_cons (fun t => fn_good G t (lv1 t).2.2.2.2.2.2.2.2.2.2.2.2.2.2.2.2.2.2.2.2.2.2.2.2.2.2.1 u_rook_step) <| all_cons (fun t => fn_good G t (lv1 t).2.2.2.2.2.2.2.2.2.2.2.2.2.2.2.2.2.2.2.2.2.2.2.2.2.2.2.1 u_passed_square) <| all_cons (fun t => fn_good G t (lv1 t).2.2.2.2.2.2.2.2.2.2.2.2.2.2.2.2.2.2.2.2.2.2.2.2.2.2.2.2.1 u_kept_rights) <| all_cons (fun t => fn_good G t (lv1 t).2.2.2.2.2.2.2.2.2.2.2.2.2.2.2.2.2.2.2.2.2.2.2.2.2.2.2.2.2.1 u_clear_ep_key) <| all_cons (fun t => fn_good G t (lv1 t).2.2.2.2.2.2.2.2.2.2.2.2.2.2.2.2.2.2.2.2.2.2.2.2.2.2.2.2.2.2.1 u_set_ep_key) <| all_cons (fun t => fn_good G t (lv1 t).2.2.2.2.2.2.2.2.2.2.2.2.2.2.2.2.2.2.2.2.2.2.2.2.2.2.2.2.2.2.2.1 u_set_rights_key) <| all_cons (fun t => fn_good G t (lv5 t).2.2.2.1 u_do_move) <| all_cons (fun t => fn_good G t (lv1 t).2.2.2.2.2.2.2.2.2.2.2.2.2.2.2.2.2.2.2.2.2.2.2.2.2.2.2.2.2.2.2.2.1 u_count_bits) <| all_cons (fun t => fn_good G t (lv3 t).2.2.2.2.2.2.2.2.2.2.1 u_count_of) <| all_cons (fun t => fn_good G t (lv5 t).2.2.2.2.1 u_counts_of) <| all_cons (fun t => fn_good G t (lv1 t).2.2.2.2.2.2.2.2.2.2.2.2.2.2.2.2.2.2.2.2.2.2.2.2.2.2.2.2.2.2.2.2.2.1 u_imbalance) <| all_cons (fun t => fn_good G t (lv3 t).2.2.2.2.2.2.2.2.2.2.2.1 u_imbalance_value) <| all_cons (fun t => fn_good G t (lv1 t).2.2.2.2.2.2.2.2.2.2.2.2.2.2.2.2.2.2.2.2.2.2.2.2.2.2.2.2.2.2.2.2.2.2.1 u_law_shapes) <| all_cons (fun t => fn_good G t (lv1 t).2.2.2.2.2.2.2.2.2.2.2.2.2.2.2.2.2.2.2.2.2.2.2.2.2.2.2.2.2.2.2.2.2.2.2.1 u_law_goals) <| all_cons (fun t => fn_good G t (lv3 t).2.2.2.2.2.2.2.2.2.2.2.2.1 u_law_held) <| all_cons (fun t => fn_good G t (lv3 t).2.2.2.2.2.2.2.2.2.2.2.2.2 u_law_pawn_moves) <| all_cons (fun t => fn_good G t (lv5 t).2.2.2.2.2.1 u_law_castling) <| all_cons (fun t => fn_good G t (lv7 t).2.2 u_law_moves) <| all_cons (fun t => fn_good G t (lv1 t).2.2.2.2.2.2.2.2.2.2.2.2.2.2.2.2.2.2.2.2.2.2.2.2.2.2.2.2.2.2.2.2.2.2.2.2.1 u_law_after) <| all_cons (fun t => fn_good G t (lv9 t) u_law_pick) <| all_cons (fun t => fn_good G t (lv5 t).2.2.2.2.2.2.1 u_law_board) <| all_cons (fun t => fn_good G t (lv5 t).2.2.2.2.2.2.2.1 u_law_position) <| all_cons (fun t => fn_good G t (lv1 t).2.2.2.2.2.2.2.2.2.2.2.2.2.2.2.2.2.2.2.2.2.2.2.2.2.2.2.2.2.2.2.2.2.2.2.2.2.1 u_law_marks) <| all_cons (fun t => fn_good G t (lv5 t).2.2.2.2.2.2.2.2 u_law_agree) <| all_cons (fun t => fn_good G t (lv1 t).2.2.2.2.2.2.2.2.2.2.2.2.2.2.2.2.2.2.2.2.2.2.2.2.2.2.2.2.2.2.2.2.2.2.2.2.2.2 u_law_form) <| all_cons HR <| all_cons (fun t => fn_good G t (lv11 t) u_law_whole) <| all_nil
end
end Vg
end
section
namespace Vg
open PySem PySem.W PyProof.Rows Vh
set_option maxRecDepth 100000
set_option maxHeartbeats 0
theorem lookup_mem {α : Type} {l : List (Str × α)} {x : Str} {p : α} (h : l.lookup x = some p) : (x, p) ∈ l := mem_of_lookup_some h
section
variable {w : World} {h : Heap} {mg mb : Str → Option Value} {s₀ : Shared}
theorem k_Geometry (t : TabOK (mkW w h mg mb) 0 tab) : FSound (mkW w h mg mb) 1 266 t_Geometry := mt_good t (by kernel_rfl) u_Geometry
theorem k_Zobrist (t : TabOK (mkW w h mg mb) 0 tab) : FSound (mkW w h mg mb) 1 343 t_Zobrist := mt_good t (by kernel_rfl) u_Zobrist
theorem k_Position (t : TabOK (mkW w h mg mb) 0 tab) : FSound (mkW w h mg mb) 1 364 t_Position := mt_good t (by kernel_rfl) u_Position
theorem clsOK_of (G : Ground vw looseL [] (XL vw []) w s₀ mg mb h) (X : (KF w.params).In h) {x : Str} {c : Nat} {fi : Addr} (hc : c < 3) (e : clsB (KF w.params) x (cAd c) fi = true) : ClsOK (mkW w h mg mb) x c fi := by
  unfold clsB at e
  simp only [Bool.and_eq_true] at e
  obtain ⟨⟨⟨⟨h1, h2⟩, h3⟩, h4⟩, h5⟩ := e
  exact ⟨ns_some_of X G.T.g (refIs_ok h1), h2, h3, refIs_ok h4, h5, hc⟩
theorem tab_all (G : Ground vw looseL [] (XL vw []) w s₀ mg mb h) (X : (KF w.params).In h) (top : ∃ a o, h.get? a = some o ∧ h.objs.size = a + 1)
    (HR : TabOK (mkW w h mg mb) 8 tab → FnGood w h mg mb "_law_refused" (9, t_law_refused)) : ∀ k, TabOK (mkW w h mg mb) k tab := by
  intro k
  induction k using Nat.strongRecOn with
  | ind k ih =>
    refine ⟨wok_of G X top, fun c i hc hi => gok_of c i hc hi, con_of G X, fun x p e hp => all_fns G HR _ (lookup_mem e) (ih (p.1 - 1) (by omega)), fun x p e hp => ?_, fun x i e => ?_, fun f => ns_none_of X G.T.g (noneIs_ok (bis_ok w.params f))⟩
    · have hc := cls_ok w.params
      simp only [Bool.and_eq_true] at hc
      have hm := lookup_mem e
      have key : ∀ e ∈ tab.clss, e.2.2.1 < k → ∃ fi, ClsOK (mkW w h mg mb) e.1 e.2.1 fi ∧ FSound (mkW w h mg mb) e.2.2.1 fi e.2.2.2 :=
        all_cons (fun hk => ⟨266, clsOK_of G X (c := 0) (by decide) hc.1.1, k_Geometry (ih 0 (by omega))⟩) <| all_cons (fun hk => ⟨343, clsOK_of G X (c := 1) (by decide) hc.1.2, k_Zobrist (ih 0 (by omega))⟩) <|
          all_cons (fun hk => ⟨364, clsOK_of G X (c := 2) (by decide) hc.2, k_Position (ih 0 (by omega))⟩) all_nil
      exact key _ hm hp
    · unfold List.idxOf? at e
      obtain ⟨h1, h2, _⟩ := List.findIdx?_eq_some_iff_getElem.mp e
      refine ⟨h1, ?_⟩
      show tab.attrs.getD i "" = x
      rw [List.getD_eq_getElem?_getD, List.getElem?_eq_getElem h1]
      exact eq_of_beq h2
end
end Vg
end
section
namespace Vh
open PySem PySem.W PySem.Calls PySem.Spec
set_option maxRecDepth 100000
set_option maxHeartbeats 400000
noncomputable abbrev mroB : List Value := [.ref 31, .type "Exception", .type "BaseException", .type "object"]
noncomputable abbrev badO : Obj := excClassObj ("BadMove" : Str) ("BadMove" : Str) 44 43 [.ref 31] mroB true [] [] false none none (some (.ref 35)) none (some (.str "BadMove" 218)) (some (.str "BadMove" 226)) (some (.bool true)) "Exception.__new__"
theorem bad_at (P : Params) : (KF P).lookup 44 = some badO := by kernel_rfl
theorem bad_base : (Value.ref 44 :: mroB).contains (.type "Exception") = true := by decide +kernel
theorem bad_bb : (Value.ref 44 :: mroB).contains (.type "BaseException") = true := by decide +kernel
theorem bad_attr : (Value.ref 44 :: mroB).contains (.type "AttributeError") = false := by decide +kernel
theorem bad_name : (Value.ref 44 :: mroB).contains (.type "NameError") = false := by decide +kernel
theorem bad_self : (Value.ref 44 :: mroB).contains (.ref 44) = true := by decide +kernel
noncomputable abbrev exO (t : Addr) (dd : Option Addr) : Obj := { cls := .ref 44, dict := dd, data := .fields #[.ref t, .none, .none, .none, .bool false, .none] }
section
variable {M : Model} {A : Around} {E : Value → Shared → Prop} {h : Heap} {g : Array GenState} {d : Drawn} {t : Nat} {os : OsState}
theorem bad_check_new {s : Shared} {P : Params} {x : Value} {Q : Unit → Shared → Prop} (X : (KF P).In s.heap) (hq : Q () s) : wpAny M A (checkBuiltinCall "Exception.__new__" ⟨[.ref 44, x], []⟩) Q E s :=
  (Looks.of_peek X (show peek (KF P) ⟨M.prog, M.w.params⟩ (checkBuiltinCall "Exception.__new__" ⟨[.ref 44, x], []⟩) = some () by kernel_rfl)).here hq
theorem bad_check_init {e : Addr} {oe : Obj} {rest : List Value} {Q : Unit → Shared → Prop} (hC : h.get? 44 = some badO) (he : h.get? e = some oe) (hcls : oe.cls = .ref 44) (hq : Q () ⟨h, g, d, t, os⟩) :
    wpAny M A (checkBuiltinCall "Exception.__init__" ⟨.ref e :: rest, []⟩) Q E ⟨h, g, d, t, os⟩ := by
  have F := PySem.F.excBase_Exception
  have hshort := F.noStar
  have hcB := bad_base
  simp only [checkBuiltinCall, F.initKind, F.initSplit, F.initRow]
  repeat (first | (with_reducible refine wpAny_loadPart_at he ?_; rw [hcls]) | with_reducible refine wpAny_loadPart_at hC ?_ | (with_reducible refine wpAny_isSubtype_exc hC ?_; rw [hcB]) | wp_step)
  refine wpAny_onRaise ?_
  rw [show ∀ (a b : String) (n : Nat), Bind.check ⟨.positional, "*", "Exception", .self, [⟨"args", .varPos, false⟩]⟩ a b n (List.map (fun x => x.fst) ({ pos := Value.ref e :: rest } : Args).kw) = pure () from
    fun a b n => check_star_args _ _ _ _ _ _]
  exact wpAny_pure hq
end
section
variable {prog : Program} {w : World} {A : Around} {R : Result → Shared → Prop} {h : Heap} {g : Array GenState} {d : Drawn} {t : Nat} {os : OsState}
theorem bad_new {rest : List Value} (hC : h.get? 44 = some badO) (hrest : rest.length ≤ sizeLine)
    (hq : R (.ok (.ret (.ref (h.objs.size + 1)))) ⟨(h.push { cls := .type "tuple", data := .seq rest.toArray }).push (exO h.objs.size none), g, d, t, os⟩) :
    codeAny (model prog w) A (.builtin "Exception.__new__" ⟨.ref 44 :: rest, []⟩) R ⟨h, g, d, t, os⟩ := by
  have F := PySem.F.excBase_Exception
  have hends := F.ends
  refine codeAny_builtinAt F.entry ?_
  unfold Builtin.«BaseException.__new__»
  refine wpAt_bind ?_
  show wpAt _ _ _ (stack >>= _) _ _ _
  refine wpAt_bind (wpAt_stack fun p below => wpAt_of_wpAny ?_)
  wp_walk
  refine wpAt_of_wpAny ?_
  rw [F.owner]
  repeat (first | with_reducible refine wpAny_madeHere_exc F.canon hC ?_ | with_reducible refine wpAny_loadPart_at hC ?_ | (with_reducible refine wpAny_isSubtype_exc hC ?_; first | rw [bad_base] | rw [bad_attr] | rw [bad_name]) | wp_step)
  show R _ _
  rw [Heap.size_push]
  exact hq
theorem bad_init {e t0 : Addr} {rest : List Value} (hC : h.get? 44 = some badO) (he : h.get? e = some (exO t0 none)) (hrest : rest.length ≤ sizeLine)
    (hq : R (.ok (.ret .none)) ⟨(h.push { cls := .type "tuple", data := .seq rest.toArray }).update e (Obj.mapFields (·.setIfInBounds 0 (.ref h.objs.size))), g, d, t, os⟩) :
    codeAny (model prog w) A (.call (.builtin "Exception.__init__") ⟨.ref e :: rest, []⟩) R ⟨h, g, d, t, os⟩ := by
  have F := PySem.F.excBase_Exception
  refine codeAny_call_builtin F.init.plain F.initEntry (bad_check_init hC he rfl ?_)
  have he' := Heap.get?_push_of_some { cls := .type "tuple", data := .seq rest.toArray } he
  unfold Builtin.«BaseException.__init__»
  wp_walk
  exact hq
end
end Vh
end
section
namespace Vh
open PySem PySem.W PySem.Calls PySem.Spec PySem.Builtin PySem.Builtin.ObjectAttr
set_option maxRecDepth 100000
set_option maxHeartbeats 400000
noncomputable abbrev badCD : ClassData := { name := "BadMove", bases := [.ref 31], mro := .ref 44 :: mroB, ns := 43, qualname := "BadMove", hasDict := true, slotNames := [], subclasses := [], abstract := false, collection := none, hasDel := false }
theorem bad_refuse (self : Value) : refuseLoop self "__setattr__" (.ref 44 :: mroB) = pure () := by
  rw [refuseLoop_ref, refuseLoop_ref]
  kernel_rfl
section
variable {prog : Program} {w : World} {A : Around} {E : Value → Shared → Prop} {h : Heap} {g : Array GenState} {d : Drawn} {t : Nat} {os : OsState} {P : Params}
theorem bad_inst {e t0 : Addr} (he : h.get? e = some (exO t0 none)) : InstAt h e (exO t0 none) 44 none := ⟨he, rfl, rfl, trivial⟩
theorem bad_setd {e t0 : Addr} {tk : Tok} {v : Value} {R : Result → Shared → Prop} (X : (KF P).In h) (he : h.get? e = some (exO t0 none))
    (hq : ∀ h' tk', (∀ b o, b ≠ e → h.get? b = some o → h'.get? b = some o) → (∃ dx, h'.get? e = some (exO t0 (some dx))) → R (.ok (.ret .none)) ⟨h', g, d, tk', os⟩) :
    codeAny (model prog w) A (.call (.builtin "object.__setattr__") ⟨[.ref e, .str "text" tk, v], []⟩) R ⟨h, g, d, t, os⟩ := by
  have SF := PySem.F.store_object
  have hC : h.get? 44 = some badO := X _ _ (bad_at P)
  have sub : Looks (model prog w) h (isInstance (.ref e) (.type "object")) true := (bad_inst he).type.andThen (looks_mroIn X (by kernel_rfl))
  refine codeAny_call_builtin SF.slot.plain SF.entry (@check_slot (model prog w) _ _ ⟨h, g, d, t, os⟩ "object.__setattr__" "object" "__setattr__" (.ref e) [.str "text" tk, v] [] _ SF.kind SF.split sub (SF.args (.ref e) (.str "text" tk) v) ?_)
  rw [osa_eq, refuse_eq]
  refine wpAny_bind (wpAny_bind ((bad_inst he).type.here (wpAny_bind (wpAny_mroOf_exc hC ?_))))
  rw [bad_refuse]
  refine wpAny_pure (wpAny_bind ((bad_inst he).type.here (wpAny_bind ((looks_findIn X (show findIn (KF P) (.ref 44) "text" = some none by kernel_rfl)).here (wpAny_bind (wpAny_pure ?_))))))
  show wpAny _ _ (storeInOwnDict (.ref e) (.ref 44) (.str "text" tk) "text" v false) _ _ _
  unfold storeInOwnDict ownDictForStores instanceDict
  refine wpAny_bind (wpAny_pure (wpAny_bind (wpAny_bind (wpAny_loadPart he (wpAny_bind ((looks_clsIn X (show clsIn (KF P) 44 = some badCD by kernel_rfl)).here ?_))))))
  have he' := Heap.get?_push_of_some { cls := .type "dict", data := .dict #[] } he
  have hne : h.objs.size ≠ e := Nat.ne_of_gt (Heap.lt_size he)
  have hd' : (h.push { cls := .type "dict", data := .dict #[] }).get? h.objs.size = some { cls := .type "dict", data := .dict #[] } := Heap.get?_push_size _ rfl
  refine wpAny_bind (wpAny_alloc (wpAny_bind (wpAny_update he' (wpAny_pure ?_))))
  have e1 := Heap.get?_update_self (fun o : Obj => { o with dict := some h.objs.size }) he' rfl
  have d1 : ((h.push { cls := .type "dict", data := .dict #[] }).update e fun o => { o with dict := some h.objs.size }).get? h.objs.size = some (dictOf [] 0) := (Heap.get?_update_other _ _ (Ne.symm hne)).trans hd'
  refine wpAny_bind (wpAny_pure (wpAny_bind ?_))
  unfold nsSet
  refine wpAny_bind (wpAny_bind (wpAny_askSetting (wpAny_pure (wpAny_bind (wpAny_mkText (wpAny_bind (wpAny_loadPart d1 ?_)))))))
  refine wpAny_updatePart d1 (wpAny_bind (wpAny_lookBehind (Heap.get?_update_self _ d1 (by rw [putName_dict]; rfl)) (by rw [putName_dict]; exact pastItsLine_dict (by rw [List.size_toArray, sizeLine_eq]; exact Nat.le_trans (Nat.le_refl 1) (by decide))) (wpAny_pure (hq _ _ (fun b o hb ho => ?_) ⟨h.objs.size, ?_⟩))))
  · have hbs : b ≠ h.objs.size := Nat.ne_of_lt (Heap.lt_size ho)
    rw [Heap.get?_update_other _ _ (Ne.symm hbs), Heap.get?_update_other _ _ (Ne.symm hb)]
    exact Heap.get?_push_of_some _ ho
  · rw [Heap.get?_update_other _ _ hne]
    exact e1
end
end Vh
end
section
namespace Vh
open PySem PySem.W PySem.Calls PyProof.Rows Vg
set_option maxRecDepth 100000
set_option maxHeartbeats 400000
noncomputable abbrev ps (a b c : Nat) : Pos := { line := a, col := b, endLine := a, endCol := c }
noncomputable abbrev inB : List Stmt := [.Expr (.Call (.Attribute (.Name "Exception" (ps 5 8 17)) "__init__" (ps 5 8 26)) [.Name "self" (ps 5 27 31), .Name "text" (ps 5 33 37)] [] (ps 5 8 38)) (ps 5 8 38),
  .Assign [.Attribute (.Name "self" (ps 6 8 12)) "text" (ps 6 8 17)] (.Name "text" (ps 6 20 24)) (ps 6 8 24)]
noncomputable abbrev inA : List Arg := [{ arg := "self", annotation := none, pos := ps 4 17 21 }, { arg := "text", annotation := none, pos := ps 4 23 27 }]
noncomputable abbrev inS : Scope := { kind := .function, names := [("self", .local), ("text", .local), ("Exception", .globalImplicit)], isGenerator := false, isCoroutine := false }
noncomputable abbrev inF : FuncData := { name := "__init__", qualname := "ChessError.__init__", params := { posonlyargs := [], args := inA, vararg := none, kwonlyargs := [], kw_defaults := [], kwarg := none, defaults := [] }, body := .stmts inB, scope := inS, globals := 3, closure := [], defaults := .none, kwdefaults := .none, pyModule := .str "chess.errors" 187, code := .ref 27 }
theorem in_at (P : Params) : (KF P).lookup 28 = some { cls := .type "function", data := .func inF } := by kernel_rfl
theorem in_code (P : Params) : codeIn (KF P) (.ref 27) "ChessError.__init__" = true := by kernel_rfl
section
variable {prog : Program} {w : World} {A : Around} {E : Value → Shared → Prop} {P : Params} {env : Env} {s : Shared}
theorem in_call_eq : eval (.Call (.Attribute (.Name "Exception" (ps 5 8 17)) "__init__" (ps 5 8 26)) [.Name "self" (ps 5 27 31), .Name "text" (ps 5 33 37)] [] (ps 5 8 38)) env = (do
      let ov ← eval (.Name "Exception" (ps 5 8 17)) env
      standAt (ps 5 8 26).atName
      let fx ← holding [ov] (getMethod ov "__init__" (do return (← importBound (.Name "Exception" (ps 5 8 17)) env).getD true))
      callWith (ps 5 8 38) fx.1 fx.2 (backTo (ps 5 8 38) (starEach [.Name "self" (ps 5 27 31), .Name "text" (ps 5 33 37)] env)) []) := by
  rfl
theorem bad_user_init {h₀ : Heap} {mg mb : Str → Option Value} {p : Program} {loose : List Str} {e t0 : Addr} {x : Value} {R : Result → Shared → Prop} (X₀ : (KF P).In h₀) (T : TopRead p loose mg mb h₀) (hm : mg "Exception" = none)
    (K : ∀ b o, h₀.get? b = some o → s.heap.get? b = some o) (hsz : h₀.objs.size ≤ s.heap.objs.size) (hdep : A.depth < recursionLimit) (he : s.heap.get? e = some (exO t0 none)) (he0 : h₀.get? e = none)
    (hq : ∀ h' tk, (∀ b o, b ≠ e → s.heap.get? b = some o → h'.get? b = some o) → (∃ t dx, h'.get? e = some (exO t (some dx))) → R (.ok (.ret .none)) { s with heap := h', toks := tk }) :
    codeAny (model prog w) A (.call (.ref 28) ⟨[.ref e, x], []⟩) R s := by
  refine codeAny_call_cells (fd := inF) (body := inB) (binds := [("self", .ref e), ("text", x)]) hdep (K _ _ (X₀ _ _ (in_at P))) rfl (T.nolimit.keeps K) ((codeRec_of X₀ (in_code P)).keeps K) rfl
    (bind_plain (as := inA) rfl rfl rfl (by decide) (vals := [.ref e, x]) rfl) rfl (fun y hy => .inl ?_) (fun s₁ Y => ?_) rfl rfl rfl
  · rcases List.mem_cons.mp hy with rfl | hy
    · exact rfl
    · rw [List.mem_singleton.mp hy]; exact rfl
  have hns := Y.toInCall.ns
  have neL : ∀ {b o}, s.heap.get? b = some o → b ≠ s.heap.objs.size := fun h q => Nat.ne_of_lt (Heap.lt_size h) q
  generalize hL : s.heap.objs.size = L at *
  obtain ⟨h₁, tk, rfl, kk⟩ := Y.done
  have vself := bindL_get (kindOf := (callEnvC inF L 28).kindOf) (m := fun zz => none) (x := "self") rfl (names := ["self", "text"]) (vals := [.ref e, x]) (i := 0) (by decide) rfl rfl
  have vtext := bindL_get (kindOf := (callEnvC inF L 28).kindOf) (m := fun zz => none) (x := "text") rfl (names := ["self", "text"]) (vals := [.ref e, x]) (i := 1) (by decide) rfl rfl
  have hns : h₁.Ns L (bindL (callEnvC inF L 28).kindOf (List.zip ["self", "text"] [.ref e, x]) fun zz => none) := hns
  clear Y
  generalize bindL (callEnvC inF L 28).kindOf (List.zip ["self", "text"] [.ref e, x]) (fun zz => none) = m at vself vtext hns
  have F : Fr h₀ L h₁ m := ⟨hns, fun b o z => kk b o (K b o z), hsz⟩
  have hC : h₁.get? 44 = some badO := F.keep _ _ (X₀ _ _ (bad_at P))
  have ne : e ≠ L := neL he
  have he1 := kk _ _ he
  refine wpAny_execs_cons (wpAny_Expr ?_ rfl rfl)
  rw [in_call_eq]
  refine wpAny_bind (Calls.Name_function_global rfl rfl (Calls.loadGlobal_builtin (mg := mg) (mb := mb) (T.g.keeps F.keep) hm (T.b.keeps F.keep) ((T.builtins _ (by decide)).trans PyProof.Rows.Boot.«Exception») ?_) rfl)
  refine wpAny_bind (wpAny_standAt (wpAny_bind (wpAny_holding (method_type (s := { s with heap := h₁, toks := tk }) F X₀ rfl (by decide +kernel) (show findCls (KF P) (.type "Exception") (.type "type") "__init__" = some (.val (.builtin "Exception.__init__")) by kernel_rfl) rfl (Calls.callWith_builtin rfl ?_)))))
  have ld : ∀ {y : Str} {v : Value} {ps : Pos} {h' : Heap} {tk : Nat} {Q : Value → Shared → Prop} {E : Value → Shared → Prop}, inF.scope.names.lookup y = some .local → m y = some v → (y == ("__debug__" : Str)) = false → h'.Ns L m → Q v { s with heap := h', toks := tk } → wpAny (model prog w) (A.deeper (callEnvC inF L 28)) (eval (.Name y ps) (callEnvC inF L 28)) Q E { s with heap := h', toks := tk } :=
    fun h1 h2 h3 h4 q => wpAny_Name (wpAny_loadName_local rfl h1 h4 h2 q) h3
  show wpAny _ _ (evalArgs _ true ((false, eval (.Name "self" _) _) :: (false, eval (.Name "text" _) _) :: []) []) _ _ _
  refine Calls.evalArgs_plain (Calls.spliced_cons (ld rfl vself (by decide) hns (Calls.spliced_cons (ld rfl vtext (by decide) hns (Calls.spliced_nil ?_)))))
  refine wpAny_call (bad_init hC he1 (by show 1 ≤ sizeLine; rw [sizeLine_eq]; decide) ?_)
  have he2 := Heap.get?_update_self (Obj.mapFields (·.setIfInBounds 0 (.ref h₁.objs.size))) (Heap.get?_push_of_some { cls := .type "tuple", data := .seq [x].toArray } he1) rfl
  have k2 : ∀ b o, b ≠ e → h₁.get? b = some o → ((h₁.push { cls := .type "tuple", data := .seq [x].toArray }).update e (Obj.mapFields (·.setIfInBounds 0 (.ref h₁.objs.size)))).get? b = some o := fun b o hb ho => (Heap.get?_update_other _ _ (Ne.symm hb)).trans (Heap.get?_push_of_some _ ho)
  have hns2 : ((h₁.push { cls := .type "tuple", data := .seq [x].toArray }).update e (Obj.mapFields (·.setIfInBounds 0 (.ref h₁.objs.size)))).Ns L m := by
    obtain ⟨o, es, ep, z, r⟩ := hns
    exact ⟨o, es, ep, k2 _ _ (Ne.symm ne) z, r⟩
  generalize ((h₁.push { cls := .type "tuple", data := .seq [x].toArray }).update e (Obj.mapFields (·.setIfInBounds 0 (.ref h₁.objs.size)))) = h₂ at *
  have X2 : (KF P).In h₂ := X₀.keeps fun b o z => k2 b o (fun q => by rw [q, he0] at z; cases z) (F.keep b o z)
  have he2 : h₂.get? e = some (exO h₁.objs.size none) := he2
  refine wpAny_execs_cons (plainObj_wpAny_Assign_Attribute (ld rfl vtext (by decide) hns2 (ld rfl vself (by decide) hns2 (set_plain X2 (bad_inst he2) (by kernel_rfl) (bad_setd X2 he2 fun h' tk' a b => wpAny_execs_nil (hq _ _ (fun b o hb ho => a b o hb (k2 b o hb (kk b o ho))) ⟨_, b⟩))))) rfl)
end
end Vh
end
section
namespace Vh
open PySem PySem.W PySem.Calls Vg
set_option maxRecDepth 100000
set_option maxHeartbeats 400000
section
variable {prog : Program} {w : World} {A : Around} {E : Value → Shared → Prop} {P : Params} {env : Env} {h h₀ : Heap} {g : Array GenState} {d : Drawn} {t : Nat} {os : OsState} {mg mb : Str → Option Value} {p : Program} {loose : List Str} {x : Value}
theorem bad_type_call {Q : PySem.Fin → Shared → Prop} (X₀ : (KF P).In h₀) (T : TopRead p loose mg mb h₀) (hm : mg "Exception" = none)
    (K : ∀ b o, h₀.get? b = some o → h.get? b = some o) (hsz : h₀.objs.size ≤ h.objs.size) (hdep : A.depth < recursionLimit)
    (hq : ∀ h' tk e, (∀ b o, h.get? b = some o → h'.get? b = some o) → h.get? e = none → (∃ t dx, h'.get? e = some (exO t (some dx))) → Q (.done (.ret (.ref e))) ⟨h', g, d, tk, os⟩) :
    wpAny (model prog w) A (Builtin.«type.__call__» ⟨[.ref 44, x], []⟩) Q E ⟨h, g, d, t, os⟩ := by
  have F := PySem.F.excBase_Exception
  have hC : h.get? 44 = some badO := K _ _ (X₀ _ _ (bad_at P))
  have hl : [x].length ≤ sizeLine := by show 1 ≤ sizeLine; rw [sizeLine_eq]; decide
  repeat (first | with_reducible refine wpAny_loadPart_at hC ?_ | with_reducible refine wpAny_madeBy_exc hC ?_ | wp_step)
  refine codeAny_call_builtin_code (Code.quiet_builtin _ F.quiet) (bad_check_new (X₀.keeps K) ?_)
  refine bad_new hC hl ?_
  show wpAny _ _ _ _ _ _
  have k1 : ∀ b o, h.get? b = some o → ((h.push { cls := .type "tuple", data := .seq [x].toArray }).push (exO h.objs.size none)).get? b = some o := fun b o z => Heap.get?_push_of_some _ (Heap.get?_push_of_some _ z)
  have he : ((h.push { cls := .type "tuple", data := .seq [x].toArray }).push (exO h.objs.size none)).get? (h.objs.size + 1) = some (exO h.objs.size none) := by heap_get
  have hs1 : ((h.push { cls := .type "tuple", data := .seq [x].toArray }).push (exO h.objs.size none)).objs.size = h.objs.size + 2 := by simp only [Heap.size_push]
  generalize ((h.push { cls := .type "tuple", data := .seq [x].toArray }).push (exO h.objs.size none)) = h1 at *
  have C1 := k1 _ _ hC
  have X1 : (KF P).In h1 := X₀.keeps fun b o z => k1 b o (K b o z)
  unfold isInstance
  repeat (first | with_reducible refine wpAny_loadPart_at he ?_ | (with_reducible refine wpAny_isSubtype_exc C1 ?_; rw [bad_self]) | wp_step)
  show wpAny _ _ (typeLookup (.ref 44) _) _ _ _
  refine (looks_findIn X1 (show findIn (KF P) (.ref 44) "__init__" = some (some (.ref 28)) by kernel_rfl)).here ?_
  refine wpAny_holding (wpAny_bind ((bind_fn X1 _ (show typeIn (KF P) (.ref 28) = some (.type "function") by kernel_rfl)).here ?_))
  refine wpAny_bind (wpAny_call (bad_user_init X₀ T hm (fun b o z => k1 b o (K b o z)) (by show h₀.objs.size ≤ h1.objs.size; lia) hdep he ?_ fun h' tk a b => ?_))
  · cases z : h₀.get? (h.objs.size + 1) with
    | none => rfl
    | some o => exact absurd (Heap.lt_size (K _ _ z)) (Nat.not_lt.mpr (Nat.le_succ _))
  · wp_walk
    refine hq _ _ _ (fun b o z => a b o (fun q => ?_) (k1 b o z)) (Heap.get?_none_of_le (Nat.le_succ _)) b
    rw [q] at z; exact absurd (Heap.lt_size z) (Nat.not_lt.mpr (Nat.le_succ _))
theorem tc_weight (x : Value) : (Code.builtin "type.__call__" ⟨[.ref 44, x], []⟩).weight = 1 := by kernel_rfl
theorem bad_call {Q : Value → Shared → Prop} (X₀ : (KF P).In h₀) (T : TopRead p loose mg mb h₀) (hm : mg "Exception" = none)
    (K : ∀ b o, h₀.get? b = some o → h.get? b = some o) (hsz : h₀.objs.size ≤ h.objs.size) (hdep : A.depth + 1 < recursionLimit)
    (hq : ∀ h' tk e, (∀ b o, h.get? b = some o → h'.get? b = some o) → h.get? e = none → (∃ t dx, h'.get? e = some (exO t (some dx))) → Q (.ref e) ⟨h', g, d, tk, os⟩) :
    wpAny (model prog w) A (call (.ref 44) [x]) Q E ⟨h, g, d, t, os⟩ := by
  have hC : h.get? 44 = some badO := K _ _ (X₀ _ _ (bad_at P))
  have f1 := tc_lookup
  have f2 := tc_bind (.ref 44)
  have hT : (⟨h, g, d, t, os⟩ : Shared).TypeIs (.ref 44) "type" := ⟨_, hC, rfl⟩
  refine wpAny_call (codeAny_of_tree ?_)
  show wpAny _ _ (callAny (.ref 44) _) _ _ _
  repeat (any_goals (first | assumption | with_reducible refine wpAny_loadPart_at hC ?_ | wp_step))
  refine ⟨rfl, ?_⟩
  exact codeAny_call_builtin_at (Code.quiet_builtin _ (by decide +kernel)) entry_typeCall (wpAny_check_type_call_sub hC (bad_type_call X₀ T hm K hsz (by show A.depth + Code.weight (Code.builtin "type.__call__" ⟨[.ref 44, x], []⟩) < _; rw [tc_weight]; exact hdep) hq))
theorem bad_raise {s : Shared} {xs : Sem Value} {Q : Flow → Shared → Prop} (hh : A.handled = none)
    (hx : wpAny (model prog w) A xs (fun v s₁ => ∃ e t dx, v = .ref e ∧ s₁.heap.get? 44 = some badO ∧ s₁.heap.get? e = some (exO t (some dx)) ∧ E (.ref e) s₁) E s) :
    wpAny (model prog w) A (raiseStmt env (some xs) none) Q E s := by
  have hcB := bad_bb
  unfold raiseStmt
  refine wpAny_bind (wpAny_mono hx (fun v s₁ h₁ => ?_) fun _ _ x => x)
  obtain ⟨e, t, dx, rfl, hC, he, hE⟩ := h₁
  obtain ⟨hp, g, d, tk, os⟩ := s₁
  repeat (first | with_reducible refine wpAny_loadPart_at he ?_ | with_reducible refine wpAny_loadPart_at hC ?_ | (with_reducible refine wpAny_isSubtype_exc hC ?_; rw [hcB]) | wp_step)
  exact wpAny_raiseNew_none hh hE
end
end Vh
end
section
namespace Vg
open PySem PySem.W PyProof.Rows Vh
set_option maxRecDepth 100000
set_option maxHeartbeats 0
section
variable {W : Wd} {own : Addr → Prop} {frs : List Env} {env : Env} {H H' : FH} {M : Mem} {s s₁ s' : Shared} {base h' : Heap} {e L : Addr} {A : Around} {E : Value → Shared → Prop}
noncomputable def Air (base : Heap) (H' : FH) (M : Mem) (h : Heap) (fr : Addr → Prop) : Prop := (∀ b o, H' b = some o → base.get? b = some o) ∧ (∀ b x, M b = some x → ∃ o, base.get? b = some o) ∧ ∀ b o, h.get? b = some o → ¬ fr b → ∃ o', base.get? b = some o'
noncomputable def Fly (W : Wd) (own : Addr → Prop) (frs : List Env) (H : FH) (M : Mem) (s : Shared) (e : Addr) (s' : Shared) : Prop :=
  ∃ H' base a0, Step own (frOf frs) H M s H' M s' ∧ Inv W H' M s' ∧ Air base H' M s.heap (frOf frs) ∧ Heap.FlyingW base frs e (.ref 44) a0 s'.heap
theorem frOf_mem {b : Addr} (h : frOf frs b) : b ∈ frs.filterMap (·.frame) := let ⟨x, hx, hf⟩ := h; List.mem_filterMap.mpr ⟨x, hx, hf⟩
theorem fly_on (S : Step none_ (frOf frs) H M s H' M s') (I : Inv W H' M s') (st : base.StaysIn s'.heap) (ff : s'.heap.FunFrames base frs) (air : Air base H' M s.heap (frOf frs)) (st' : base.StaysIn h') (U : s'.heap.UpToSlots h') :
    Step none_ (frOf frs) H M s H' M { s' with heap := h' } ∧ Inv W H' M { s' with heap := h' } := by
  refine go1 fun G hG => ?_
  obtain ⟨b1, b2, b3⟩ := air
  refine hG ?_
  have same : ∀ {b o}, s'.heap.get? b = some o → (∃ o', base.get? b = some o') → h'.get? b = some o := fun {b o} e ⟨o', z⟩ => by
    have := st _ _ z
    rw [e] at this; cases this
    exact st' _ _ z
  refine ⟨⟨fun b o e => ?_, fun b o e hM ho hf => same (S.keep b o e hM ho hf) (b3 b o e hf), fun b m e hM ho => U.ns (S.keepF b m e hM ho), S.agr, S.mem, S.gens, S.os⟩, ⟨fun b o e => st' _ _ (b1 b o e), I.base, fun b x e => ?_, I.disj⟩⟩
  · by_cases hf : frOf frs b
    · refine go1 fun G hG => ?_
      obtain ⟨_, o', ho, hn⟩ := ff.mem (frOf_mem hf)
      obtain ⟨sl, z⟩ := U b o' ho hn
      refine hG ?_
      exact ⟨_, z⟩
    · obtain ⟨o', z⟩ := b3 b o e hf
      exact ⟨_, st' _ _ z⟩
  · obtain ⟨o, e1, e2⟩ := I.mem b x e
    exact ⟨o, same e1 (b2 b x e), e2⟩
theorem air_out (air : Air base H' M s₁.heap (frOf (env :: frs))) (hf : env.frame = some s.heap.objs.size) (kk : ∀ b o, s.heap.get? b = some o → s₁.heap.get? b = some o) : Air base H' M s.heap (frOf frs) :=
  ⟨air.1, air.2.1, fun b o e hb => air.2.2 b o (kk b o e) fun ⟨x, hx, hxf⟩ => by
    rcases List.mem_cons.mp hx with rfl | hx
    · rw [hf] at hxf; cases hxf; exact Nat.lt_irrefl _ (Heap.lt_size e)
    · exact hb ⟨x, hx, hxf⟩⟩
theorem leave_on (hfr : A.frames = some frs) (hf : env.frame = some s.heap.objs.size) (ST : ∀ {H' : FH} {M' : Mem} {s' : Shared}, Step own (frOf (env :: frs)) H M s₁ H' M' s' → Step none_ (frOf frs) H M s H' M' s') (kk : ∀ b o, s.heap.get? b = some o → s₁.heap.get? b = some o)
    (F : Fly W own (env :: frs) H M s₁ e s') : wpAny (model W.prog W.w) (A.deeper env) (leaving env (.ref e)) (fun _ s'' => Fly W none_ frs H M s e s'') E s' := by
  refine go1 fun G hG => ?_
  obtain ⟨H', base, a0, S, I, air, f⟩ := F
  refine hG ?_
  have air' := air_out air hf kk
  refine wpAny_leaves_onW (Around.frames_deeper hfr) hf f fun h' f' U => ?_
  obtain ⟨S', I'⟩ := fly_on (ST S) I f.1 f.2.2.1.2.2 air' f'.1 U
  exact ⟨H', base, a0, S', I', air', f'⟩
theorem funFrames_of {h : Heap} {as : List Addr} : ∀ {l : List Env}, (∀ x ∈ l, x.scope.kind = .function ∧ ∃ L', x.frame = some L' ∧ L' ∈ as ∧ ∃ m, h.Ns L' m) → h.FunFrames (hideAll h as) l
  | [], _ => trivial
  | x :: r, hx => by
    refine go1 fun G hG => ?_
    obtain ⟨k, L', h1, h2, m, o, es, ep, h3, h4, _⟩ := hx x (.head _)
    refine hG ?_
    exact ⟨(by rw [k]; decide), ⟨L', o, h1, hideAll_none _ h2, h3, fun vs q => by rw [h4] at q; cases q⟩, funFrames_of fun y hy => hx y (.tail _ hy)⟩
theorem leave_new {sr : Shared} {he : Heap} {tk : Nat} {t dx : Addr} (hfr : A.frames = some frs) (hf : env.frame = some s.heap.objs.size) (ST : ∀ {H' : FH} {M' : Mem} {s' : Shared}, Step own (frOf (env :: frs)) H M s₁ H' M' s' → Step none_ (frOf frs) H M s H' M' s') (kk : ∀ b o, s.heap.get? b = some o → s₁.heap.get? b = some o)
    (S : Step own (frOf (env :: frs)) H M s₁ H' M sr) (I : Inv W H' M sr) (FI : FrInv W (env :: frs) H' M sr.heap) (al : ∀ b o, s₁.heap.get? b = some o → ∃ o', sr.heap.get? b = some o') (ke : ∀ b o, sr.heap.get? b = some o → he.get? b = some o) (new : sr.heap.get? e = none) (hx : he.get? e = some (exO t (some dx))) :
    wpAny (model W.prog W.w) (A.deeper env) (leaving env (.ref e)) (fun _ s'' => Fly W none_ frs H M s e s'') E { sr with heap := he, toks := tk } := by
  have hin : ∀ {b}, b ∈ (env :: frs).filterMap (·.frame) → frOf (env :: frs) b := fun h => let ⟨x, a, b⟩ := List.mem_filterMap.mp h; ⟨x, a, b⟩
  have hb : ∀ {b o}, sr.heap.get? b = some o → ¬ frOf (env :: frs) b → (hideAll sr.heap ((env :: frs).filterMap (·.frame))).get? b = some o := fun e h => hideAll_get _ e fun q => h (hin q)
  have ffr : sr.heap.FunFrames (hideAll sr.heap ((env :: frs).filterMap (·.frame))) (env :: frs) := funFrames_of fun x hx => by
    refine go1 fun G hG => ?_
    obtain ⟨k, L', h1, _, m, h2⟩ := FI.fun_ x hx
    refine hG ?_
    exact ⟨k, L', h1, List.mem_filterMap.mpr ⟨x, hx, h1⟩, m, h2⟩
  have ff : he.FunFrames (hideAll sr.heap ((env :: frs).filterMap (·.frame))) (env :: frs) := ffr.of_keeps fun b o e _ => ⟨o, ke b o e, rfl⟩
  have air : Air (hideAll sr.heap ((env :: frs).filterMap (·.frame))) H' M s₁.heap (frOf (env :: frs)) := by
    refine ⟨fun b o e => hb (I.sub b o e) fun q => ?_, fun b x e => ?_, fun b o e q => ?_⟩
    · rw [FI.off b q] at e; cases e
    · obtain ⟨o, e1, _⟩ := I.mem b x e
      exact ⟨o, hb e1 fun q => by rw [FI.offM b q] at e; cases e⟩
    · obtain ⟨o', e'⟩ := al b o e
      exact ⟨o', hb e' q⟩
  have stays : (hideAll sr.heap ((env :: frs).filterMap (·.frame))).StaysIn he := fun b o z => ke b o (of_hideAll _ z)
  have en : (hideAll sr.heap ((env :: frs).filterMap (·.frame))).get? e = none := by
    cases z : (hideAll sr.heap ((env :: frs).filterMap (·.frame))).get? e with
    | none => rfl
    | some o => have := of_hideAll _ z; rw [new] at this; cases this
  generalize hideAll sr.heap ((env :: frs).filterMap (·.frame)) = base at *
  have S1 := (ST S).trans (Step.ext (tk := tk) ke)
  refine wpAny_leaving_firstW (a0 := .ref t) (Around.frames_deeper hfr) ff hf hx stays en rfl rfl rfl fun h' hL => ?_
  obtain ⟨st', ff', tr, U⟩ := hL
  have air' := air_out air hf kk
  obtain ⟨S', I'⟩ := fly_on S1 (I.ext (tk := tk) ke) stays ff.2.2 air' st' U
  exact ⟨H', base, .ref t, S', I', air', st', en, ff'.2.2, tr⟩
end
end Vg
end
section
namespace Vg
open PySem PySem.W PyProof.Rows Vh
set_option maxRecDepth 100000
set_option maxHeartbeats 0
structure BadOK (W : Wd) (P : Params) : Prop where
  X : (KF P).In W.h₀
  T : TopRead vw (looseW vw looseL) W.mg W.mb W.h₀
  b : W.mg "BadMove" = some (.ref 44)
  e : W.mg "Exception" = none
theorem bad_keep : ∀ P : Params, keepIn (KF P) (.ref 44) = true := fun P => by kernel_rfl
section
variable {W : Wd} {P : Params} {k : Nat} {sc : List (Str × NameKind)} {ρ : Rho} {n : Nat} {A : Around} {frs : List Env} {own : Addr → Prop} {env : Env} {m : List AV} {M : Mem} {N B : List AV → Mem → Prop} {R : AV → Mem → Prop} {H : FH} {s : Shared}
theorem raise_bad (O : BadOK W P) (wok : WOK W) {msg : Str} {np cp rp sp : Pos} {kk : Nat} (c : Cx W k sc ρ n A frs own env) (r : Rel W frs own env ρ H m M s) (hg : sc.lookup ("BadMove" : Str) = some .globalImplicit) {Q : Flow → Shared → Prop} {E : Value → Shared → Prop}
    (hq : ∀ h' tk e t dx, (∀ b o, s.heap.get? b = some o → h'.get? b = some o) → s.heap.get? e = none → h'.get? e = some (exO t (some dx)) → E (.ref e) { s with heap := h', toks := tk }) :
    wpAny (model W.prog W.w) A (exec (.Raise (some (.Call (.Name "BadMove" np) [.Constant (.str msg) kk sp] [] cp)) none rp) env) Q E s := by
  have K : ∀ b o, W.h₀.get? b = some o → s.heap.get? b = some o := fun b o e => r.inv.sub b o (r.inv.base b o e)
  have hsz : W.h₀.objs.size ≤ s.heap.objs.size := by
    obtain ⟨a, o, e, h⟩ := wok.top
    rw [h]; exact Heap.lt_size (K _ _ e)
  rw [arm_exec_Raise]
  refine wpAny_bind (wpAny_standAt (bad_raise c.ha.handled ?_))
  refine wpAny_bind (wpAny_mono (Call_ (glob_name wok hg rfl O.b c.ok r (callWith_of (P := fun h => (KF P).In h) rfl (keeps_K (bad_keep P)) ?_))) (fun v s₃ h₃ => wpAny_bind (wpAny_standAt (wpAny_pure h₃))) fun _ _ x => x)
  show wpAny _ _ (evalArgs _ true ((false, eval (.Constant (.str msg) kk sp) env) :: []) []) _ _ _
  refine Calls.evalArgs_plain (Calls.spliced_cons (wpAny_Constant_str (Calls.spliced_nil ⟨O.X.keeps K, ?_⟩)))
  exact bad_call O.X O.T O.e K hsz (by have := c.ha.depth; omega) fun h' tk e k1 new ⟨t, dx, hx⟩ => ⟨e, t, dx, rfl, k1 _ _ (K _ _ (O.X _ _ (bad_at P))), hx, hq _ _ _ _ _ k1 new hx⟩
theorem execs_append {env : Env} {post : List Stmt} : ∀ pre : List Stmt, execs (pre ++ post) env = (do match ← execs pre env with | .next => execs post env | f => pure f)
  | [] => rfl
  | a :: r => by
    rw [List.cons_append, execs_cons, execs_cons, bind_assoc]
    congr 1
    funext f
    cases f with
    | next => exact execs_append r
    | _ => rfl
theorem pre_then {pre post : List Stmt} {x : St} (h : SndB W k sc ρ n pre x) (c : Cx W k sc ρ n A frs own env) (r : Rel W frs own env ρ H m M s) (hv : x m M N (fun _ _ => False) fun _ _ => False) {Q : Flow → Shared → Prop} {E : Value → Shared → Prop}
    (go : ∀ H' M' m' s', Step own (frOf frs) H M s H' M' s' → Rel W frs own env ρ H' m' M' s' → N m' M' → wpAny (model W.prog W.w) A (execs post env) Q E s') : wpAny (model W.prog W.w) A (execs (pre ++ post) env) Q E s := by
  rw [execs_append]
  refine wpAny_bind (botE (wpAny_mono (h c r hv) (fun fl s' ⟨H', M', m', S', R', q⟩ => ?_) fun _ _ e => e))
  cases fl with
  | next => exact go H' M' m' s' S' R' q
  | brk => exact q.elim
  | cont => exact q.elim
  | ret v => obtain ⟨_, _, q⟩ := q; exact q.elim
end
noncomputable def dOf (x : Str) : DefRec := ((defR x).map (·.1)).getD dLaw
noncomputable abbrev dCC : DefRec := dOf "castle_change"
theorem cc_body : dCC.body = dCC.body.take 3 ++ [.Raise (some (.Call (.Name "BadMove" (ps 128 10 17)) [.Constant (.str "no such castling on this board") 0 (ps 128 18 50)] [] (ps 128 10 51))) none (ps 128 4 51)] := by kernel_rfl
noncomputable def cc3 : St := .seq (.setv 5 (.call t_side_of [(.v 1)])) (.seq (.setv 6 (.call t_make_piece [(.v 5), (.c (.int 4))])) (.seq (.for (.v 7) (.tup [(.bin .mul (.c (.int 2)) (.v 5)), (.bin .add (.bin .mul (.c (.int 2)) (.v 5)) (.c (.int 1)))]) w_castle_change_1) .nop))
theorem cc_tr {w : World} {h : Heap} {mg mb : Str → Option Value} (t : TabOK (mkW w h mg mb) 2 tab) : (trD t (argN dCC.params) dCC.scope (dCC.body.take 3)).map (·.1) = some cc3 := by kernel_rfl
theorem cc_sc : dCC.scope.names.lookup ("BadMove" : Str) = some .globalImplicit := by kernel_rfl
theorem cc_ok : (plainA dCC.params && defOK (argN dCC.params) dCC.scope) = true := by kernel_rfl
section
variable {M : Mem} {N B : List AV → Mem → Prop} {R : AV → Mem → Prop} {gf : List (Nat × AV)} {cs : List AV} {pc s j : Int} {tb v5 v6 v8 v9 x : AV}
theorem cc_turn (hl : gf.lookup 12 = some (.lst cs)) (h0 : 0 ≤ j) (hj : cs[j.toNat]? = some x) (hx : x = .none ∨ ∃ a b r, x = .tup (.int a :: .int b :: r) ∧ a ≠ b) (q : N [.obj 0 gf, .int pc, .int s, .int s, tb, v5, v6, .int j, x, v9] M) :
    w_castle_change_1 [.obj 0 gf, .int pc, .int s, .int s, tb, v5, v6, .int j, v8, v9] M N B R := by
  rcases hx with rfl | ⟨a, b, r, rfl, hab⟩
  · exact .intro _ <| .intro hl <| subF h0 hj <| .intro (fun h => nomatch h) fun _ => iN id q
  · exact .intro _ <| .intro hl <| subF h0 hj <| .intro (fun _ => subF (Int.le_refl 0) rfl <| .intro (fun h1 => subF (by decide : (0 : Int) ≤ 1) rfl <| iN (fun h2 => hab (h1.trans h2.symm)) q) fun _ => iN id q) fun h => absurd rfl h
theorem cc_walk (hl : gf.lookup 12 = some (.lst cs)) (h4 : cs.length = 4) (hcs : ∀ x ∈ cs, x = .none ∨ ∃ a b r, x = .tup (.int a :: .int b :: r) ∧ a ≠ b) (hp : 0 ≤ pc ∧ pc < 16) :
    cc3 [.obj 0 gf, .int pc, .int s, .int s, tb, .undef, .undef, .undef, .undef, .undef] M (fun _ M' => M' = M) (fun _ _ => False) fun _ _ => False := by
  have hd : 0 ≤ pc / 8 ∧ pc / 8 ≤ 1 := by omega
  have at_ : ∀ j : Int, 0 ≤ j ∧ j < 4 → ∃ x, cs[j.toNat]? = some x ∧ (x = .none ∨ ∃ a b r, x = .tup (.int a :: .int b :: r) ∧ a ≠ b) := fun j hj => by
    have hj' : j.toNat < cs.length := by omega
    exact ⟨_, List.getElem?_eq_getElem hj', hcs _ (List.getElem_mem _)⟩
  refine go1 fun G hG => ?_
  obtain ⟨x, e1, h1⟩ := at_ (2 * (pc / 8)) (by omega)
  obtain ⟨y, e2, h2⟩ := at_ (2 * (pc / 8) + 1) (by omega)
  refine hG ?_
  exact C_side_of <| C_make_piece ⟨by omega, by omega⟩ <| .intro (smc rfl) <| .intro (smc rfl) <| forP.of <| cc_turn hl (by omega) e1 h1 <| .intro trivial <| cc_turn hl (by omega) e2 h2 <| .intro trivial rfl
end
end Vg
end
section
namespace Vg
open PySem PySem.W PyProof.Rows Vh
set_option maxRecDepth 100000
set_option maxHeartbeats 0
section
variable {w : World} {h : Heap} {mg mb : Str → Option Value} {s₀ : Shared} {x : Str} {d : DefRec} {P : Params}
theorem fnOK_of (G : Ground vw looseL [] (XL vw []) w s₀ mg mb h) (hd : defOf vw x = some (d, [])) (hc : (plainA d.params && defOK (argN d.params) d.scope) = true) :
    ∃ fa, (mg x = some (.ref fa) ∧ ∃ o fd, h.get? fa = some o ∧ o.data = .func fd) ∧ FnOK (mkW w h mg mb) fa (argN d.params) d.body d.scope := by
  obtain ⟨hp, h2⟩ := Bool.and_eq_true_iff.mp hc
  obtain ⟨a, o, pm, cd, doc, dV, kV, h1, h2', h3, h4, h5⟩ := G.fn hd
  have hd0 : d.params.defaults = [] := by rw [plain_is hp]
  have e1 : dV = .none := h5.pos.elim (fun z => z.2) fun z => absurd hd0 z.1
  have e2 : kV = .none := h5.kw.elim (fun z => z.2) fun z => absurd rfl z.1
  have hn : (argN d.params).Nodup := by
    unfold defOK at h2
    simp only [Bool.and_eq_true, decide_eq_true_eq] at h2
    exact h2.1.1.1.2
  exact ⟨a, ⟨h1, o, _, h2', h3⟩, ⟨o, _, h2', h3, h4, rfl, rfl, rfl, rfl, rfl, fun vals hl => bind_plain (as := d.params.args) (plain_is hp) e1 e2 hn hl⟩⟩
theorem cc_def : defOf vw "castle_change" = some (dCC, []) := by
  rw [defR_eq]
  kernel_rfl
noncomputable def FlyCall (W : Wd) (k : Nat) (fa : Addr) (xs : List AV) (M : Mem) : Prop :=
  ∀ (A : Around) (frs : List Env), AOK A k frs → ∀ (H : FH) (s : Shared) (vs : List Value), Inv W H M s → FrInv W frs H M s.heap → VRs W H vs xs →
    codeAny (model W.prog W.w) A (.call (.ref fa) ⟨vs, []⟩) (fun r s' => ∃ e, r = .error (.ref e) ∧ Fly W none_ frs H M s e s') s
theorem cc_fly (O : BadOK (mkW w h mg mb) P) (t : TabOK (mkW w h mg mb) 2 tab) {fa : Addr} (fok : FnOK (mkW w h mg mb) fa (argN dCC.params) dCC.body dCC.scope) {M : Mem} {gf : List (Nat × AV)} {cs : List AV} {pc s : Int} {tb : AV}
    (hl : gf.lookup 12 = some (.lst cs)) (h4 : cs.length = 4) (hcs : ∀ x ∈ cs, x = .none ∨ ∃ a b r, x = .tup (.int a :: .int b :: r) ∧ a ≠ b) (hp : 0 ≤ pc ∧ pc < 16) :
    FlyCall (mkW w h mg mb) 3 fa [.obj 0 gf, .int pc, .int s, .int s, tb] M := fun A frs ha H st vs I FI V => by
  obtain ⟨x, _, e2⟩ := Option.map_eq_some_iff.mp (cc_tr t)
  refine call_gen (p := 5) t.wok fok (Bool.and_eq_true_iff.mp cc_ok).2 rfl ha I FI V fun hf c r ST kk => ?_
  rw [cc_body]
  refine pre_then x.2 c r (N := fun _ M' => M' = M) (e2 ▸ cc_walk hl h4 hcs hp) fun H' M' m' s' S R q => ?_
  subst q
  exact wpAny_execs_cons (raise_bad O t.wok c R cc_sc fun h' tk e tt dx k1 new hx => wpAny_mono (leave_new ha.frames hf ST kk S R.inv R.fi S.alive k1 new hx) (fun _ _ F => ⟨e, rfl, F⟩) fun _ _ x => x)
end
end Vg
end
section
namespace Vg
open PySem PySem.W PyProof.Rows Vh
set_option maxRecDepth 100000
set_option maxHeartbeats 0
section
variable {W : Wd} {P : Params} {k j : Nat} {sc : List (Str × NameKind)} {ρ : Rho} {n : Nat} {A : Around} {frs : List Env} {own : Addr → Prop} {env : Env} {m : List AV} {M : Mem} {N B : List AV → Mem → Prop} {R : AV → Mem → Prop} {H H1 : FH} {s s1 s' : Shared} {e fa : Addr} {x : Str} {es : List Expr} {xs : List X} {xp pos : Pos}
theorem Fly.lift (S : Step own (frOf frs) H M s H1 M s1) (F : Fly W none_ frs H1 M s1 e s') : Fly W own frs H M s e s' := by
  refine go1 fun G hG => ?_
  obtain ⟨H', base, a0, S', I, air, f⟩ := F
  refine hG ?_
  exact ⟨H', base, a0, S.trans (S'.weaken (fun _ _ _ q => q.elim) fun _ _ _ _ q => q), I, ⟨air.1, air.2.1, fun b o h hb => let ⟨o', h'⟩ := S.alive b o h; air.2.2 b o' h' hb⟩, f⟩
theorem call_flies (wok : WOK W) (hf : W.mg x = some (.ref fa) ∧ ∃ o fd, W.h₀.get? fa = some o ∧ o.data = .func fd) (hj : j < k) (hd : (x == ("__debug__" : Str)) = false) (hg : sc.lookup x = some .globalImplicit) (hs : Snds W k sc ρ n es xs)
    (c : Cx W k sc ρ n A frs own env) (r : Rel W frs own env ρ H m M s) (hv : evs xs m M fun ys M' => M' = M ∧ FlyCall W j fa ys M) {Q : Value → Shared → Prop} {E : Value → Shared → Prop}
    (go : ∀ e s', Fly W own frs H M s e s' → E (.ref e) s') : wpAny (model W.prog W.w) A (eval (.Call (.Name x xp) es [] pos) env) Q E s := by
  refine go1 fun G hG => ?_
  obtain ⟨t1, o, fd, t2, t3⟩ := hf
  refine hG ?_
  refine Call_ (glob_name wok hg hd t1 c.ok r (Calls.callWith_function (o := o) (fd := fd) (evalArgs_sound hs ?_)))
  refine botE (evl_then (args_sound hs c r hv) fun H1 M1 ys vs s1 S1 I1 V1 q1 => ⟨⟨I1.sub _ _ (I1.base _ _ t2), t3⟩, ?_⟩)
  obtain ⟨rfl, FC⟩ := q1.2
  refine wpAny_call (codeAny_mono (FC _ _ (c.ha.mono (Nat.le_of_lt hj)) H1 s1 vs I1 (c.step r S1 I1).fi V1) fun r' s' hr => ?_)
  obtain ⟨e, rfl, F⟩ := hr
  exact go e s' (F.lift (Step.ofE c.ok S1))
end
noncomputable abbrev dPC : DefRec := dOf "psq_change"
noncomputable abbrev pcT : Expr := .Compare (.Name "special" (ps 134 7 14)) [.Eq] [.Name "CASTLING" (ps 134 18 26)] (ps 134 7 26)
noncomputable abbrev pcA : List Expr := [.Attribute (.Name "pos" (ps 135 29 32)) "geo" (ps 135 29 36), .Name "piece" (ps 135 38 43), .Name "origin" (ps 135 45 51), .Name "to" (ps 135 53 55), .Name "table" (ps 135 57 62)]
theorem pc_body : dPC.body = dPC.body.take 4 ++ (.If pcT [.Return (some (.Call (.Name "castle_change" (ps 135 15 28)) pcA [] (ps 135 15 63))) (ps 135 8 63)] [] { line := 134, col := 4, endLine := 135, endCol := 63 } :: dPC.body.drop 5) := by kernel_rfl
noncomputable def pc4 : St := .seq (.setv 3 (.call t_move_from [(.v 1)])) (.seq (.setv 4 (.call t_move_to [(.v 1)])) (.seq (.setv 5 (.call t_move_special [(.v 1)])) (.seq (.setv 6 (.sub (.at (.v 0) 20) (.v 3))) .nop)))
noncomputable abbrev nmD (d : DefRec) : List Str := namesOf (argN d.params) d.scope
noncomputable def trX {W : Wd} {k : Nat} (t : TabOK W k tab) (d : DefRec) (e : Expr) := trE t 60 d.scope.names (rhoOf (argN d.params) d.scope) (nmD d).length e
noncomputable def trXs {W : Wd} {k : Nat} (t : TabOK W k tab) (d : DefRec) (es : List Expr) := trArgs (trE t 60) d.scope.names (rhoOf (argN d.params) d.scope) (nmD d).length es
section
variable {w : World} {h : Heap} {mg mb : Str → Option Value} {P : Params}
theorem pc_tr (t : TabOK (mkW w h mg mb) 4 tab) : (trD t (argN dPC.params) dPC.scope (dPC.body.take 4)).map (·.1) = some pc4 := by kernel_rfl
theorem pc_te (t : TabOK (mkW w h mg mb) 4 tab) : (trX t dPC pcT).map (·.1) = some (.cmp .eq (.v 5) (.c (.int 3))) := by kernel_rfl
theorem pc_ta (t : TabOK (mkW w h mg mb) 4 tab) : (trXs t dPC pcA).map (·.1) = some [(.at (.v 0) 18), (.v 6), (.v 3), (.v 4), (.v 2)] := by kernel_rfl
theorem pc_sc : dPC.scope.names.lookup ("castle_change" : Str) = some .globalImplicit := by kernel_rfl
theorem pc_ok : (plainA dPC.params && defOK (argN dPC.params) dPC.scope) = true := by kernel_rfl
theorem pc_def : defOf vw "psq_change" = some (dPC, []) := by
  rw [defR_eq]
  kernel_rfl
theorem mv_num : ∀ s : Fin 64, Builtin.bitAnd ((49152 + 65 * (s.val : Int)) / 64) 63 = s.val ∧ Builtin.bitAnd (49152 + 65 * (s.val : Int)) 63 = s.val ∧ Builtin.bitAnd ((49152 + 65 * (s.val : Int)) / 16384) 3 = 3 := by decide +kernel
end
end Vg
end
section
namespace Vg
open PySem PySem.W PyProof.Rows Vh
set_option maxRecDepth 100000
set_option maxHeartbeats 0
theorem defd_of {x : AV} {G : AV → Prop} (h : x ≠ .undef) (q : G x) : defd x G := by cases x <;> first | exact q | exact absurd rfl h
theorem Fly.lift' {W : Wd} {own : Addr → Prop} {frs : List Env} {H H1 : FH} {M : Mem} {s s1 s' : Shared} {e : Addr} (S : Step own (frOf frs) H M s H1 M s1) (F : Fly W own frs H1 M s1 e s') : Fly W own frs H M s e s' := by
  refine go1 fun G hG => ?_
  obtain ⟨H', base, a0, S', I, air, f⟩ := F
  refine hG ?_
  exact ⟨H', base, a0, S.trans S', I, ⟨air.1, air.2.1, fun b o h hb => let ⟨o', h'⟩ := S.alive b o h; air.2.2 b o' h' hb⟩, f⟩
section
variable {w : World} {h : Heap} {mg mb : Str → Option Value} {s₀ : Shared} {P : Params} {M : Mem} {d b : Addr} {fs gf : List (Nat × AV)} {cs bd : List AV} {pc s : Int} {tb : AV}
theorem pc_walk (hM : M d = some (.flds fs)) (h20 : fs.lookup 20 = some (.ref b)) (hb : M b = some (.list bd)) (hs : 0 ≤ s ∧ s < 64) (hp : bd[s.toNat]? = some (.int pc)) :
    pc4 [.inst 2 d, .int (49152 + 65 * s), tb, .undef, .undef, .undef, .undef, .undef, .undef] M (fun m' M' => m' = [.inst 2 d, .int (49152 + 65 * s), tb, .int s, .int s, .int 3, .int pc, .undef, .undef] ∧ M' = M) (fun _ _ => False) fun _ _ => False := by
  obtain ⟨n, rfl⟩ := Int.eq_ofNat_of_zero_le hs.1
  obtain ⟨a1, a2, a3⟩ := mv_num ⟨n, by lia⟩
  exact C_move_from a1 <| C_move_to a2 <| C_move_special a3 <| .intro fs <| .intro hM <| .intro _ <| .intro h20 <| subX hb hs.1 hp ⟨rfl, rfl⟩
theorem pc_fly (G : Ground vw looseL [] (XL vw []) w s₀ mg mb h) (O : BadOK (mkW w h mg mb) P) (t : TabOK (mkW w h mg mb) 4 tab) (t2 : TabOK (mkW w h mg mb) 2 tab) {fb : Addr} (fok : FnOK (mkW w h mg mb) fb (argN dPC.params) dPC.body dPC.scope)
    (hM : M d = some (.flds fs)) (h18 : fs.lookup 18 = some (.obj 0 gf)) (h20 : fs.lookup 20 = some (.ref b)) (hb : M b = some (.list bd)) (hs : 0 ≤ s ∧ s < 64) (hbd : bd[s.toNat]? = some (.int pc))
    (hl : gf.lookup 12 = some (.lst cs)) (h4 : cs.length = 4) (hcs : ∀ x ∈ cs, x = .none ∨ ∃ a b r, x = .tup (.int a :: .int b :: r) ∧ a ≠ b) (hp : 0 ≤ pc ∧ pc < 16) (htb : tb ≠ .undef) :
    FlyCall (mkW w h mg mb) 5 fb [.inst 2 d, .int (49152 + 65 * s), tb] M := fun A frs ha H st vs I FI V => by
  obtain ⟨x, _, e2⟩ := Option.map_eq_some_iff.mp (pc_tr t)
  obtain ⟨y, _, y2⟩ := Option.map_eq_some_iff.mp (pc_te t)
  obtain ⟨z, _, z2⟩ := Option.map_eq_some_iff.mp (pc_ta t)
  obtain ⟨fa, hfa, fok2⟩ := fnOK_of G cc_def cc_ok
  refine call_gen (p := 6) t.wok fok (Bool.and_eq_true_iff.mp pc_ok).2 rfl ha I FI V fun hf c r ST kk => ?_
  rw [pc_body]
  refine pre_then x.2 c r (e2 ▸ pc_walk hM h20 hb hs hbd) fun H' M' m' s' S R q => ?_
  obtain ⟨rfl, rfl⟩ := q
  have ht := y.2.t (Q := fun p M'' => M'' = M' ∧ p) c R (y2 ▸ ⟨rfl, rfl⟩)
  refine wpAny_execs_cons (wpAny_If (botE (evb_then ht fun H1 M1 dd p s1 S1 I1 hd q1 => ?_)))
  obtain ⟨rfl, hp1⟩ := q1
  obtain rfl := hd.mpr hp1
  have R1 := c.step R S1 I1
  have S2 := S.trans (Step.ofE c.ok S1)
  refine wpAny_execs_cons (wpAny_Return_some (call_flies t.wok hfa (by decide : 3 < 4) rfl pc_sc z.2 c R1 (z2 ▸ ?_) fun e s' F => wpAny_mono (leave_on ha.frames hf ST kk (Fly.lift' S2 F)) (fun _ _ F => ⟨e, rfl, F⟩) fun _ _ x => x))
  exact .intro fs <| .intro hM <| .intro _ <| .intro h18 <| defd_of htb ⟨rfl, cc_fly O t2 fok2 hl h4 hcs hp⟩
end
end Vg
end
section
namespace Vg
open PySem PySem.W PyProof.Rows Vh
set_option maxRecDepth 100000
set_option maxHeartbeats 0
noncomputable abbrev dLR : DefRec := dOf "_law_refused"
noncomputable abbrev lrA : List Expr := [.Name "pos" (ps 562 19 22), .BinOp (.Constant (.int 49152) 0 (ps 562 24 29)) .Add (.BinOp (.Constant (.int 65) 0 (ps 562 32 34)) .Mult (.Name "s" (ps 562 37 38)) (ps 562 32 38)) (ps 562 24 38), .Name "table" (ps 562 40 45)]
noncomputable abbrev lrS : List Stmt := [.Return (some (.Constant (.bool true) 0 (ps 564 15 19))) (ps 564 8 19)]
theorem lr_body : dLR.body = [.Try [.Expr (.Call (.Name "psq_change" (ps 562 8 18)) lrA [] (ps 562 8 46)) (ps 562 8 46)] [.ExceptHandler (some (.Name "BadMove" (ps 563 11 18))) none lrS { line := 563, col := 4, endLine := 564, endCol := 19 }] [] [] { line := 561, col := 4, endLine := 564, endCol := 19 }, .Return (some (.Constant (.bool false) 0 (ps 565 11 16))) (ps 565 4 16)] := by kernel_rfl
section
variable {w : World} {h : Heap} {mg mb : Str → Option Value} {s₀ : Shared} {P : Params}
theorem lr_ta (t : TabOK (mkW w h mg mb) 8 tab) : (trXs t dLR lrA).map (·.1) = some [(.v 0), (.bin .add (.c (.int 49152)) (.bin .mul (.c (.int 65)) (.v 2))), (.v 1)] := by kernel_rfl
theorem lr_sc : dLR.scope.names.lookup ("psq_change" : Str) = some .globalImplicit ∧ dLR.scope.names.lookup ("BadMove" : Str) = some .globalImplicit := ⟨by kernel_rfl, by kernel_rfl⟩
theorem lr_ok : (plainA dLR.params && defOK (argN dLR.params) dLR.scope) = true := by kernel_rfl
theorem lr_def : defOf vw "_law_refused" = some (dLR, []) := by
  rw [defR_eq]
  kernel_rfl
theorem bad_bb' : mroB.contains (.type "BaseException") = true := by decide +kernel
end
section
variable {W : Wd} {P : Params} {k : Nat} {sc : List (Str × NameKind)} {ρ : Rho} {n : Nat} {A : Around} {frs : List Env} {own : Addr → Prop} {env : Env} {m : List AV} {M : Mem} {H H' : FH} {s s₁ s' : Shared} {e : Addr}
theorem fly_caught (O : BadOK W P) (hfr : A.frames = some frs) (ok : EnvOK W env sc ρ own) (hg : sc.lookup ("BadMove" : Str) = some .globalImplicit) (hf : env.frame = some s.heap.objs.size)
    (ST : ∀ {H' : FH} {M' : Mem} {s' : Shared}, Step own (frOf (env :: frs)) H M s₁ H' M' s' → Step none_ (frOf frs) H M s H' M' s') (kk : ∀ b o, s.heap.get? b = some o → s₁.heap.get? b = some o)
    {np ep : Pos} {b₀ : Stmt} {suite : List Stmt} {rest : List ExceptHandler} {Q : Flow → Shared → Prop} {E : Value → Shared → Prop} (F : Fly W own (env :: frs) H M s₁ e s')
    (go : ∀ H' s'' E', Step none_ (frOf frs) H M s H' M s'' → Inv W H' M s'' → wpAny (model W.prog W.w) ((A.deeper env).mark (some (.ref e))) (execs (b₀ :: suite) env) Q E' s'') :
    wpAny (model W.prog W.w) (A.deeper env) (noteFrame (.ref e) env) (fun _ s₂ => wpAny (model W.prog W.w) (A.deeper env) (setFlight (.ref e) none) (fun _ s₃ =>
      wpAny (model W.prog W.w) (A.deeper env) (handleBy (.ref e) env (.ExceptHandler (some (.Name "BadMove" np)) none (b₀ :: suite) ep :: rest)) Q E s₃) E s₂) E s' := by
  refine go1 fun G hG => ?_
  obtain ⟨H', base, a0, S, I, air, f⟩ := F
  refine hG ?_
  have h0 : ∀ b o, W.h₀.get? b = some o → base.get? b = some o := fun b o z => air.1 b o (I.base b o z)
  refine wpAny_looks_onW (Around.frames_deeper hfr) hf f fun h₄ hheld₄ hsm₄ => ?_
  refine wpAny_landsW hheld₄ fun h₅ hheld hsm₅ => ?_
  obtain ⟨ob, hob, hobc⟩ := hheld.there
  have k5 : ∀ b o, W.h₀.get? b = some o → h₅.get? b = some o := fun b o z => hheld.1 b o (h0 b o z)
  refine wpAny_handleBy_cons (codeAny_handlers_test (Calls.Name_function_global ok.fn (ok.gl _ hg) (Calls.loadGlobal_global (mg := W.mg) (by rw [ok.glob]; exact O.T.g.keeps k5) O.b ?_) rfl)) (by intro q; cases q)
  refine wpAny_excMatches_sub_self (k5 _ _ (O.X _ _ (bad_at P))) hob hobc bad_bb' (codeAny_handlers_suite ?_)
  refine lands_againW hheld fun h₆ hfl₆ hsm₆ => ?_
  obtain ⟨S', I'⟩ := fly_on (ST S) I f.1 f.2.2.1.2.2 (air_out air hf kk) hfl₆.1 ((hsm₄.trans hsm₅).trans hsm₆)
  exact go _ _ _ S' I'
end
end Vg
end
section
namespace Vg
open PySem PySem.W PyProof.Rows Vh
set_option maxRecDepth 100000
set_option maxHeartbeats 0
section
variable {w : World} {h : Heap} {mg mb : Str → Option Value} {s₀ : Shared} {P : Params}
theorem VR.no_undef {W : Wd} {H : FH} {v : Value} {x : AV} (h : VR W H v x) : x ≠ .undef := by cases h <;> exact fun q => nomatch q
theorem lr_sound (G : Ground vw looseL [] (XL vw []) w s₀ mg mb h) (O : BadOK (mkW w h mg mb) P) (t8 : TabOK (mkW w h mg mb) 8 tab) (t4 : TabOK (mkW w h mg mb) 4 tab) (t2 : TabOK (mkW w h mg mb) 2 tab) {fc : Addr} (fok : FnOK (mkW w h mg mb) fc (argN dLR.params) dLR.body dLR.scope) :
    FSound (mkW w h mg mb) 9 fc t_law_refused := fun xs M Q hv A frs ha H st vs I FI V => by
  rw [u_law_refused] at hv
  obtain ⟨d, tb, s, fs, gf, b, cs, bd, pc, rfl, hM, h18, h20, h12, hb, s0, s64, hbd, p0, p16, h4, hcs, q⟩ := hv
  have htb : tb ≠ .undef := by
    obtain ⟨v, _, hv⟩ := V.get (i := 1) rfl
    exact VR.no_undef hv
  obtain ⟨z, _, z2⟩ := Option.map_eq_some_iff.mp (lr_ta t8)
  obtain ⟨fb, hfb, fok2⟩ := fnOK_of G pc_def pc_ok
  refine call_gen (p := 0) t8.wok fok (Bool.and_eq_true_iff.mp lr_ok).2 rfl ha I FI V fun {own env s₁} hf c r ST kk => ?_
  rw [lr_body]
  have ev : evs [(.v 0), (.bin .add (.c (.int 49152)) (.bin .mul (.c (.int 65)) (.v 2))), (.v 1)] [.inst 2 d, tb, .int s] M fun ys M' => M' = M ∧ FlyCall (mkW w h mg mb) 5 fb ys M :=
    .intro (smc rfl) <| defd_of htb ⟨rfl, pc_fly G O t4 t2 fok2 hM h18 h20 hb ⟨s0, s64⟩ hbd h12 h4 hcs ⟨p0, p16⟩ htb⟩
  refine wpAny_execs_cons (wpAny_Try_except (wpAny_execs_cons (wpAny_Expr (call_flies t8.wok hfb (by decide : 5 < 8) rfl lr_sc.1 z.2 c r (z2 ▸ ev) fun e s' F => ?_) (by unfold interactive; rw [c.ok.fn]; rfl) rfl)))
  refine fly_caught O ha.frames c.ok lr_sc.2 hf ST kk F fun H' s'' E' S' I' => ?_
  exact wpAny_execs_cons (wpAny_Return_some (wpAny_Constant_bool ⟨H', M, _, S', I', .bool true, q⟩))
theorem TabOK.down {W : Wd} {k j : Nat} {T : Tabl} (t : TabOK W k T) (hj : j ≤ k) : TabOK W j T := ⟨t.wok, t.gok, t.consts, fun x p e hp => t.fns x p e (Nat.lt_of_lt_of_le hp hj), fun x p e hp => t.clss x p e (Nat.lt_of_lt_of_le hp hj), t.attrs, t.bis⟩
theorem bad_ns : ∀ P : Params, nsIn (KF P) 3 "BadMove" = some (some (.ref 44)) ∧ nsIn (KF P) 3 "Exception" = some none := fun P => ⟨by kernel_rfl, by kernel_rfl⟩
theorem refused (G : Ground vw looseL [] (XL vw []) w s₀ mg mb h) (X : (KF w.params).In h) (t : TabOK (mkW w h mg mb) 8 tab) : FnGood w h mg mb "_law_refused" (9, t_law_refused) := by
  obtain ⟨fc, hfc, fok⟩ := fnOK_of G lr_def lr_ok
  exact ⟨fc, hfc, lr_sound G ⟨X, topRead_of G.T, ns_some_of X G.T.g (bad_ns _).1, ns_none_of X G.T.g (bad_ns _).2⟩ t (t.down (by decide)) (t.down (by decide)) fok⟩
end
end Vg
end
section
namespace Vg
open PySem PySem.W PyProof.Rows Vh
set_option maxRecDepth 100000
set_option maxHeartbeats 0
theorem ints_vr {W : Wd} {H : FH} : ∀ {vs : List Value} {ns : List Int}, IntsAre vs ns → VRs W H vs (ns.map .int)
  | _, _, .nil => .nil
  | _, _, .cons i t r => .cons (.int i t) (ints_vr r)
theorem law_snd {w : World} {h : Heap} {mg mb : Str → Option Value} (t : TabOK (mkW w h mg mb) 12 tab) : trOK t dLaw.params dLaw.scope dLaw.body = some (1, b_law) := by kernel_rfl
theorem law_plain : plainA dLaw.params = true := by kernel_rfl
theorem walk (GC : GeoC) (HR : ∀ {w : World} {h : Heap} {mg mb : Str → Option Value} {s₀ : Shared}, Ground vw looseL [] (XL vw []) w s₀ mg mb h → (KF w.params).In h → TabOK (mkW w h mg mb) 8 tab → FnGood w h mg mb "_law_refused" (9, t_law_refused)) :
    WalkX vw looseL (XL vw []) HK.obs HK.val lw0.row.toRowW dLaw [] fun f vs => PySem.call f vs := by
  intro w s₀ s₁ mg mb G y a o pm cd doc dV kV ho hd hcd hD hmg hgens args vals as L hpre hlay hrd hwl hlo
  wrow_args hpre hlay hrd hwl hlo
  rename_i ns _ _ _ _ _ _ _ b vs _ hL _ _ _ hI _ hc _
  have G' : Ground vw looseL [] (XL vw []) w s₀ mg mb s₁.heap := G
  have X : (KF w.params).In s₁.heap := HK.keeps w s₀.heap s₁.heap (HK.of w s₀ y) L.keeps
  obtain ⟨b1, b2⟩ := PySem.W.X.script_at L
  have hob := PySem.W.X.script_obj L hL
  have top : ∃ a o, s₁.heap.get? a = some o ∧ s₁.heap.objs.size = a + 1 := ⟨b, _, hob, by rw [b2, b1]⟩
  have t := tab_all G' X top (HR G' X) 12
  have hn : ns.length ≤ 63 := by omega
  have hl : vs.length = ns.length := (ints_vr (W := mkW w s₁.heap mg mb) (H := fun b => s₁.heap.get? b) hI).1.trans (List.length_map _)
  have e1 : dV = .none := hD.pos.elim (fun z => z.2) fun z => absurd (by rw [plain_is law_plain]) z.1
  have e2 : kV = .none := hD.kw.elim (fun z => z.2) fun z => absurd rfl z.1
  have S : FSound (mkW w s₁.heap mg mb) 13 a (fnT 1 21 b_law) := fn_of t (law_snd t) rfl ⟨o, _, ho, hd, hcd, rfl, rfl, rfl, rfl, rfl, rfl, e1, e2⟩
  have C := S [aints ns] (fun zz => none) (fun v _ => v = .bool true) ⟨rfl, law_body (fun M => Exit.keep rfl) GC hn⟩
  have V : VRs (mkW w s₁.heap mg mb) (fun b => s₁.heap.get? b) [.ref b] [aints ns] := .cons (.lst (vs := vs) (n := 0) hob (by omega) (by rw [List.length_map]; exact hl) (ints_vr hI).2) .nil
  have C := C callerA [] ⟨rfl, by decide, by decide, rfl⟩ (fun b => s₁.heap.get? b) s₁ [.ref b] ⟨fun _ _ e => e, fun _ _ e => e, fun _ _ e => (nomatch e), fun _ _ e => (nomatch e)⟩ ⟨fun _ he => (nomatch he), fun _ ⟨_, he, _⟩ => (nomatch he), fun _ ⟨_, he, _⟩ => (nomatch he)⟩ V
  refine enter_call (codeAny_mono C fun r s' g => ?_)
  match r, g with
  | .ok (.ret v), ⟨H', M', x, S', I', V', q⟩ =>
    subst q
    cases V'
    exact GoodW.toG ⟨.inl ⟨.bool true, .bool true, [], rfl, fun zz => rfl, .bool true, by wrow_post, fun zz => ⟨List.nodup_nil, fun _ h => (nomatch h)⟩⟩, fun b o e => S'.keep b o e rfl id (fun ⟨_, he, _⟩ => nomatch he), S'.os, S'.gens.trans hgens⟩
  | .ok .next, g => exact g.elim
  | .ok .brk, g => exact g.elim
  | .ok .cont, g => exact g.elim
  | .error _, g => exact g.elim
end Vg
end
theorem PySem.Challenge.cw_nt0451_01_holds : PySem.Challenge.rw_nt0451_01.Holds :=
  Vh.law_holds (Vg.walk Vg.geoC fun G X t => Vg.refused G X t)
