import PyProof.Rows.All
import Wide.All
import KE.KNest
import Lean
import PySem.Challenge.RW_nt0437_01
open PySem PySem.W PyProof.Rows
set_option Elab.async false
set_option linter.all false
section
open PySem PySem.W PyProof.Rows
set_option Elab.async false
namespace Mine
noncomputable def nthS : Nat → List Stmt → Stmt
  | 0, s :: _ => s
  | n + 1, _ :: r => nthS n r
  | _, [] => .Pass ⟨0, 0, 0, 0⟩
noncomputable def prg : Program := PySem.Challenge.rw_nt0437_01.row.prog
noncomputable def stm (i : Nat) : Stmt := nthS i prg.main.body
noncomputable def stm2 (i j : Nat) : Stmt := match stm i with
  | .ClassDef _ _ _ b _ _ _ _ _ _ _ => nthS j b
  | s => s
noncomputable def fO (st : Stmt) (qn pm : Str) (pt : Tok) (c : Addr) : Obj := match st with
  | .FunctionDef name args body _ _ _ scope _ _ _ => { cls := .type "function", data := .func { name := name, qualname := qn, params := args, body := .stmts body, scope := scope, globals := 3, closure := [], defaults := .none, kwdefaults := .none, pyModule := .str pm pt, code := .ref c } }
  | _ => { cls := .none }
noncomputable def cO (n : Str) (b m : List Value) (ns : Addr) (qn : Str) (sub : List Value) (sl : Array (Option Value)) : Obj := { cls := .type "type", data := .cls { name := n, bases := b, mro := m, ns := ns, qualname := qn, subclasses := sub }, slots := sl }
noncomputable def eO (P : Params) (x : Str) (t : Tok) (v : Value) : DictEntry := ⟨PyData.keyHash P x, .str x t, v⟩
noncomputable def dO (c : Value) (es : List DictEntry) (n : Nat) : Obj := { cls := c, data := .dict es.toArray n }
noncomputable def kO (c : Value) (vs : List Value) : Obj := { cls := c, data := .fields vs.toArray }
noncomputable def tO (vs : List Value) : Obj := { cls := .type "tuple", data := .seq vs.toArray }
noncomputable def zO (vs : List Value) : Obj := kO .none vs
noncomputable def tkO (t : Nat) (ns : List Str) : Obj := tO ((ns.zipIdx t).map fun p => .str p.1 p.2)
noncomputable def nO (n : Nat) : Value := .int (Int.ofNat n) 0
noncomputable def cdO (k : Bool) (nm qn : Str) (t ln ac b tl : Nat) : Obj := kO (.type "code") ([.str nm t, .str qn (t + 1), .str "/claim/cut.py" (t + 2), nO ln, nO ac, nO 0, nO 0, nO 3, .ref b, .bool true, nO 181, .ref (b + 1), .none] ++
  ((match k with | true => [.ref (b + 2), .ref (b + 3), .ref (b + 4)] | false => [.none, .none, .ref (b + 2)]) ++ [nO tl, nO ln, .str "/claim/cut.py" (tl + 1)]))
noncomputable def ccO (nm qn : Str) (t ln b tl : Nat) : Obj := kO (.type "code") [.str nm t, .str qn (t + 1), .str "/claim/cut.py" (t + 2), nO ln, nO 0, nO 0, nO 0, nO 0, .ref b, .bool false, nO 181, .ref (b + 1), .none, .none, .none, .none, nO tl, nO ln, .str "/claim/cut.py" (tl + 1)]
noncomputable def frO (c l : Addr) (m : Str) (t : Tok) : Obj := { cls := .type "frame", slots := #[some (.ref c), some (.ref 3), some (.ref l), none, some (.str m t), none, some (.ref 0)] }
noncomputable def tmO (st : Stmt) (qn : Str) : Obj := match st with
  | .FunctionDef name args body _ _ _ scope _ _ _ => { cls := .none, data := .func { name := name, qualname := qn, params := args, body := .stmts body, scope := scope, globals := 0, closure := [], defaults := .none, kwdefaults := .none } }
  | _ => { cls := .none }
noncomputable def g7 (st : Stmt) (nm qn : Str) (t ln ac b tl : Nat) (ns : List Str) (pm : Str) (pt : Tok) : List Obj := [tO [], zO [], tkO (t + 3) ns, tO [], tmO st qn, cdO true nm qn t ln ac b tl, fO st qn pm pt (b + 5)]
noncomputable def g5 (st : Stmt) (nm qn : Str) (t ln ac b tl : Nat) (pm : Str) (pt : Tok) : List Obj := [tO [], zO [], tmO st qn, cdO false nm qn t ln ac b tl, fO st qn pm pt (b + 3)]
noncomputable def Kp (P : Params) : Frag := [
(2, dO .none [eO P "type.__subclasses__.Exception.0" 299 (.int (80) 0), eO P "type.__subclasses__.Exception.n" 300 (.int (1) 0)] 2),
(3, dO (.type "dict") [eO P "__name__" 165 (.str "law_nt0437_01" 672), eO P "__doc__" 166 .none, eO P "__package__" 167 .none, eO P "__loader__" 168 (.builtin "__main__.__loader__#opaque"), eO P "__spec__" 169 .none, eO P "__annotations__" 170 (.ref 6), eO P "__builtins__" 171 (.ref 4), eO P "__file__" 173 (.str "/claim/cut.py" 172), eO P "__cached__" 174 .none, eO P "_wall" 193 (.ref 21), eO P "MATE" 197 (.int (32000) 196), eO P "DRAW" 199 (.int (0) 198), eO P "INFINITE" 201 (.int (32001) 200), eO P "mated_in" 208 (.ref 28), eO P "plain_quiesce" 223 (.ref 35), eO P "end_value" 231 (.ref 42), eO P "negamax" 245 (.ref 49), eO P "line_value" 258 (.ref 56), eO P "count_nodes" 271 (.ref 63), eO P "ChessError" 302 (.ref 80), eO P "BadMove" 318 (.ref 93), eO P "BadTable" 334 (.ref 105), eO P "TreeGame" 456 (.ref 199), eO P "check_tree" 472 (.ref 210), eO P "reached_nodes" 478 (.ref 215), eO P "longest_way" 488 (.ref 222), eO P "NO_MOVE" 490 (.int (0) 489), eO P "BOUND_NONE" 494 (.int (0) 493), eO P "BOUND_EXACT" 496 (.int (3) 495), eO P "AGES" 498 (.int (64) 497), eO P "DEPTH_LEAST" 501 (.int (-8) 500), eO P "DEPTH_MOST" 503 (.int (247) 502), eO P "VALUE_MOST" 505 (.int (32767) 504), eO P "KEY_AT" 507 (.int (48) 506), eO P "pack_entry" 520 (.ref 229), eO P "unpack_entry" 530 (.ref 236), eO P "find_slot" 541 (.ref 243), eO P "worth" 549 (.ref 250), eO P "victim_slot" 561 (.ref 257), eO P "pushes_out" 571 (.ref 264), eO P "with_move" 579 (.ref 271), eO P "TransTable" 659 (.ref 323), eO P "table_line" 671 (.ref 334), eO P "_law_START" 679 (.ref 341), eO P "_law_at" 687 (.ref 348), eO P "_law_digit" 695 (.ref 355), eO P "_law_tree" 701 (.ref 360), eO P "_law_up" 708 (.ref 367), eO P "_law_node" 714 (.ref 372), eO P "_law_levels" 720 (.ref 377), eO P "_law_count" 740 (.ref 384), eO P "_law_walk" 752 (.ref 391), eO P "_law_refuses" 761 (.ref 398), eO P "_law_tells" 767 (.ref 403), eO P "_law_played" 780 (.ref 410), eO P "_law_kept" 795 (.ref 417), eO P "_law_rounds" 801 (.ref 422), eO P "_law_refused" 808 (.ref 429), eO P "_law_bent" 814 (.ref 434), eO P "law" 820 (.ref 439)] 60),
(20, cdO true "_wall" "_wall" 187 1 1 15 191),
(21, fO (stm 0) "_wall" "__main__" 164 20),
(27, cdO true "mated_in" "mated_in" 202 8 1 22 206),
(28, fO (stm 5) "mated_in" "chess.values" 194 27),
(34, cdO true "plain_quiesce" "plain_quiesce" 211 11 3 29 221),
(35, fO (stm 7) "plain_quiesce" "chess.plain" 209 34),
(41, cdO true "end_value" "end_value" 224 33 2 36 229),
(42, fO (stm 8) "end_value" "chess.plain" 209 41),
(48, cdO true "negamax" "negamax" 232 37 4 43 243),
(49, fO (stm 9) "negamax" "chess.plain" 209 48),
(55, cdO true "line_value" "line_value" 246 53 4 50 256),
(56, fO (stm 10) "line_value" "chess.plain" 209 55),
(62, cdO true "count_nodes" "count_nodes" 259 62 4 57 269),
(63, fO (stm 11) "count_nodes" "chess.plain" 209 62),
(76, cdO true "__init__" "ChessError.__init__" 286 82 2 71 291),
(77, fO (stm2 13 0) "ChessError.__init__" "chess.errors" 272 76),
(79, dO (.type "dict") [eO P "__module__" 281 (.str "chess.errors" 272), eO P "__firstlineno__" 285 (.int (80) 284), eO P "__init__" 293 (.ref 77), eO P "__static_attributes__" 295 (.ref 78), eO P "__weakref__" 297 (.ref 81), eO P "__doc__" 298 .none] 3),
(80, cO "ChessError" [(.type "Exception")] [(.ref 80), (.type "Exception"), (.type "BaseException"), (.type "object")] 79 "ChessError" [(.ref 93), (.ref 105)] #[some (.ref 64), none, some (.str "ChessError" 274), some (.str "ChessError" 282), some (.builtin "Exception.__new__"), some (.bool true)]),
(81, kO (.type "getset_descriptor") [(.str "__weakref__" 296), (.ref 80), (.builtin "ExceptionGroup.__weakref__"), .none]),
(92, dO (.type "dict") [eO P "__module__" 310 (.str "chess.errors" 272), eO P "__firstlineno__" 314 (.int (85) 313), eO P "__static_attributes__" 315 (.ref 91), eO P "__doc__" 316 .none] 2),
(93, cO "BadMove" [(.ref 80)] [(.ref 93), (.ref 80), (.type "Exception"), (.type "BaseException"), (.type "object")] 92 "BadMove" [] #[some (.ref 84), none, some (.str "BadMove" 303), some (.str "BadMove" 311), some (.builtin "Exception.__new__"), some (.bool true)]),
(104, dO (.type "dict") [eO P "__module__" 326 (.str "chess.errors" 272), eO P "__firstlineno__" 330 (.int (87) 329), eO P "__static_attributes__" 331 (.ref 103), eO P "__doc__" 332 .none] 2),
(105, cO "BadTable" [(.ref 80)] [(.ref 105), (.ref 80), (.type "Exception"), (.type "BaseException"), (.type "object")] 104 "BadTable" [] #[some (.ref 96), none, some (.str "BadTable" 319), some (.str "BadTable" 327), some (.builtin "Exception.__new__"), some (.bool true)]),
(120, cdO true "__init__" "TreeGame.__init__" 349 92 7 115 359),
(121, fO (stm2 17 0) "TreeGame.__init__" "chess.treegame" 335 120),
(127, cdO true "moves" "TreeGame.moves" 362 101 1 122 366),
(128, fO (stm2 17 1) "TreeGame.moves" "chess.treegame" 335 127),
(132, cdO false "noisy" "TreeGame.noisy" 369 104 1 129 372),
(133, fO (stm2 17 2) "TreeGame.noisy" "chess.treegame" 335 132),
(139, cdO true "make" "TreeGame.make" 375 107 2 134 381),
(140, fO (stm2 17 3) "TreeGame.make" "chess.treegame" 335 139),
(146, cdO true "undo" "TreeGame.undo" 384 113 1 141 388),
(147, fO (stm2 17 4) "TreeGame.undo" "chess.treegame" 335 146),
(153, cdO true "value" "TreeGame.value" 391 118 1 148 395),
(154, fO (stm2 17 5) "TreeGame.value" "chess.treegame" 335 153),
(160, cdO true "key" "TreeGame.key" 398 121 1 155 402),
(161, fO (stm2 17 6) "TreeGame.key" "chess.treegame" 335 160),
(167, cdO true "in_check" "TreeGame.in_check" 405 124 1 162 409),
(168, fO (stm2 17 7) "TreeGame.in_check" "chess.treegame" 335 167),
(174, cdO true "is_draw" "TreeGame.is_draw" 412 127 1 169 416),
(175, fO (stm2 17 8) "TreeGame.is_draw" "chess.treegame" 335 174),
(181, cdO true "is_noisy" "TreeGame.is_noisy" 419 130 2 176 424),
(182, fO (stm2 17 9) "TreeGame.is_noisy" "chess.treegame" 335 181),
(188, cdO true "gain" "TreeGame.gain" 427 133 2 183 432),
(189, fO (stm2 17 10) "TreeGame.gain" "chess.treegame" 335 188),
(195, cdO true "side" "TreeGame.side" 435 136 1 190 439),
(196, fO (stm2 17 11) "TreeGame.side" "chess.treegame" 335 195),
(198, dO (.type "dict") [eO P "__module__" 344 (.str "chess.treegame" 335), eO P "__firstlineno__" 348 (.int (90) 347), eO P "__init__" 361 (.ref 121), eO P "moves" 368 (.ref 128), eO P "noisy" 374 (.ref 133), eO P "make" 383 (.ref 140), eO P "undo" 390 (.ref 147), eO P "value" 397 (.ref 154), eO P "key" 404 (.ref 161), eO P "in_check" 411 (.ref 168), eO P "is_draw" 418 (.ref 175), eO P "is_noisy" 426 (.ref 182), eO P "gain" 434 (.ref 189), eO P "side" 441 (.ref 196), eO P "__static_attributes__" 449 (.ref 197), eO P "__dict__" 451 (.ref 200), eO P "__weakref__" 453 (.ref 201), eO P "__doc__" 454 .none] 4),
(199, cO "TreeGame" [(.type "object")] [(.ref 199), (.type "object")] 198 "TreeGame" [] #[none, none, some (.str "TreeGame" 337), some (.str "TreeGame" 345), some (.builtin "object.__new__"), some (.bool true)]),
(200, kO (.type "getset_descriptor") [(.str "__dict__" 450), (.ref 199), (.builtin "function.__dict__"), (.builtin "function.__dict__#set")]),
(201, kO (.type "getset_descriptor") [(.str "__weakref__" 452), (.ref 199), (.builtin "ExceptionGroup.__weakref__"), .none]),
(209, cdO true "check_tree" "check_tree" 457 138 6 204 470),
(210, fO (stm 18) "check_tree" "chess.treegame" 335 209),
(214, cdO false "reached_nodes" "reached_nodes" 473 151 1 211 476),
(215, fO (stm 19) "reached_nodes" "chess.treegame" 335 214),
(221, cdO true "longest_way" "longest_way" 479 159 1 216 486),
(222, fO (stm 20) "longest_way" "chess.treegame" 335 221),
(228, cdO true "pack_entry" "pack_entry" 508 175 6 223 518),
(229, fO (stm 30) "pack_entry" "chess.tt" 491 228),
(235, cdO true "unpack_entry" "unpack_entry" 521 190 1 230 528),
(236, fO (stm 31) "unpack_entry" "chess.tt" 491 235),
(242, cdO true "find_slot" "find_slot" 531 195 4 237 539),
(243, fO (stm 32) "find_slot" "chess.tt" 491 242),
(249, cdO true "worth" "worth" 542 200 2 244 547),
(250, fO (stm 33) "worth" "chess.tt" 491 249),
(256, cdO true "victim_slot" "victim_slot" 550 202 4 251 559),
(257, fO (stm 34) "victim_slot" "chess.tt" 491 256),
(263, cdO true "pushes_out" "pushes_out" 562 210 4 258 569),
(264, fO (stm 35) "pushes_out" "chess.tt" 491 263),
(270, cdO true "with_move" "with_move" 572 214 2 265 577),
(271, fO (stm 36) "with_move" "chess.tt" 491 270),
(284, cdO true "__init__" "TransTable.__init__" 592 218 3 279 598),
(285, fO (stm2 37 0) "TransTable.__init__" "chess.tt" 491 284),
(291, cdO true "probe" "TransTable.probe" 601 226 2 286 608),
(292, fO (stm2 37 1) "TransTable.probe" "chess.tt" 491 291),
(298, cdO true "save" "TransTable.save" 611 233 6 293 624),
(299, fO (stm2 37 2) "TransTable.save" "chess.tt" 491 298),
(305, cdO true "new_search" "TransTable.new_search" 627 249 1 300 631),
(306, fO (stm2 37 3) "TransTable.new_search" "chess.tt" 491 305),
(312, cdO true "clear" "TransTable.clear" 634 252 1 307 638),
(313, fO (stm2 37 4) "TransTable.clear" "chess.tt" 491 312),
(319, cdO true "fullness" "TransTable.fullness" 641 255 1 314 645),
(320, fO (stm2 37 5) "TransTable.fullness" "chess.tt" 491 319),
(322, dO (.type "dict") [eO P "__module__" 587 (.str "chess.tt" 491), eO P "__firstlineno__" 591 (.int (216) 590), eO P "__init__" 600 (.ref 285), eO P "probe" 610 (.ref 292), eO P "save" 626 (.ref 299), eO P "new_search" 633 (.ref 306), eO P "clear" 640 (.ref 313), eO P "fullness" 647 (.ref 320), eO P "__static_attributes__" 652 (.ref 321), eO P "__dict__" 654 (.ref 324), eO P "__weakref__" 656 (.ref 325), eO P "__doc__" 657 .none] 4),
(323, cO "TransTable" [(.type "object")] [(.ref 323), (.type "object")] 322 "TransTable" [] #[none, none, some (.str "TransTable" 580), some (.str "TransTable" 588), some (.builtin "object.__new__"), some (.bool true)]),
(324, kO (.type "getset_descriptor") [(.str "__dict__" 653), (.ref 323), (.builtin "function.__dict__"), (.builtin "function.__dict__#set")]),
(325, kO (.type "getset_descriptor") [(.str "__weakref__" 655), (.ref 323), (.builtin "ExceptionGroup.__weakref__"), .none]),
(333, cdO true "table_line" "table_line" 660 257 3 328 669),
(334, fO (stm 38) "table_line" "chess.tt" 491 333),
(340, cdO true "_law_START" "_law_START" 674 269 0 335 677),
(341, fO (stm 40) "_law_START" "law_nt0437_01" 672 340),
(347, cdO true "_law_at" "_law_at" 680 271 2 342 685),
(348, fO (stm 41) "_law_at" "law_nt0437_01" 672 347),
(354, cdO true "_law_digit" "_law_digit" 688 273 2 349 693),
(355, fO (stm 42) "_law_digit" "law_nt0437_01" 672 354),
(359, cdO false "_law_tree" "_law_tree" 696 275 1 356 699),
(360, fO (stm 43) "_law_tree" "law_nt0437_01" 672 359),
(366, cdO true "_law_up" "_law_up" 702 288 1 361 706),
(367, fO (stm 44) "_law_up" "law_nt0437_01" 672 366),
(371, cdO false "_law_node" "_law_node" 709 294 4 368 712),
(372, fO (stm 45) "_law_node" "law_nt0437_01" 672 371),
(376, cdO false "_law_levels" "_law_levels" 715 306 3 373 718),
(377, fO (stm 46) "_law_levels" "law_nt0437_01" 672 376),
(383, cdO true "_law_count" "_law_count" 721 313 3 378 738),
(384, fO (stm 47) "_law_count" "law_nt0437_01" 672 383),
(390, cdO true "_law_walk" "_law_walk" 741 329 3 385 750),
(391, fO (stm 48) "_law_walk" "law_nt0437_01" 672 390),
(397, cdO true "_law_refuses" "_law_refuses" 753 337 2 392 759),
(398, fO (stm 49) "_law_refuses" "law_nt0437_01" 672 397),
(402, cdO false "_law_tells" "_law_tells" 762 347 5 399 765),
(403, fO (stm 50) "_law_tells" "law_nt0437_01" 672 402),
(409, cdO true "_law_played" "_law_played" 768 359 4 404 778),
(410, fO (stm 51) "_law_played" "law_nt0437_01" 672 409),
(416, cdO true "_law_kept" "_law_kept" 781 370 4 411 793),
(417, fO (stm 52) "_law_kept" "law_nt0437_01" 672 416),
(421, cdO false "_law_rounds" "_law_rounds" 796 384 1 418 799),
(422, fO (stm 53) "_law_rounds" "law_nt0437_01" 672 421),
(428, cdO true "_law_refused" "_law_refused" 802 398 1 423 806),
(429, fO (stm 54) "_law_refused" "law_nt0437_01" 672 428),
(433, cdO false "_law_bent" "_law_bent" 809 404 2 430 812),
(434, fO (stm 55) "_law_bent" "law_nt0437_01" 672 433),
(438, cdO false "law" "law" 815 423 1 435 818),
(439, fO (stm 56) "law" "law_nt0437_01" 672 438)]
noncomputable def Ka : List Addr := [2, 3, 20, 21, 27, 28, 34, 35, 41, 42, 48, 49, 55, 56, 62, 63, 76, 77, 79, 80, 81, 92, 93, 104, 105, 120, 121, 127, 128, 132, 133, 139, 140, 146, 147, 153, 154, 160, 161, 167, 168, 174, 175, 181, 182, 188, 189, 195, 196, 198, 199, 200, 201, 209, 210, 214, 215, 221, 222, 228, 229, 235, 236, 242, 243, 249, 250, 256, 257, 263, 264, 270, 271, 284, 285, 291, 292, 298, 299, 305, 306, 312, 313, 319, 320, 322, 323, 324, 325, 333, 334, 340, 341, 347, 348, 354, 355, 359, 360, 366, 367, 371, 372, 376, 377, 383, 384, 390, 391, 397, 398, 402, 403, 409, 410, 416, 417, 421, 422, 428, 429, 433, 434, 438, 439]
noncomputable def view : Program := { prg with main := { prg.main with body := [0, 2, 3, 4, 5, 7, 8, 9, 10, 11, 13, 14, 15, 17, 18, 19, 20, 21, 23, 24, 25, 26, 27, 28, 29, 30, 31, 32, 33, 34, 35, 36, 37, 38, 40, 41, 42, 43, 44, 45, 46, 47, 48, 49, 50, 51, 52, 53, 54, 55, 56].map stm } }
noncomputable def hk : Hook := kHook Kp Ka (fun _ => by kernel_rfl)
noncomputable def A1 (P : Params) : List Obj := [g7 (stm 0) "_wall" "_wall" 187 1 1 15 191 ["k"] "__main__" 164,
g7 (stm 5) "mated_in" "mated_in" 202 8 1 22 206 ["ply"] "chess.values" 194,
g7 (stm 7) "plain_quiesce" "plain_quiesce" 211 11 3 29 221 ["game", "ply", "qdepth", "moves", "best", "move", "value"] "chess.plain" 209,
g7 (stm 8) "end_value" "end_value" 224 33 2 36 229 ["game", "ply"] "chess.plain" 209,
g7 (stm 9) "negamax" "negamax" 232 37 4 43 243 ["game", "depth", "ply", "qdepth", "moves", "best", "move", "value"] "chess.plain" 209,
g7 (stm 10) "line_value" "line_value" 246 53 4 50 256 ["game", "line", "depth", "qdepth", "move", "value", "_"] "chess.plain" 209,
g7 (stm 11) "count_nodes" "count_nodes" 259 62 4 57 269 ["game", "depth", "ply", "qdepth", "moves", "count", "move"] "chess.plain" 209,
[tO [(.type "Exception")],
 kO (.type "builtin_function_or_method") [(.builtin "type.__prepare__"), (.type "type")],
 dO (.type "dict") [eO P "__module__" 281 (.str "chess.errors" 272), eO P "__qualname__" 283 (.str "ChessError" 282), eO P "__firstlineno__" 285 (.int (80) 284), eO P "__init__" 293 (.ref 77), eO P "__static_attributes__" 295 (.ref 78)] 5,
 tO [],
 zO [(.int (82) 0), (.int (4) 0), (.ref 76)],
 ccO "ChessError" "ChessError" 276 80 67 279,
 frO 69 66 "chess.errors" 272],
g7 (stm2 13 0) "__init__" "ChessError.__init__" 286 82 2 71 291 ["self", "text"] "chess.errors" 272,
[tkO 294 ["text"],
 dO (.type "dict") [eO P "__module__" 281 (.str "chess.errors" 272), eO P "__firstlineno__" 285 (.int (80) 284), eO P "__init__" 293 (.ref 77), eO P "__static_attributes__" 295 (.ref 78), eO P "__weakref__" 297 (.ref 81), eO P "__doc__" 298 .none] 3,
 cO "ChessError" [(.type "Exception")] [(.ref 80), (.type "Exception"), (.type "BaseException"), (.type "object")] 79 "ChessError" [(.ref 93), (.ref 105)] #[some (.ref 64), none, some (.str "ChessError" 274), some (.str "ChessError" 282), some (.builtin "Exception.__new__"), some (.bool true)],
 kO (.type "getset_descriptor") [(.str "__weakref__" 296), (.ref 80), (.builtin "ExceptionGroup.__weakref__"), .none],
 kO (.type "super") [(.ref 80), (.ref 80), (.ref 80)],
 kO (.type "builtin_function_or_method") [(.builtin "object.__init_subclass__"), (.ref 80)],
 tO [(.ref 80)],
 kO (.type "builtin_function_or_method") [(.builtin "type.__prepare__"), (.type "type")],
 dO (.type "dict") [eO P "__module__" 310 (.str "chess.errors" 272), eO P "__qualname__" 312 (.str "BadMove" 311), eO P "__firstlineno__" 314 (.int (85) 313), eO P "__static_attributes__" 315 (.ref 91)] 4,
 tO [],
 zO [],
 ccO "BadMove" "BadMove" 305 85 87 308,
 frO 89 86 "chess.errors" 272,
 tO [],
 dO (.type "dict") [eO P "__module__" 310 (.str "chess.errors" 272), eO P "__firstlineno__" 314 (.int (85) 313), eO P "__static_attributes__" 315 (.ref 91), eO P "__doc__" 316 .none] 2,
 cO "BadMove" [(.ref 80)] [(.ref 93), (.ref 80), (.type "Exception"), (.type "BaseException"), (.type "object")] 92 "BadMove" [] #[some (.ref 84), none, some (.str "BadMove" 303), some (.str "BadMove" 311), some (.builtin "Exception.__new__"), some (.bool true)],
 kO (.type "super") [(.ref 93), (.ref 93), (.ref 93)],
 kO (.type "builtin_function_or_method") [(.builtin "object.__init_subclass__"), (.ref 93)],
 tO [(.ref 80)],
 kO (.type "builtin_function_or_method") [(.builtin "type.__prepare__"), (.type "type")],
 dO (.type "dict") [eO P "__module__" 326 (.str "chess.errors" 272), eO P "__qualname__" 328 (.str "BadTable" 327), eO P "__firstlineno__" 330 (.int (87) 329), eO P "__static_attributes__" 331 (.ref 103)] 4,
 tO [],
 zO [],
 ccO "BadTable" "BadTable" 321 87 99 324,
 frO 101 98 "chess.errors" 272,
 tO [],
 dO (.type "dict") [eO P "__module__" 326 (.str "chess.errors" 272), eO P "__firstlineno__" 330 (.int (87) 329), eO P "__static_attributes__" 331 (.ref 103), eO P "__doc__" 332 .none] 2,
 cO "BadTable" [(.ref 80)] [(.ref 105), (.ref 80), (.type "Exception"), (.type "BaseException"), (.type "object")] 104 "BadTable" [] #[some (.ref 96), none, some (.str "BadTable" 319), some (.str "BadTable" 327), some (.builtin "Exception.__new__"), some (.bool true)],
 kO (.type "super") [(.ref 105), (.ref 105), (.ref 105)],
 kO (.type "builtin_function_or_method") [(.builtin "object.__init_subclass__"), (.ref 105)]]].flatten
noncomputable def A2 (P : Params) : List Obj := [[tO [],
 kO (.type "builtin_function_or_method") [(.builtin "type.__prepare__"), (.type "type")],
 dO (.type "dict") [eO P "__module__" 344 (.str "chess.treegame" 335), eO P "__qualname__" 346 (.str "TreeGame" 345), eO P "__firstlineno__" 348 (.int (90) 347), eO P "__init__" 361 (.ref 121), eO P "moves" 368 (.ref 128), eO P "noisy" 374 (.ref 133), eO P "make" 383 (.ref 140), eO P "undo" 390 (.ref 147), eO P "value" 397 (.ref 154), eO P "key" 404 (.ref 161), eO P "in_check" 411 (.ref 168), eO P "is_draw" 418 (.ref 175), eO P "is_noisy" 426 (.ref 182), eO P "gain" 434 (.ref 189), eO P "side" 441 (.ref 196), eO P "__static_attributes__" 449 (.ref 197)] 16,
 tO [],
 zO [(.int (92) 0), (.int (4) 0), (.ref 120), (.int (101) 0), (.int (4) 0), (.ref 127), (.int (104) 0), (.int (4) 0), (.ref 132), (.int (107) 0), (.int (4) 0), (.ref 139), (.int (113) 0), (.int (4) 0), (.ref 146), (.int (118) 0), (.int (4) 0), (.ref 153), (.int (121) 0), (.int (4) 0), (.ref 160), (.int (124) 0), (.int (4) 0), (.ref 167), (.int (127) 0), (.int (4) 0), (.ref 174), (.int (130) 0), (.int (4) 0), (.ref 181), (.int (133) 0), (.int (4) 0), (.ref 188), (.int (136) 0), (.int (4) 0), (.ref 195)],
 ccO "TreeGame" "TreeGame" 339 90 111 342,
 frO 113 110 "chess.treegame" 335],
g7 (stm2 17 0) "__init__" "TreeGame.__init__" 349 92 7 115 359 ["self", "children", "values", "checks", "draws", "noisy", "gains"] "chess.treegame" 335,
g7 (stm2 17 1) "moves" "TreeGame.moves" 362 101 1 122 366 ["self"] "chess.treegame" 335,
g5 (stm2 17 2) "noisy" "TreeGame.noisy" 369 104 1 129 372 "chess.treegame" 335,
g7 (stm2 17 3) "make" "TreeGame.make" 375 107 2 134 381 ["self", "move", "kids"] "chess.treegame" 335,
g7 (stm2 17 4) "undo" "TreeGame.undo" 384 113 1 141 388 ["self"] "chess.treegame" 335,
g7 (stm2 17 5) "value" "TreeGame.value" 391 118 1 148 395 ["self"] "chess.treegame" 335,
g7 (stm2 17 6) "key" "TreeGame.key" 398 121 1 155 402 ["self"] "chess.treegame" 335,
g7 (stm2 17 7) "in_check" "TreeGame.in_check" 405 124 1 162 409 ["self"] "chess.treegame" 335,
g7 (stm2 17 8) "is_draw" "TreeGame.is_draw" 412 127 1 169 416 ["self"] "chess.treegame" 335,
g7 (stm2 17 9) "is_noisy" "TreeGame.is_noisy" 419 130 2 176 424 ["self", "move"] "chess.treegame" 335,
g7 (stm2 17 10) "gain" "TreeGame.gain" 427 133 2 183 432 ["self", "move"] "chess.treegame" 335,
g7 (stm2 17 11) "side" "TreeGame.side" 435 136 1 190 439 ["self"] "chess.treegame" 335,
[tkO 442 ["checks", "children", "draws", "gain_rows", "noisy_rows", "path", "values"],
 dO (.type "dict") [eO P "__module__" 344 (.str "chess.treegame" 335), eO P "__firstlineno__" 348 (.int (90) 347), eO P "__init__" 361 (.ref 121), eO P "moves" 368 (.ref 128), eO P "noisy" 374 (.ref 133), eO P "make" 383 (.ref 140), eO P "undo" 390 (.ref 147), eO P "value" 397 (.ref 154), eO P "key" 404 (.ref 161), eO P "in_check" 411 (.ref 168), eO P "is_draw" 418 (.ref 175), eO P "is_noisy" 426 (.ref 182), eO P "gain" 434 (.ref 189), eO P "side" 441 (.ref 196), eO P "__static_attributes__" 449 (.ref 197), eO P "__dict__" 451 (.ref 200), eO P "__weakref__" 453 (.ref 201), eO P "__doc__" 454 .none] 4,
 cO "TreeGame" [(.type "object")] [(.ref 199), (.type "object")] 198 "TreeGame" [] #[none, none, some (.str "TreeGame" 337), some (.str "TreeGame" 345), some (.builtin "object.__new__"), some (.bool true)],
 kO (.type "getset_descriptor") [(.str "__dict__" 450), (.ref 199), (.builtin "function.__dict__"), (.builtin "function.__dict__#set")],
 kO (.type "getset_descriptor") [(.str "__weakref__" 452), (.ref 199), (.builtin "ExceptionGroup.__weakref__"), .none],
 kO (.type "super") [(.ref 199), (.ref 199), (.ref 199)],
 kO (.type "builtin_function_or_method") [(.builtin "object.__init_subclass__"), (.ref 199)]],
g7 (stm 18) "check_tree" "check_tree" 457 138 6 204 470 ["children", "values", "checks", "draws", "noisy", "gains", "size", "row", "node", "child"] "chess.treegame" 335,
g5 (stm 19) "reached_nodes" "reached_nodes" 473 151 1 211 476 "chess.treegame" 335,
g7 (stm 20) "longest_way" "longest_way" 479 159 1 216 486 ["children", "heights", "node", "child"] "chess.treegame" 335,
g7 (stm 30) "pack_entry" "pack_entry" 508 175 6 223 518 ["key", "move", "value", "depth", "bound", "age", "low"] "chess.tt" 491].flatten
noncomputable def A3 (P : Params) : List Obj := [g7 (stm 31) "unpack_entry" "unpack_entry" 521 190 1 230 528 ["entry", "move", "value", "depth"] "chess.tt" 491,
g7 (stm 32) "find_slot" "find_slot" 531 195 4 237 539 ["slots", "start", "ways", "key", "at"] "chess.tt" 491,
g7 (stm 33) "worth" "worth" 542 200 2 244 547 ["entry", "age"] "chess.tt" 491,
g7 (stm 34) "victim_slot" "victim_slot" 550 202 4 251 559 ["slots", "start", "ways", "age", "found", "at"] "chess.tt" 491,
g7 (stm 35) "pushes_out" "pushes_out" 562 210 4 258 569 ["entry", "depth", "bound", "age"] "chess.tt" 491,
g7 (stm 36) "with_move" "with_move" 572 214 2 265 577 ["entry", "move"] "chess.tt" 491,
[tO [],
 kO (.type "builtin_function_or_method") [(.builtin "type.__prepare__"), (.type "type")],
 dO (.type "dict") [eO P "__module__" 587 (.str "chess.tt" 491), eO P "__qualname__" 589 (.str "TransTable" 588), eO P "__firstlineno__" 591 (.int (216) 590), eO P "__init__" 600 (.ref 285), eO P "probe" 610 (.ref 292), eO P "save" 626 (.ref 299), eO P "new_search" 633 (.ref 306), eO P "clear" 640 (.ref 313), eO P "fullness" 647 (.ref 320), eO P "__static_attributes__" 652 (.ref 321)] 10,
 tO [],
 zO [(.int (218) 0), (.int (4) 0), (.ref 284), (.int (226) 0), (.int (4) 0), (.ref 291), (.int (233) 0), (.int (4) 0), (.ref 298), (.int (249) 0), (.int (4) 0), (.ref 305), (.int (252) 0), (.int (4) 0), (.ref 312), (.int (255) 0), (.int (4) 0), (.ref 319)],
 ccO "TransTable" "TransTable" 582 216 275 585,
 frO 277 274 "chess.tt" 491],
g7 (stm2 37 0) "__init__" "TransTable.__init__" 592 218 3 279 598 ["self", "clusters", "ways"] "chess.tt" 491,
g7 (stm2 37 1) "probe" "TransTable.probe" 601 226 2 286 608 ["self", "key", "at", "row"] "chess.tt" 491,
g7 (stm2 37 2) "save" "TransTable.save" 611 233 6 293 624 ["self", "key", "move", "value", "depth", "bound", "entry", "start", "at", "old"] "chess.tt" 491,
g7 (stm2 37 3) "new_search" "TransTable.new_search" 627 249 1 300 631 ["self"] "chess.tt" 491,
g7 (stm2 37 4) "clear" "TransTable.clear" 634 252 1 307 638 ["self"] "chess.tt" 491,
g7 (stm2 37 5) "fullness" "TransTable.fullness" 641 255 1 314 645 ["self"] "chess.tt" 491,
[tkO 648 ["age", "clusters", "slots", "ways"],
 dO (.type "dict") [eO P "__module__" 587 (.str "chess.tt" 491), eO P "__firstlineno__" 591 (.int (216) 590), eO P "__init__" 600 (.ref 285), eO P "probe" 610 (.ref 292), eO P "save" 626 (.ref 299), eO P "new_search" 633 (.ref 306), eO P "clear" 640 (.ref 313), eO P "fullness" 647 (.ref 320), eO P "__static_attributes__" 652 (.ref 321), eO P "__dict__" 654 (.ref 324), eO P "__weakref__" 656 (.ref 325), eO P "__doc__" 657 .none] 4,
 cO "TransTable" [(.type "object")] [(.ref 323), (.type "object")] 322 "TransTable" [] #[none, none, some (.str "TransTable" 580), some (.str "TransTable" 588), some (.builtin "object.__new__"), some (.bool true)],
 kO (.type "getset_descriptor") [(.str "__dict__" 653), (.ref 323), (.builtin "function.__dict__"), (.builtin "function.__dict__#set")],
 kO (.type "getset_descriptor") [(.str "__weakref__" 655), (.ref 323), (.builtin "ExceptionGroup.__weakref__"), .none],
 kO (.type "super") [(.ref 323), (.ref 323), (.ref 323)],
 kO (.type "builtin_function_or_method") [(.builtin "object.__init_subclass__"), (.ref 323)]],
g7 (stm 38) "table_line" "table_line" 660 257 3 328 669 ["table", "game", "limit", "line", "row", "_"] "chess.tt" 491,
g7 (stm 40) "_law_START" "_law_START" 674 269 0 335 677 [] "law_nt0437_01" 672,
g7 (stm 41) "_law_at" "_law_at" 680 271 2 342 685 ["script", "i"] "law_nt0437_01" 672,
g7 (stm 42) "_law_digit" "_law_digit" 688 273 2 349 693 ["x", "i"] "law_nt0437_01" 672,
g5 (stm 43) "_law_tree" "_law_tree" 696 275 1 356 699 "law_nt0437_01" 672,
g7 (stm 44) "_law_up" "_law_up" 702 288 1 361 706 ["score"] "law_nt0437_01" 672,
g5 (stm 45) "_law_node" "_law_node" 709 294 4 368 712 "law_nt0437_01" 672,
g5 (stm 46) "_law_levels" "_law_levels" 715 306 3 373 718 "law_nt0437_01" 672,
g7 (stm 47) "_law_count" "_law_count" 721 313 3 378 738 ["tree", "depth", "qdepth", "children", "values", "checks", "draws", "noisy", "here", "total", "ply", "after", "node", "j"] "law_nt0437_01" 672,
g7 (stm 48) "_law_walk" "_law_walk" 741 329 3 385 750 ["tree", "x", "count", "node", "moves", "k"] "law_nt0437_01" 672,
g7 (stm 49) "_law_refuses" "_law_refuses" 753 337 2 392 759 ["game", "move", "key"] "law_nt0437_01" 672,
g5 (stm 50) "_law_tells" "_law_tells" 762 347 5 399 765 "law_nt0437_01" 672,
g7 (stm 51) "_law_played" "_law_played" 768 359 4 404 778 ["game", "tree", "gains", "moves", "node", "made", "move"] "law_nt0437_01" 672,
g7 (stm 52) "_law_kept" "_law_kept" 781 370 4 411 793 ["script", "tree", "game", "limit", "table", "kept", "node", "x", "moves"] "law_nt0437_01" 672,
g5 (stm 53) "_law_rounds" "_law_rounds" 796 384 1 418 799 "law_nt0437_01" 672,
g7 (stm 54) "_law_refused" "_law_refused" 802 398 1 423 806 ["rows"] "law_nt0437_01" 672,
g5 (stm 55) "_law_bent" "_law_bent" 809 404 2 430 812 "law_nt0437_01" 672,
g5 (stm 56) "law" "law" 815 423 1 435 818 "law_nt0437_01" 672].flatten
noncomputable def E1 (P : Params) : List DictEntry := [eO P "__doc__" 166 .none, eO P "__package__" 167 .none, eO P "__loader__" 168 (.builtin "__main__.__loader__#opaque"), eO P "__spec__" 169 .none, eO P "__annotations__" 170 (.ref 6), eO P "__builtins__" 171 (.ref 4), eO P "__file__" 173 (.str "/claim/cut.py" 172), eO P "__cached__" 174 .none, eO P "_wall" 193 (.ref 21), eO P "MATE" 197 (.int (32000) 196), eO P "DRAW" 199 (.int (0) 198), eO P "INFINITE" 201 (.int (32001) 200), eO P "mated_in" 208 (.ref 28), eO P "plain_quiesce" 223 (.ref 35), eO P "end_value" 231 (.ref 42), eO P "negamax" 245 (.ref 49), eO P "line_value" 258 (.ref 56), eO P "count_nodes" 271 (.ref 63), eO P "ChessError" 302 (.ref 80), eO P "BadMove" 318 (.ref 93), eO P "BadTable" 334 (.ref 105)]
noncomputable def E2 (P : Params) : List DictEntry := [eO P "TreeGame" 456 (.ref 199), eO P "check_tree" 472 (.ref 210), eO P "reached_nodes" 478 (.ref 215), eO P "longest_way" 488 (.ref 222), eO P "NO_MOVE" 490 (.int (0) 489), eO P "BOUND_NONE" 494 (.int (0) 493), eO P "BOUND_EXACT" 496 (.int (3) 495), eO P "AGES" 498 (.int (64) 497), eO P "DEPTH_LEAST" 501 (.int (-8) 500), eO P "DEPTH_MOST" 503 (.int (247) 502), eO P "VALUE_MOST" 505 (.int (32767) 504), eO P "KEY_AT" 507 (.int (48) 506), eO P "pack_entry" 520 (.ref 229)]
noncomputable def E3 (P : Params) : List DictEntry := [eO P "unpack_entry" 530 (.ref 236), eO P "find_slot" 541 (.ref 243), eO P "worth" 549 (.ref 250), eO P "victim_slot" 561 (.ref 257), eO P "pushes_out" 571 (.ref 264), eO P "with_move" 579 (.ref 271), eO P "TransTable" 659 (.ref 323), eO P "table_line" 671 (.ref 334), eO P "_law_START" 679 (.ref 341), eO P "_law_at" 687 (.ref 348), eO P "_law_digit" 695 (.ref 355), eO P "_law_tree" 701 (.ref 360), eO P "_law_up" 708 (.ref 367), eO P "_law_node" 714 (.ref 372), eO P "_law_levels" 720 (.ref 377), eO P "_law_count" 740 (.ref 384), eO P "_law_walk" 752 (.ref 391), eO P "_law_refuses" 761 (.ref 398), eO P "_law_tells" 767 (.ref 403), eO P "_law_played" 780 (.ref 410), eO P "_law_kept" 795 (.ref 417), eO P "_law_rounds" 801 (.ref 422), eO P "_law_refused" 808 (.ref 429), eO P "_law_bent" 814 (.ref 434), eO P "law" 820 (.ref 439)]
noncomputable def z1 : List Value := [(.int (1) 0), (.int (0) 0), (.ref 20), (.int (8) 0), (.int (0) 0), (.ref 27), (.int (11) 0), (.int (0) 0), (.ref 34), (.int (33) 0), (.int (0) 0), (.ref 41), (.int (37) 0), (.int (0) 0), (.ref 48), (.int (53) 0), (.int (0) 0), (.ref 55), (.int (62) 0), (.int (0) 0), (.ref 62), (.int (80) 0), (.int (0) 0), (.ref 69), (.int (85) 0), (.int (0) 0), (.ref 89), (.int (87) 0), (.int (0) 0), (.ref 101)]
noncomputable def z2 : List Value := [(.int (90) 0), (.int (0) 0), (.ref 113), (.int (138) 0), (.int (0) 0), (.ref 209), (.int (151) 0), (.int (0) 0), (.ref 214), (.int (159) 0), (.int (0) 0), (.ref 221), (.int (175) 0), (.int (0) 0), (.ref 228)]
noncomputable def z3 : List Value := [(.int (190) 0), (.int (0) 0), (.ref 235), (.int (195) 0), (.int (0) 0), (.ref 242), (.int (200) 0), (.int (0) 0), (.ref 249), (.int (202) 0), (.int (0) 0), (.ref 256), (.int (210) 0), (.int (0) 0), (.ref 263), (.int (214) 0), (.int (0) 0), (.ref 270), (.int (216) 0), (.int (0) 0), (.ref 277), (.int (257) 0), (.int (0) 0), (.ref 333), (.int (269) 0), (.int (0) 0), (.ref 340), (.int (271) 0), (.int (0) 0), (.ref 347), (.int (273) 0), (.int (0) 0), (.ref 354), (.int (275) 0), (.int (0) 0), (.ref 359), (.int (288) 0), (.int (0) 0), (.ref 366), (.int (294) 0), (.int (0) 0), (.ref 371), (.int (306) 0), (.int (0) 0), (.ref 376), (.int (313) 0), (.int (0) 0), (.ref 383), (.int (329) 0), (.int (0) 0), (.ref 390), (.int (337) 0), (.int (0) 0), (.ref 397), (.int (347) 0), (.int (0) 0), (.ref 402), (.int (359) 0), (.int (0) 0), (.ref 409), (.int (370) 0), (.int (0) 0), (.ref 416), (.int (384) 0), (.int (0) 0), (.ref 421), (.int (398) 0), (.int (0) 0), (.ref 428), (.int (404) 0), (.int (0) 0), (.ref 433), (.int (423) 0), (.int (0) 0), (.ref 438)]
noncomputable def m3 (P : Params) (nm : Str) (t : Tok) (es : List DictEntry) (n : Nat) : Obj := dO (.type "dict") (eO P "__name__" 165 (.str nm t) :: es) n
noncomputable def tp (P : Params) (s m z : Obj) : List Obj := [boot_o_0 P, boot_o_1 P, s, m, boot_o_4 P, boot_o_5 P, boot_o_6 P, boot_o_7 P, boot_o_8 P, boot_o_9 P, boot_o_10 P, tO [], z, ccO "<module>" "<module>" 182 1 11 185, frO 13 3 "__main__" 164]
noncomputable def s2 (P : Params) : Obj := dO .none [eO P "type.__subclasses__.Exception.0" 299 (.int (80) 0), eO P "type.__subclasses__.Exception.n" 300 (.int (1) 0)] 2
noncomputable def L0 (P : Params) : List Obj := tp P (boot_o_2 P) (boot_o_3 P) (zO [])
noncomputable def L1 (P : Params) : List Obj := tp P (s2 P) (m3 P "chess.treegame" 335 (E1 P) 22) (zO z1) ++ A1 P
noncomputable def L2 (P : Params) : List Obj := tp P (s2 P) (m3 P "chess.tt" 491 (E1 P ++ E2 P) 35) (zO (z1 ++ z2)) ++ (A1 P ++ A2 P)
noncomputable def L3 (P : Params) : List Obj := tp P (s2 P) (m3 P "law_nt0437_01" 672 (E1 P ++ (E2 P ++ E3 P)) 60) (zO (z1 ++ (z2 ++ z3))) ++ (A1 P ++ (A2 P ++ A3 P))
noncomputable def od : Bool → List Obj → List Obj
  | _, [] => []
  | true, x :: r => x :: od false r
  | false, _ :: r => od true r
noncomputable def ofL : Nat → List Obj → BT
  | 0, _ => .nil
  | _ + 1, [] => .nil
  | n + 1, x :: r => .node x (ofL n (od true r)) (ofL n (od false r))
noncomputable def sT (L : List Obj) (n t : Nat) (os : OsState) : SharedT := ⟨ofL 9 L, n, {}, #[], {}, t, os⟩
noncomputable def sL (L : List Obj) (t : Nat) (os : OsState) : Shared := ⟨⟨L.toArray, {}⟩, #[], {}, t, os⟩
noncomputable def bE : List Stmt := behindTheImports prg
noncomputable def eE : Env := { scope := prg.main.scope, locals := mainNs, globals := mainNs, cells := [], code := .ref 13, frame := some 14 }
noncomputable def cE : Code := .body bE eE
noncomputable def pE (i : Nat) : List Stmt := match i with | 0 => bE.take 17 | 1 => (bE.drop 17).take 14 | _ => bE.drop 31
set_option maxRecDepth 100000
theorem h_pre : ∀ (w : World) (os : OsState), topGo treeTable prg w 11 (some (.ref 6)) 12 ⟨boot_heap w.params, #[], boot_drawn, boot_toks, os⟩ (topStub prg) =
    some ((sT (L0 w.params) 15 187 os).abs, ⟨denote treeTable cE, cE, ⟨0, 0, 0, 0⟩, [topFrame ⟨0, 0, 0, 0⟩]⟩) := by
  intro w os; kernel_rfl
theorem h_1 : ∀ (w : World) (os : OsState), segRunT treeTable prg w 11 (some (.ref 6)) 1 947 (sT (L0 w.params) 15 187 os) (piecesOf (pE 0) eE cE ⟨0, 0, 0, 0⟩ [topFrame ⟨0, 0, 0, 0⟩]) =
    some (.next, sT (L1 w.params) 108 337 os, cE, ⟨89, 0, 89, 8⟩) := by
  first | rw [Fast.te10110043849684766642, Fast.te14364793385576792824] | skip
  intro w os; kernel_rfl
theorem h_2 : ∀ (w : World) (os : OsState), segRunT treeTable prg w 11 (some (.ref 6)) 1 793 (sT (L1 w.params) 108 337 os) (piecesOf (pE 1) eE cE ⟨89, 0, 89, 8⟩ [topFrame ⟨0, 0, 0, 0⟩]) =
    some (.next, sT (L2 w.params) 230 521 os, cE, ⟨175, 0, 189, 56⟩) := by
  first | rw [Fast.te10110043849684766642, Fast.te14364793385576792824] | skip
  intro w os; kernel_rfl
theorem h_3 : ∀ (w : World) (os : OsState), segRunT treeTable prg w 11 (some (.ref 6)) 1 1135 (sT (L2 w.params) 230 521 os) (piecesOf (pE 2) eE cE ⟨175, 0, 189, 56⟩ [topFrame ⟨0, 0, 0, 0⟩]) =
    some (.next, sT (L3 w.params) 440 821 os, cE, ⟨423, 0, 449, 67⟩) := by
  first | rw [Fast.te10110043849684766642, Fast.te14364793385576792824] | skip
  intro w os; kernel_rfl
theorem h_fin : ∀ (w : World) (os : OsState), topRun treeTable prg w 11 (some (.ref 6)) 2 (sT (L3 w.params) 440 821 os).abs ⟨doneF .next, cE, ⟨423, 0, 449, 67⟩, [topFrame ⟨0, 0, 0, 0⟩]⟩ =
    some (sL (L3 w.params) 821 os) := by
  intro w os; kernel_rfl
theorem k_size : ∀ w : World, ((boot_heap w.params).isNs mainGlobals && (#[] : Array GenState).size == 0, (boot_heap w.params).objs.size, (boot_heap w.params).nsMap mainGlobals "__annotations__") = (true, 11, some (.ref 6)) := by
  intro w; kernel_rfl
theorem k_run : ∀ (w : World) (os : OsState), topRun treeTable prg w 11 (some (.ref 6)) (12 + (1 + (947 + (793 + (1135 + 2))))) ⟨boot_heap w.params, #[], boot_drawn, boot_toks, os⟩ (topStub prg) = some (sL (L3 w.params) 821 os) := by
  intro w os
  refine go_top (h_pre w os) ?_
  refine piece_block (q := ⟨0, 0, 0, 0⟩) (s' := (sT (L0 w.params) 15 187 os).abs) (p' := ⟨0, 0, 0, 0⟩) (by kernel_rfl) ?_
  have e : bE = pE 0 ++ (pE 1 ++ (pE 2 ++ [])) := by kernel_rfl
  show topRun treeTable prg w 11 (some (.ref 6)) _ _ (restOf bE eE cE _ _) = _
  rw [e]
  exact piece_app (segRun_of (h_1 w os)) (piece_app (segRun_of (h_2 w os)) (piece_app (segRun_of (h_3 w os)) (piece_nil (h_fin w os))))
theorem o1 : ∀ (w : World) (os : OsState), (staticsOk (importedModules prg.main.body) (boot_heap w.params) ⟨(L3 w.params).toArray, {}⟩ && namesBound prg ⟨(L3 w.params).toArray, {}⟩ && gensDone (sL (L3 w.params) 821 os) && laidKept (boot_heap w.params) ⟨(L3 w.params).toArray, {}⟩) = true := by
  intro w os; kernel_rfl
theorem o2 : ∀ (w : World) (os : OsState), seen ((recsOf view).map (·.name)) (ownsOf view) [] { (sL (L3 w.params) 821 os) with gens := #[] } = expectedOf view := by
  intro w os; kernel_rfl
theorem o3 : ∀ (w : World), (⟨(L3 w.params).toArray, {}⟩ : Heap).bltView = bltViewBooted := by
  intro w; kernel_rfl
theorem o4 : ∀ (w : World) (os : OsState), ((sL (L3 w.params) 821 os).heap.keysOk (looseW view []) ((recsOf view).map (·.name)) ((litsOf view).map (·.1)) ((clssOf view (looseW view [])).map (·.name)) && (sL (L3 w.params) 821 os).heap.accountedOkI (importedModules prg.main.body) && (sL (L3 w.params) 821 os).heap.isNs mainGlobals && (sL (L3 w.params) 821 os).heap.isNs builtinsNs && tablesOk view (sL (L3 w.params) 821 os).heap && (fun s => xlAt view [] s && recOk PySem.Challenge.rw_nt0437_01.row.toRowW.records s) (sL (L3 w.params) 821 os) && (sL (L3 w.params) 821 os).gens.size == 0) = true := by
  intro w os; kernel_rfl
theorem o5 : ∀ (w : World) (os : OsState), tabsOk view (sL (L3 w.params) 821 os) = true := by
  intro w os; kernel_rfl
theorem o6 : ∀ (w : World) (os : OsState), (pinSeenD view (drecsOf view) (sL (L3 w.params) 821 os), plainSeenE view (looseW view []) (sL (L3 w.params) 821 os), plainSeenD view [] (sL (L3 w.params) 821 os), wideSeen view (sL (L3 w.params) 821 os), clsSeenW view [] (sL (L3 w.params) 821 os)) =
    (pinGoodD (drecsOf view), plainGoodE view (looseW view []), plainGoodD view [], wideGood view, clsGoodW view []) := by
  intro w os; kernel_rfl
theorem o7 : ∀ (w : World) (os : OsState), hk.obs (sL (L3 w.params) 821 os) = hk.val w := by
  intro w os; kernel_rfl
theorem o_all (w : World) (os : OsState) : openSeen view [] (importedModules prg.main.body) (fun s => xlAt view [] s && recOk PySem.Challenge.rw_nt0437_01.row.toRowW.records s) true (sL (L3 w.params) 821 os) = openGood view [] := by
  delta openSeen openGood
  exact looks_pair (o2 w os) (looks_pair (o3 w) (looks_pair (o4 w os) (looks_pair (o5 w os) (o6 w os))))
theorem left : LeftO prg view [] (fun s => xlAt view [] s && recOk PySem.Challenge.rw_nt0437_01.row.toRowW.records s) hk.obs hk.val 5870 :=
  LeftO.of_pieces (H₀ := boot_heap) (H₁ := fun P => ⟨(L3 P).toArray, {}⟩) (gs₀ := #[]) (gs₁ := #[]) (d₀ := boot_drawn) (d₁ := {}) (k₀ := boot_toks) (k₁ := 821) (m₀ := 11) (ann := some (.ref 6)) (M := 12 + (1 + (947 + (793 + (1135 + 2)))))
    (boot_open (by kernel_rfl) (by rfl) (fun _ => by kernel_rfl)) k_size k_run (by rfl) (fun w => funext fun os => looks_pair (o1 w os) (looks_pair (o_all w os) (o7 w os)))
noncomputable abbrev rl : OpenLaw := PySem.Challenge.rw_nt0437_01
theorem w1 : namesResolve rl.row.prog = true := by kernel_rfl
theorem w2 : noRoadLSs { strict := !(importedModules rl.row.prog.main.body).all cThrough.contains, foot := none, bare := (["vars", "dir", "locals"] : List Str).filter (readsOut rl.row.prog rl.row.prog.main.body) } rl.row.prog.main.body = true := by kernel_rfl
theorem w3 : namesMeet rl.row.prog rl.row.prog.main.body (fun _ n => attrL n) = true := by kernel_rfl
theorem w4 : (rl.bound'.all fun n => !builtinNamed n || rl.about == [n] || !rl.reads n) = true := by
  first | rw [Fast.named_eq] | skip
  kernel_rfl
theorem w5 : noRoadLSs { strict := true, foot := some rl.bound', writes := rl.writes, may := rl.may } rl.footing = true := by kernel_rfl
theorem w6 : (rl.own.all fun n => !builtinNamed n) = true := by
  first | rw [Fast.named_eq] | skip
  kernel_rfl
theorem said_ : PySem.Challenge.rw_nt0437_01.wellSaid = true := by
  delta OpenLaw.wellSaid OpenRow.wellSaid OpenRow.partSaid looksOpen
  repeat' with_reducible refine look_both ?_ ?_
  all_goals first | (with_reducible exact w1) | (with_reducible exact w2) | (with_reducible exact w3) | (with_reducible exact w4) | (with_reducible exact w5) | (with_reducible exact w6) | kernel_rfl
end Mine
end
section
namespace Mine
theorem x0_2 {p0 p1 : Prop} {r : Prop} (h : p0 ∧ p1) (k : p0 → p1 → r) : r := k h.1 h.2
theorem x0_3 {p0 p1 p2 : Prop} {r : Prop} (h : p0 ∧ p1 ∧ p2) (k : p0 → p1 → p2 → r) : r := k h.1 h.2.1 h.2.2
theorem x0_4 {p0 p1 p2 p3 : Prop} {r : Prop} (h : p0 ∧ p1 ∧ p2 ∧ p3) (k : p0 → p1 → p2 → p3 → r) : r := k h.1 h.2.1 h.2.2.1 h.2.2.2
theorem x0_6 {p0 p1 p2 p3 p4 p5 : Prop} {r : Prop} (h : p0 ∧ p1 ∧ p2 ∧ p3 ∧ p4 ∧ p5) (k : p0 → p1 → p2 → p3 → p4 → p5 → r) : r := k h.1 h.2.1 h.2.2.1 h.2.2.2.1 h.2.2.2.2.1 h.2.2.2.2.2
theorem x1_1 {a0 : Sort _} {p0 : a0 → Prop} {r : Prop} (h : ∃ x0, p0 x0) (k : ∀ (x0 : a0), p0 x0 → r) : r := h.elim fun x0 h => k x0 h
theorem x1_2 {a0 : Sort _} {p0 p1 : a0 → Prop} {r : Prop} (h : ∃ x0, p0 x0 ∧ p1 x0) (k : ∀ (x0 : a0), p0 x0 → p1 x0 → r) : r := h.elim fun x0 h => k x0 h.1 h.2
theorem x1_3 {a0 : Sort _} {p0 p1 p2 : a0 → Prop} {r : Prop} (h : ∃ x0, p0 x0 ∧ p1 x0 ∧ p2 x0) (k : ∀ (x0 : a0), p0 x0 → p1 x0 → p2 x0 → r) : r := h.elim fun x0 h => k x0 h.1 h.2.1 h.2.2
theorem x1_4 {a0 : Sort _} {p0 p1 p2 p3 : a0 → Prop} {r : Prop} (h : ∃ x0, p0 x0 ∧ p1 x0 ∧ p2 x0 ∧ p3 x0) (k : ∀ (x0 : a0), p0 x0 → p1 x0 → p2 x0 → p3 x0 → r) : r := h.elim fun x0 h => k x0 h.1 h.2.1 h.2.2.1 h.2.2.2
theorem x1_5 {a0 : Sort _} {p0 p1 p2 p3 p4 : a0 → Prop} {r : Prop} (h : ∃ x0, p0 x0 ∧ p1 x0 ∧ p2 x0 ∧ p3 x0 ∧ p4 x0) (k : ∀ (x0 : a0), p0 x0 → p1 x0 → p2 x0 → p3 x0 → p4 x0 → r) : r := h.elim fun x0 h => k x0 h.1 h.2.1 h.2.2.1 h.2.2.2.1 h.2.2.2.2
theorem x1_6 {a0 : Sort _} {p0 p1 p2 p3 p4 p5 : a0 → Prop} {r : Prop} (h : ∃ x0, p0 x0 ∧ p1 x0 ∧ p2 x0 ∧ p3 x0 ∧ p4 x0 ∧ p5 x0) (k : ∀ (x0 : a0), p0 x0 → p1 x0 → p2 x0 → p3 x0 → p4 x0 → p5 x0 → r) : r := h.elim fun x0 h => k x0 h.1 h.2.1 h.2.2.1 h.2.2.2.1 h.2.2.2.2.1 h.2.2.2.2.2
theorem x2_1 {a0 : Sort _} {a1 : Sort _} {p0 : a0 → a1 → Prop} {r : Prop} (h : ∃ x0 x1, p0 x0 x1) (k : ∀ (x0 : a0) (x1 : a1), p0 x0 x1 → r) : r := h.elim fun x0 h => h.elim fun x1 h => k x0 x1 h
theorem x2_2 {a0 : Sort _} {a1 : Sort _} {p0 p1 : a0 → a1 → Prop} {r : Prop} (h : ∃ x0 x1, p0 x0 x1 ∧ p1 x0 x1) (k : ∀ (x0 : a0) (x1 : a1), p0 x0 x1 → p1 x0 x1 → r) : r := h.elim fun x0 h => h.elim fun x1 h => k x0 x1 h.1 h.2
theorem x2_3 {a0 : Sort _} {a1 : Sort _} {p0 p1 p2 : a0 → a1 → Prop} {r : Prop} (h : ∃ x0 x1, p0 x0 x1 ∧ p1 x0 x1 ∧ p2 x0 x1) (k : ∀ (x0 : a0) (x1 : a1), p0 x0 x1 → p1 x0 x1 → p2 x0 x1 → r) : r := h.elim fun x0 h => h.elim fun x1 h => k x0 x1 h.1 h.2.1 h.2.2
theorem x2_4 {a0 : Sort _} {a1 : Sort _} {p0 p1 p2 p3 : a0 → a1 → Prop} {r : Prop} (h : ∃ x0 x1, p0 x0 x1 ∧ p1 x0 x1 ∧ p2 x0 x1 ∧ p3 x0 x1) (k : ∀ (x0 : a0) (x1 : a1), p0 x0 x1 → p1 x0 x1 → p2 x0 x1 → p3 x0 x1 → r) : r := h.elim fun x0 h => h.elim fun x1 h => k x0 x1 h.1 h.2.1 h.2.2.1 h.2.2.2
theorem x2_6 {a0 : Sort _} {a1 : Sort _} {p0 p1 p2 p3 p4 p5 : a0 → a1 → Prop} {r : Prop} (h : ∃ x0 x1, p0 x0 x1 ∧ p1 x0 x1 ∧ p2 x0 x1 ∧ p3 x0 x1 ∧ p4 x0 x1 ∧ p5 x0 x1) (k : ∀ (x0 : a0) (x1 : a1), p0 x0 x1 → p1 x0 x1 → p2 x0 x1 → p3 x0 x1 → p4 x0 x1 → p5 x0 x1 → r) : r := h.elim fun x0 h => h.elim fun x1 h => k x0 x1 h.1 h.2.1 h.2.2.1 h.2.2.2.1 h.2.2.2.2.1 h.2.2.2.2.2
theorem x2_8 {a0 : Sort _} {a1 : Sort _} {p0 p1 p2 p3 p4 p5 p6 p7 : a0 → a1 → Prop} {r : Prop} (h : ∃ x0 x1, p0 x0 x1 ∧ p1 x0 x1 ∧ p2 x0 x1 ∧ p3 x0 x1 ∧ p4 x0 x1 ∧ p5 x0 x1 ∧ p6 x0 x1 ∧ p7 x0 x1) (k : ∀ (x0 : a0) (x1 : a1), p0 x0 x1 → p1 x0 x1 → p2 x0 x1 → p3 x0 x1 → p4 x0 x1 → p5 x0 x1 → p6 x0 x1 → p7 x0 x1 → r) : r := h.elim fun x0 h => h.elim fun x1 h => k x0 x1 h.1 h.2.1 h.2.2.1 h.2.2.2.1 h.2.2.2.2.1 h.2.2.2.2.2.1 h.2.2.2.2.2.2.1 h.2.2.2.2.2.2.2
theorem x2_13 {a0 : Sort _} {a1 : Sort _} {p0 p1 p2 p3 p4 p5 p6 p7 p8 p9 p10 p11 p12 : a0 → a1 → Prop} {r : Prop} (h : ∃ x0 x1, p0 x0 x1 ∧ p1 x0 x1 ∧ p2 x0 x1 ∧ p3 x0 x1 ∧ p4 x0 x1 ∧ p5 x0 x1 ∧ p6 x0 x1 ∧ p7 x0 x1 ∧ p8 x0 x1 ∧ p9 x0 x1 ∧ p10 x0 x1 ∧ p11 x0 x1 ∧ p12 x0 x1) (k : ∀ (x0 : a0) (x1 : a1), p0 x0 x1 → p1 x0 x1 → p2 x0 x1 → p3 x0 x1 → p4 x0 x1 → p5 x0 x1 → p6 x0 x1 → p7 x0 x1 → p8 x0 x1 → p9 x0 x1 → p10 x0 x1 → p11 x0 x1 → p12 x0 x1 → r) : r := h.elim fun x0 h => h.elim fun x1 h => k x0 x1 h.1 h.2.1 h.2.2.1 h.2.2.2.1 h.2.2.2.2.1 h.2.2.2.2.2.1 h.2.2.2.2.2.2.1 h.2.2.2.2.2.2.2.1 h.2.2.2.2.2.2.2.2.1 h.2.2.2.2.2.2.2.2.2.1 h.2.2.2.2.2.2.2.2.2.2.1 h.2.2.2.2.2.2.2.2.2.2.2.1 h.2.2.2.2.2.2.2.2.2.2.2.2
theorem x3_1 {a0 : Sort _} {a1 : Sort _} {a2 : Sort _} {p0 : a0 → a1 → a2 → Prop} {r : Prop} (h : ∃ x0 x1 x2, p0 x0 x1 x2) (k : ∀ (x0 : a0) (x1 : a1) (x2 : a2), p0 x0 x1 x2 → r) : r := h.elim fun x0 h => h.elim fun x1 h => h.elim fun x2 h => k x0 x1 x2 h
theorem x3_2 {a0 : Sort _} {a1 : Sort _} {a2 : Sort _} {p0 p1 : a0 → a1 → a2 → Prop} {r : Prop} (h : ∃ x0 x1 x2, p0 x0 x1 x2 ∧ p1 x0 x1 x2) (k : ∀ (x0 : a0) (x1 : a1) (x2 : a2), p0 x0 x1 x2 → p1 x0 x1 x2 → r) : r := h.elim fun x0 h => h.elim fun x1 h => h.elim fun x2 h => k x0 x1 x2 h.1 h.2
theorem x3_3 {a0 : Sort _} {a1 : Sort _} {a2 : Sort _} {p0 p1 p2 : a0 → a1 → a2 → Prop} {r : Prop} (h : ∃ x0 x1 x2, p0 x0 x1 x2 ∧ p1 x0 x1 x2 ∧ p2 x0 x1 x2) (k : ∀ (x0 : a0) (x1 : a1) (x2 : a2), p0 x0 x1 x2 → p1 x0 x1 x2 → p2 x0 x1 x2 → r) : r := h.elim fun x0 h => h.elim fun x1 h => h.elim fun x2 h => k x0 x1 x2 h.1 h.2.1 h.2.2
theorem x3_4 {a0 : Sort _} {a1 : Sort _} {a2 : Sort _} {p0 p1 p2 p3 : a0 → a1 → a2 → Prop} {r : Prop} (h : ∃ x0 x1 x2, p0 x0 x1 x2 ∧ p1 x0 x1 x2 ∧ p2 x0 x1 x2 ∧ p3 x0 x1 x2) (k : ∀ (x0 : a0) (x1 : a1) (x2 : a2), p0 x0 x1 x2 → p1 x0 x1 x2 → p2 x0 x1 x2 → p3 x0 x1 x2 → r) : r := h.elim fun x0 h => h.elim fun x1 h => h.elim fun x2 h => k x0 x1 x2 h.1 h.2.1 h.2.2.1 h.2.2.2
theorem x3_7 {a0 : Sort _} {a1 : Sort _} {a2 : Sort _} {p0 p1 p2 p3 p4 p5 p6 : a0 → a1 → a2 → Prop} {r : Prop} (h : ∃ x0 x1 x2, p0 x0 x1 x2 ∧ p1 x0 x1 x2 ∧ p2 x0 x1 x2 ∧ p3 x0 x1 x2 ∧ p4 x0 x1 x2 ∧ p5 x0 x1 x2 ∧ p6 x0 x1 x2) (k : ∀ (x0 : a0) (x1 : a1) (x2 : a2), p0 x0 x1 x2 → p1 x0 x1 x2 → p2 x0 x1 x2 → p3 x0 x1 x2 → p4 x0 x1 x2 → p5 x0 x1 x2 → p6 x0 x1 x2 → r) : r := h.elim fun x0 h => h.elim fun x1 h => h.elim fun x2 h => k x0 x1 x2 h.1 h.2.1 h.2.2.1 h.2.2.2.1 h.2.2.2.2.1 h.2.2.2.2.2.1 h.2.2.2.2.2.2
theorem x4_1 {a0 : Sort _} {a1 : Sort _} {a2 : Sort _} {a3 : Sort _} {p0 : a0 → a1 → a2 → a3 → Prop} {r : Prop} (h : ∃ x0 x1 x2 x3, p0 x0 x1 x2 x3) (k : ∀ (x0 : a0) (x1 : a1) (x2 : a2) (x3 : a3), p0 x0 x1 x2 x3 → r) : r := h.elim fun x0 h => h.elim fun x1 h => h.elim fun x2 h => h.elim fun x3 h => k x0 x1 x2 x3 h
theorem x4_2 {a0 : Sort _} {a1 : Sort _} {a2 : Sort _} {a3 : Sort _} {p0 p1 : a0 → a1 → a2 → a3 → Prop} {r : Prop} (h : ∃ x0 x1 x2 x3, p0 x0 x1 x2 x3 ∧ p1 x0 x1 x2 x3) (k : ∀ (x0 : a0) (x1 : a1) (x2 : a2) (x3 : a3), p0 x0 x1 x2 x3 → p1 x0 x1 x2 x3 → r) : r := h.elim fun x0 h => h.elim fun x1 h => h.elim fun x2 h => h.elim fun x3 h => k x0 x1 x2 x3 h.1 h.2
theorem x5_3 {a0 : Sort _} {a1 : Sort _} {a2 : Sort _} {a3 : Sort _} {a4 : Sort _} {p0 p1 p2 : a0 → a1 → a2 → a3 → a4 → Prop} {r : Prop} (h : ∃ x0 x1 x2 x3 x4, p0 x0 x1 x2 x3 x4 ∧ p1 x0 x1 x2 x3 x4 ∧ p2 x0 x1 x2 x3 x4) (k : ∀ (x0 : a0) (x1 : a1) (x2 : a2) (x3 : a3) (x4 : a4), p0 x0 x1 x2 x3 x4 → p1 x0 x1 x2 x3 x4 → p2 x0 x1 x2 x3 x4 → r) : r := h.elim fun x0 h => h.elim fun x1 h => h.elim fun x2 h => h.elim fun x3 h => h.elim fun x4 h => k x0 x1 x2 x3 x4 h.1 h.2.1 h.2.2
theorem x5_5 {a0 : Sort _} {a1 : Sort _} {a2 : Sort _} {a3 : Sort _} {a4 : Sort _} {p0 p1 p2 p3 p4 : a0 → a1 → a2 → a3 → a4 → Prop} {r : Prop} (h : ∃ x0 x1 x2 x3 x4, p0 x0 x1 x2 x3 x4 ∧ p1 x0 x1 x2 x3 x4 ∧ p2 x0 x1 x2 x3 x4 ∧ p3 x0 x1 x2 x3 x4 ∧ p4 x0 x1 x2 x3 x4) (k : ∀ (x0 : a0) (x1 : a1) (x2 : a2) (x3 : a3) (x4 : a4), p0 x0 x1 x2 x3 x4 → p1 x0 x1 x2 x3 x4 → p2 x0 x1 x2 x3 x4 → p3 x0 x1 x2 x3 x4 → p4 x0 x1 x2 x3 x4 → r) : r := h.elim fun x0 h => h.elim fun x1 h => h.elim fun x2 h => h.elim fun x3 h => h.elim fun x4 h => k x0 x1 x2 x3 x4 h.1 h.2.1 h.2.2.1 h.2.2.2.1 h.2.2.2.2
theorem x5_9 {a0 : Sort _} {a1 : Sort _} {a2 : Sort _} {a3 : Sort _} {a4 : Sort _} {p0 p1 p2 p3 p4 p5 p6 p7 p8 : a0 → a1 → a2 → a3 → a4 → Prop} {r : Prop} (h : ∃ x0 x1 x2 x3 x4, p0 x0 x1 x2 x3 x4 ∧ p1 x0 x1 x2 x3 x4 ∧ p2 x0 x1 x2 x3 x4 ∧ p3 x0 x1 x2 x3 x4 ∧ p4 x0 x1 x2 x3 x4 ∧ p5 x0 x1 x2 x3 x4 ∧ p6 x0 x1 x2 x3 x4 ∧ p7 x0 x1 x2 x3 x4 ∧ p8 x0 x1 x2 x3 x4) (k : ∀ (x0 : a0) (x1 : a1) (x2 : a2) (x3 : a3) (x4 : a4), p0 x0 x1 x2 x3 x4 → p1 x0 x1 x2 x3 x4 → p2 x0 x1 x2 x3 x4 → p3 x0 x1 x2 x3 x4 → p4 x0 x1 x2 x3 x4 → p5 x0 x1 x2 x3 x4 → p6 x0 x1 x2 x3 x4 → p7 x0 x1 x2 x3 x4 → p8 x0 x1 x2 x3 x4 → r) : r := h.elim fun x0 h => h.elim fun x1 h => h.elim fun x2 h => h.elim fun x3 h => h.elim fun x4 h => k x0 x1 x2 x3 x4 h.1 h.2.1 h.2.2.1 h.2.2.2.1 h.2.2.2.2.1 h.2.2.2.2.2.1 h.2.2.2.2.2.2.1 h.2.2.2.2.2.2.2.1 h.2.2.2.2.2.2.2.2
theorem x6_1 {a0 : Sort _} {a1 : Sort _} {a2 : Sort _} {a3 : Sort _} {a4 : Sort _} {a5 : Sort _} {p0 : a0 → a1 → a2 → a3 → a4 → a5 → Prop} {r : Prop} (h : ∃ x0 x1 x2 x3 x4 x5, p0 x0 x1 x2 x3 x4 x5) (k : ∀ (x0 : a0) (x1 : a1) (x2 : a2) (x3 : a3) (x4 : a4) (x5 : a5), p0 x0 x1 x2 x3 x4 x5 → r) : r := h.elim fun x0 h => h.elim fun x1 h => h.elim fun x2 h => h.elim fun x3 h => h.elim fun x4 h => h.elim fun x5 h => k x0 x1 x2 x3 x4 x5 h
theorem x6_3 {a0 : Sort _} {a1 : Sort _} {a2 : Sort _} {a3 : Sort _} {a4 : Sort _} {a5 : Sort _} {p0 p1 p2 : a0 → a1 → a2 → a3 → a4 → a5 → Prop} {r : Prop} (h : ∃ x0 x1 x2 x3 x4 x5, p0 x0 x1 x2 x3 x4 x5 ∧ p1 x0 x1 x2 x3 x4 x5 ∧ p2 x0 x1 x2 x3 x4 x5) (k : ∀ (x0 : a0) (x1 : a1) (x2 : a2) (x3 : a3) (x4 : a4) (x5 : a5), p0 x0 x1 x2 x3 x4 x5 → p1 x0 x1 x2 x3 x4 x5 → p2 x0 x1 x2 x3 x4 x5 → r) : r := h.elim fun x0 h => h.elim fun x1 h => h.elim fun x2 h => h.elim fun x3 h => h.elim fun x4 h => h.elim fun x5 h => k x0 x1 x2 x3 x4 x5 h.1 h.2.1 h.2.2
theorem x6_4 {a0 : Sort _} {a1 : Sort _} {a2 : Sort _} {a3 : Sort _} {a4 : Sort _} {a5 : Sort _} {p0 p1 p2 p3 : a0 → a1 → a2 → a3 → a4 → a5 → Prop} {r : Prop} (h : ∃ x0 x1 x2 x3 x4 x5, p0 x0 x1 x2 x3 x4 x5 ∧ p1 x0 x1 x2 x3 x4 x5 ∧ p2 x0 x1 x2 x3 x4 x5 ∧ p3 x0 x1 x2 x3 x4 x5) (k : ∀ (x0 : a0) (x1 : a1) (x2 : a2) (x3 : a3) (x4 : a4) (x5 : a5), p0 x0 x1 x2 x3 x4 x5 → p1 x0 x1 x2 x3 x4 x5 → p2 x0 x1 x2 x3 x4 x5 → p3 x0 x1 x2 x3 x4 x5 → r) : r := h.elim fun x0 h => h.elim fun x1 h => h.elim fun x2 h => h.elim fun x3 h => h.elim fun x4 h => h.elim fun x5 h => k x0 x1 x2 x3 x4 x5 h.1 h.2.1 h.2.2.1 h.2.2.2
theorem x6_5 {a0 : Sort _} {a1 : Sort _} {a2 : Sort _} {a3 : Sort _} {a4 : Sort _} {a5 : Sort _} {p0 p1 p2 p3 p4 : a0 → a1 → a2 → a3 → a4 → a5 → Prop} {r : Prop} (h : ∃ x0 x1 x2 x3 x4 x5, p0 x0 x1 x2 x3 x4 x5 ∧ p1 x0 x1 x2 x3 x4 x5 ∧ p2 x0 x1 x2 x3 x4 x5 ∧ p3 x0 x1 x2 x3 x4 x5 ∧ p4 x0 x1 x2 x3 x4 x5) (k : ∀ (x0 : a0) (x1 : a1) (x2 : a2) (x3 : a3) (x4 : a4) (x5 : a5), p0 x0 x1 x2 x3 x4 x5 → p1 x0 x1 x2 x3 x4 x5 → p2 x0 x1 x2 x3 x4 x5 → p3 x0 x1 x2 x3 x4 x5 → p4 x0 x1 x2 x3 x4 x5 → r) : r := h.elim fun x0 h => h.elim fun x1 h => h.elim fun x2 h => h.elim fun x3 h => h.elim fun x4 h => h.elim fun x5 h => k x0 x1 x2 x3 x4 x5 h.1 h.2.1 h.2.2.1 h.2.2.2.1 h.2.2.2.2
theorem x7_2 {a0 : Sort _} {a1 : Sort _} {a2 : Sort _} {a3 : Sort _} {a4 : Sort _} {a5 : Sort _} {a6 : Sort _} {p0 p1 : a0 → a1 → a2 → a3 → a4 → a5 → a6 → Prop} {r : Prop} (h : ∃ x0 x1 x2 x3 x4 x5 x6, p0 x0 x1 x2 x3 x4 x5 x6 ∧ p1 x0 x1 x2 x3 x4 x5 x6) (k : ∀ (x0 : a0) (x1 : a1) (x2 : a2) (x3 : a3) (x4 : a4) (x5 : a5) (x6 : a6), p0 x0 x1 x2 x3 x4 x5 x6 → p1 x0 x1 x2 x3 x4 x5 x6 → r) : r := h.elim fun x0 h => h.elim fun x1 h => h.elim fun x2 h => h.elim fun x3 h => h.elim fun x4 h => h.elim fun x5 h => h.elim fun x6 h => k x0 x1 x2 x3 x4 x5 x6 h.1 h.2
theorem x9_1 {a0 : Sort _} {a1 : Sort _} {a2 : Sort _} {a3 : Sort _} {a4 : Sort _} {a5 : Sort _} {a6 : Sort _} {a7 : Sort _} {a8 : Sort _} {p0 : a0 → a1 → a2 → a3 → a4 → a5 → a6 → a7 → a8 → Prop} {r : Prop} (h : ∃ x0 x1 x2 x3 x4 x5 x6 x7 x8, p0 x0 x1 x2 x3 x4 x5 x6 x7 x8) (k : ∀ (x0 : a0) (x1 : a1) (x2 : a2) (x3 : a3) (x4 : a4) (x5 : a5) (x6 : a6) (x7 : a7) (x8 : a8), p0 x0 x1 x2 x3 x4 x5 x6 x7 x8 → r) : r := h.elim fun x0 h => h.elim fun x1 h => h.elim fun x2 h => h.elim fun x3 h => h.elim fun x4 h => h.elim fun x5 h => h.elim fun x6 h => h.elim fun x7 h => h.elim fun x8 h => k x0 x1 x2 x3 x4 x5 x6 x7 x8 h
end Mine
end
section
open PySem PySem.W PyProof.Rows
set_option Elab.async false
namespace Mine
inductive V where
  | undef | none | bool (b : Bool) | int (i : Int) | ref (n : Nat) | scr (is : List Int)
inductive O where
  | list (vs : List V) | tup (vs : List V) | aux | inst (c : Nat) (fs : List V) | dict (es : List (Int × V))
noncomputable abbrev Hp := List O
inductive Fl where
  | next | brk | cont | ret (v : V) | exc (c : Nat)
inductive FR where
  | ret (v : V) | exc (c : Nat)
noncomputable abbrev EM := List V → Hp → Option (V × Hp)
noncomputable abbrev TM := List V → Hp → Option (Bool × Hp)
noncomputable abbrev SM := List V → Hp → Option (Fl × List V × Hp)
noncomputable abbrev FM := List V → Hp → Option (FR × Hp)
inductive It where
  | rng (lo hi step : Int) | lst (n : Nat) | tpl (n : Nat)
noncomputable abbrev IM := List V → Hp → Option (It × Hp)
noncomputable def lim : Nat := 100000
noncomputable def szl : Nat := 1000000
noncomputable def truthV (H : Hp) : V → Option Bool
  | .bool b => some b
  | .int i => some (i != 0)
  | .ref n => match H[n]? with
    | some (.list vs) => some (!vs.isEmpty)
    | _ => none
  | _ => none
noncomputable def dataB : V → Option PyData
  | .none => some .none
  | .bool b => some (.bool b)
  | .int i => some (.int i)
  | _ => none
noncomputable def mapO (f : V → Option PyData) : List V → Option (List PyData)
  | [] => some []
  | v :: r => (f v).bind fun d => (mapO f r).map (d :: ·)
noncomputable def dataO (f : V → Option PyData) : Option O → Option PyData
  | some (.list vs) => (mapO f vs).map .list
  | some (.tup vs) => (mapO f vs).map .tuple
  | _ => none
noncomputable def dataR (f : V → Option PyData) (H : Hp) : V → Option PyData
  | .ref n => dataO f H[n]?
  | v => dataB v
noncomputable def dataV : Nat → Hp → V → Option PyData
  | 0, _ => dataB
  | k + 1, H => dataR (dataV k H) H
noncomputable def intsV : List V → Option (List Int)
  | [] => some []
  | .int i :: r => (intsV r).map (i :: ·)
  | _ => none
inductive AOp where
  | add | sub | mul | fdiv | mod | pow | band | bor | shl | shr
noncomputable def two64 : Nat := 18446744073709551616
noncomputable def arith : AOp → Int → Int → Option Int
  | .add, a, b => some (a + b)
  | .sub, a, b => some (a - b)
  | .mul, a, b => if b.natAbs < two64 then some (a * b) else none
  | .fdiv, a, b => if b ≠ 0 ∧ b.natAbs < two64 then some (a.fdiv b) else none
  | .mod, a, b => if b ≠ 0 then some (a.fmod b) else none
  | .pow, a, b => if 0 ≤ b ∧ b ≤ 1000 ∧ a.natAbs < two64 then some (a ^ b.toNat) else none
  | .band, a, b => some (Builtin.bitAnd a b)
  | .bor, a, b => some (Builtin.bitOr a b)
  | .shl, a, b => if 0 ≤ b ∧ b ≤ 1000 ∧ a.natAbs < two64 then some (a * 2 ^ b.toNat) else none
  | .shr, a, b => if 0 ≤ b ∧ b ≤ 1000 then some (a.fdiv (2 ^ b.toNat)) else none
noncomputable def binV (op : AOp) (x y : V) (H : Hp) : Option (V × Hp) :=
  match x, y with
  | .int a, .int b => (arith op a b).map fun i => (.int i, H)
  | .ref m, .ref n => match op, H[m]?, H[n]? with
    | .add, some (.list vs), some (.list ws) => if vs.length + ws.length < lim then some (.ref H.length, H ++ [.list (vs ++ ws)]) else none
    | _, _, _ => none
  | .ref m, .int k => match op, H[m]? with
    | .mul, some (.list vs) => if vs.length * k.toNat < lim ∧ k.natAbs < 100000 then some (.ref H.length, H ++ [.list (List.replicate k.toNat vs).flatten]) else none
    | _, _ => none
  | _, _ => none
inductive COp where
  | lt | le | gt | ge | eq | ne | isn | isnot | inn | notin
noncomputable def cmpV (op : COp) (x y : V) (H : Hp) : Option Bool :=
  match op with
  | .lt => match x, y with | .int a, .int b => some (decide (a < b)) | _, _ => none
  | .le => match x, y with | .int a, .int b => some (decide (a ≤ b)) | _, _ => none
  | .gt => match x, y with | .int a, .int b => some (decide (b < a)) | _, _ => none
  | .ge => match x, y with | .int a, .int b => some (decide (b ≤ a)) | _, _ => none
  | .eq => match dataV 4 H x, dataV 4 H y with | some d, some e => some (PyData.eqv d e) | _, _ => none
  | .ne => match dataV 4 H x, dataV 4 H y with | some d, some e => some (!PyData.eqv d e) | _, _ => none
  | .isn => match y with | .none => (match x with | .none => some true | .undef => none | _ => some false) | _ => none
  | .isnot => match y with | .none => (match x with | .none => some false | .undef => none | _ => some true) | _ => none
  | .inn => match x, y with
    | .int a, .ref n => match H[n]? with
      | some (.list vs) => (intsV vs).map fun is => is.any fun i => i == a
      | some (.tup vs) => (intsV vs).map fun is => is.any fun i => i == a
      | _ => none
    | _, _ => none
  | .notin => match x, y with
    | .int a, .ref n => match H[n]? with
      | some (.list vs) => (intsV vs).map fun is => !(is.any fun i => i == a)
      | some (.tup vs) => (intsV vs).map fun is => !(is.any fun i => i == a)
      | _ => none
    | _, _ => none
noncomputable def idx (k : Nat) (i : Int) : Option Nat :=
  if 0 ≤ i then some i.toNat else if 0 ≤ i + k then some (i + k).toNat else none
noncomputable def getD (k : Int) : List (Int × V) → Option V
  | [] => none
  | (j, w) :: r => if j = k then some w else getD k r
noncomputable def getV (x y : V) (H : Hp) : Option V :=
  match x, y with
  | .scr is, .int i => if 0 ≤ i then (is[i.toNat]?).map .int else none
  | .ref n, .int i => match H[n]? with
    | some (.list vs) => (idx vs.length i).bind fun k => vs[k]?
    | some (.tup vs) => (idx vs.length i).bind fun k => vs[k]?
    | some (.dict es) => getD i es
    | _ => none
  | _, _ => none
noncomputable def lenV (x : V) (H : Hp) : Option Int :=
  match x with
  | .scr is => some is.length
  | .ref n => match H[n]? with
    | some (.list vs) => some vs.length
    | some (.tup vs) => some vs.length
    | _ => none
  | _ => none
noncomputable def setV (x y v : V) (H : Hp) : Option Hp :=
  match x, y with
  | .ref n, .int i => match H[n]? with
    | some (.list vs) => if 0 ≤ i ∧ i < vs.length then some (H.set n (.list (vs.set i.toNat v))) else none
    | some (.dict es) => if es.length < lim then some (H.set n (.dict ((i, v) :: es))) else none
    | _ => none
  | _, _ => none
noncomputable def eNone : EM := fun _ H => some (.none, H)
noncomputable def eBool (b : Bool) : EM := fun _ H => some (.bool b, H)
noncomputable def eInt (i : Int) : EM := fun _ H => some (.int i, H)
noncomputable def eLoc (k : Nat) : EM := fun ρ H => match ρ[k]? with
  | none => none
  | some .undef => none
  | some v => some (v, H)
noncomputable def eBin (op : AOp) (a b : EM) : EM := fun ρ H => do
  let (x, H) ← a ρ H
  let (y, H) ← b ρ H
  binV op x y H
noncomputable def eNeg (a : EM) : EM := fun ρ H => do
  let (x, H) ← a ρ H
  match x with
  | .int i => some (.int (-i), H)
  | _ => none
noncomputable def eNot (a : EM) : EM := fun ρ H => do
  let (x, H) ← a ρ H
  let b ← truthV H x
  some (.bool (!b), H)
noncomputable def eAnd (a b : EM) : EM := fun ρ H => do
  let (x, H) ← a ρ H
  let t ← truthV H x
  if t then b ρ H else some (x, H)
noncomputable def eCmp (op : COp) (a b : EM) : EM := fun ρ H => do
  let (x, H) ← a ρ H
  let (y, H) ← b ρ H
  let r ← cmpV op x y H
  some (.bool r, H)
noncomputable def eIf (t : TM) (a b : EM) : EM := fun ρ H => do
  let (c, H) ← t ρ H
  if c then a ρ H else b ρ H
noncomputable def evs : List EM → List V → Hp → Option (List V × Hp)
  | [], _, H => some ([], H)
  | a :: r, ρ, H => do
    let (x, H) ← a ρ H
    let (xs, H) ← evs r ρ H
    some (x :: xs, H)
noncomputable def eList (es : List EM) : EM := fun ρ H => do
  let (xs, H) ← evs es ρ H
  some (.ref H.length, H ++ [.list xs])
noncomputable def eTup (es : List EM) : EM := fun ρ H => do
  let (xs, H) ← evs es ρ H
  some (.ref H.length, H ++ [.tup xs])
noncomputable def eDict0 : EM := fun _ H => some (.ref H.length, H ++ [.dict []])
noncomputable def eSub (a b : EM) : EM := fun ρ H => do
  let (x, H) ← a ρ H
  let (y, H) ← b ρ H
  let v ← getV x y H
  some (v, H)
noncomputable def listAt (x : V) (H : Hp) : Option (List V) :=
  match x with
  | .ref n => match H[n]? with
    | some (.list vs) => some vs
    | _ => none
  | _ => none
noncomputable def eCopy (a : EM) : EM := fun ρ H => do
  let (x, H) ← a ρ H
  let vs ← listAt x H
  some (.ref H.length, H ++ [.list vs])
noncomputable def eButLast (a : EM) : EM := fun ρ H => do
  let (x, H) ← a ρ H
  let vs ← listAt x H
  some (.ref H.length, H ++ [.list vs.dropLast])
noncomputable def eAttr (c k : Nat) (a : EM) : EM := fun ρ H => do
  let (x, H) ← a ρ H
  match x with
  | .ref n => match H[n]? with
    | some (.inst c' fs) => if c' = c then (fs[k]?).map fun v => (v, H) else none
    | _ => none
  | _ => none
noncomputable def eCall (f : FM) (es : List EM) : EM := fun ρ H => do
  let (xs, H) ← evs es ρ H
  match f xs H with
  | some (.ret v, H) => some (v, H)
  | _ => none
noncomputable def isInst (c : Nat) (x : V) (H : Hp) : Bool :=
  match x with
  | .ref n => match H[n]? with
    | some (.inst c' _) => c' == c
    | _ => false
  | _ => false
noncomputable def eMeth (c : Nat) (f : FM) (a : EM) (es : List EM) : EM := fun ρ H => do
  let (x, H) ← a ρ H
  if isInst c x H then
    let (xs, H) ← evs es ρ H
    match f (x :: xs) H with
    | some (.ret v, H) => some (v, H)
    | _ => none
  else none
noncomputable def eAppend (a b : EM) : EM := fun ρ H => do
  let (x, H) ← a ρ H
  match x with
  | .ref n => match H[n]? with
    | some (.list _) => do
      let (y, H) ← b ρ H
      match H[n]? with
      | some (.list vs) => if vs.length < lim then some (.none, H.set n (.list (vs ++ [y]))) else none
      | _ => none
    | _ => none
  | _ => none
noncomputable def ePop (a : EM) : EM := fun ρ H => do
  let (x, H) ← a ρ H
  match x with
  | .ref n => match H[n]? with
    | some (.list vs) => match vs.getLast? with
      | some v => some (v, H.set n (.list vs.dropLast))
      | none => none
    | _ => none
  | _ => none
noncomputable def eGet (d k e : EM) : EM := fun ρ H => do
  let (x, H) ← d ρ H
  match x with
  | .ref n => match H[n]? with
    | some (.dict _) => do
      let (y, H) ← k ρ H
      let (z, H) ← e ρ H
      match y, H[n]? with
      | .int i, some (.dict es) => some ((getD i es).getD z, H)
      | _, _ => none
    | _ => none
  | _ => none
noncomputable def eLen (a : EM) : EM := fun ρ H => do
  let (x, H) ← a ρ H
  let i ← lenV x H
  some (.int i, H)
noncomputable def rangeL (lo hi : Int) : List V := (List.range (hi - lo).toNat).map fun (i : Nat) => .int (lo + (i : Int))
noncomputable def eListRange (a b : EM) : EM := fun ρ H => do
  let (x, H) ← a ρ H
  let (y, H) ← b ρ H
  match x, y with
  | .int lo, .int hi => if lo.natAbs < lim ∧ hi.natAbs < lim then some (.ref H.length, H ++ [.list (rangeL lo hi)]) else none
  | _, _ => none
noncomputable def eMin2 (a b : EM) : EM := fun ρ H => do
  let (x, H) ← a ρ H
  let (y, H) ← b ρ H
  match x, y with
  | .int i, .int j => some (.int (if j < i then j else i), H)
  | _, _ => none
noncomputable def eMax2 (a b : EM) : EM := fun ρ H => do
  let (x, H) ← a ρ H
  let (y, H) ← b ρ H
  match x, y with
  | .int i, .int j => some (.int (if j > i then j else i), H)
  | _, _ => none
noncomputable def maxI : Int → List Int → Int
  | m, [] => m
  | m, i :: r => maxI (if i > m then i else m) r
noncomputable def eMax1 (a : EM) : EM := fun ρ H => do
  let (x, H) ← a ρ H
  let vs ← listAt x H
  match intsV vs with
  | some (i :: r) => some (.int (maxI i r), H)
  | _ => none
noncomputable def eSum (a : EM) : EM := fun ρ H => do
  let (x, H) ← a ρ H
  let vs ← listAt x H
  match intsV vs with
  | some is => some (.int is.sum, H)
  | _ => none
noncomputable def insI (x : Int) : List Int → List Int
  | [] => [x]
  | y :: r => if x ≤ y then x :: y :: r else y :: insI x r
noncomputable def sortI : List Int → List Int
  | [] => []
  | x :: r => insI x (sortI r)
noncomputable def eSorted (a : EM) : EM := fun ρ H => do
  let (x, H) ← a ρ H
  let vs ← listAt x H
  match intsV vs with
  | some is => if is.length < 64 then some (.ref H.length, H ++ [.list ((sortI is).map .int)]) else none
  | _ => none
noncomputable def eNew (c : Nat) (f : FM) (es : List EM) : EM := fun ρ H => do
  let (xs, H) ← evs es ρ H
  match f (.ref (H.length + 1) :: xs) (H ++ [.aux, .inst c []]) with
  | some (.ret .none, H') => some (.ref (H.length + 1), H')
  | _ => none
noncomputable def iRange1 (a : EM) : IM := fun ρ H => do
  let (x, H) ← a ρ H
  match x with
  | .int hi => if hi.natAbs < lim then some (.rng 0 hi 1, H) else none
  | _ => none
noncomputable def iRange2 (a b : EM) : IM := fun ρ H => do
  let (x, H) ← a ρ H
  let (y, H) ← b ρ H
  match x, y with
  | .int lo, .int hi => if lo.natAbs < lim ∧ hi.natAbs < lim then some (.rng lo hi 1, H) else none
  | _, _ => none
noncomputable def iRangeDn (a b : EM) : IM := fun ρ H => do
  let (x, H) ← a ρ H
  let (y, H) ← b ρ H
  match x, y with
  | .int lo, .int hi => if lo.natAbs < lim ∧ hi.natAbs < lim then some (.rng lo hi (-1), H) else none
  | _, _ => none
noncomputable def iSeq (a : EM) : IM := fun ρ H => do
  let (x, H) ← a ρ H
  match x with
  | .ref n => match H[n]? with
    | some (.list _) => some (.lst n, H)
    | some (.tup _) => some (.tpl n, H)
    | _ => none
  | _ => none
noncomputable def nextV (it : It) (i : Nat) (H : Hp) : Option (Option V) :=
  match it with
  | .rng lo hi st =>
    if st = 1 then (if lo + i < hi then some (some (.int (lo + i))) else some none)
    else if st = -1 then (if hi < lo - i then some (some (.int (lo - i))) else some none)
    else none
  | .lst n => match H[n]? with
    | some (.list vs) => if i ≤ vs.length then some vs[i]? else none
    | _ => none
  | .tpl n => match H[n]? with
    | some (.tup vs) => if i ≤ vs.length then some vs[i]? else none
    | _ => none
noncomputable def fuel : Nat := 2000
noncomputable def compL (slot : Nat) (it : It) (cond : Option TM) (elt : EM) (ρ : List V) : Nat → Nat → List V → Hp → Option (List V × Hp)
  | 0, _, _, _ => none
  | f + 1, i, acc, H => match nextV it i H with
    | none => none
    | some none => some (acc, H)
    | some (some v) => do
      let (t, H) ← match cond with
        | none => some (true, H)
        | some c => c (ρ.set slot v) H
      if t then
        let (y, H) ← elt (ρ.set slot v) H
        compL slot it cond elt ρ f (i + 1) (acc ++ [y]) H
      else compL slot it cond elt ρ f (i + 1) acc H
noncomputable def eComp (slot : Nat) (it : IM) (cond : Option TM) (elt : EM) : EM := fun ρ H => do
  let (it, H) ← it ρ H
  let (acc, H) ← compL slot it cond elt ρ fuel 0 [] H
  some (.ref H.length, H ++ [.list acc])
noncomputable def tVal (a : EM) : TM := fun ρ H => do
  let (x, H) ← a ρ H
  let b ← truthV H x
  some (b, H)
noncomputable def tNot (t : TM) : TM := fun ρ H => do
  let (b, H) ← t ρ H
  some (!b, H)
noncomputable def tAnd (a b : TM) : TM := fun ρ H => do
  let (x, H) ← a ρ H
  if x then b ρ H else some (false, H)
noncomputable def tOr (a b : TM) : TM := fun ρ H => do
  let (x, H) ← a ρ H
  if x then some (true, H) else b ρ H
noncomputable def tCmp (op : COp) (a b : EM) : TM := fun ρ H => do
  let (x, H) ← a ρ H
  let (y, H) ← b ρ H
  let r ← cmpV op x y H
  some (r, H)
noncomputable def tChain (op : COp) (op' : COp) (a b c : EM) : TM := fun ρ H => do
  let (x, H) ← a ρ H
  let (y, H) ← b ρ H
  let r ← cmpV op x y H
  if r then
    let (z, H) ← c ρ H
    let r ← cmpV op' y z H
    some (r, H)
  else some (false, H)
noncomputable def sPass : SM := fun ρ H => some (.next, ρ, H)
noncomputable def sBrk : SM := fun ρ H => some (.brk, ρ, H)
noncomputable def sCont : SM := fun ρ H => some (.cont, ρ, H)
noncomputable def sSeq (a b : SM) : SM := fun ρ H => do
  let (f, ρ, H) ← a ρ H
  match f with
  | .next => b ρ H
  | f => some (f, ρ, H)
noncomputable def sAssign (k : Nat) (a : EM) : SM := fun ρ H => do
  let (x, H) ← a ρ H
  some (.next, ρ.set k x, H)
noncomputable def setAll : List Nat → List V → List V → Option (List V)
  | [], [], ρ => some ρ
  | k :: ks, v :: vs, ρ => setAll ks vs (ρ.set k v)
  | _, _, _ => none
noncomputable def sUnpack (ks : List Nat) (a : EM) : SM := fun ρ H => do
  let (x, H) ← a ρ H
  match x with
  | .ref n => match H[n]? with
    | some (.tup vs) => do
      let ρ ← setAll ks vs ρ
      some (.next, ρ, H)
    | _ => none
  | _ => none
noncomputable def sSetItem (o i e : EM) : SM := fun ρ H => do
  let (v, H) ← e ρ H
  let (x, H) ← o ρ H
  let (y, H) ← i ρ H
  let H ← setV x y v H
  some (.next, ρ, H)
noncomputable def sSetAttr (c k : Nat) (o e : EM) : SM := fun ρ H => do
  let (v, H) ← e ρ H
  let (x, H) ← o ρ H
  match x with
  | .ref n => match H[n]? with
    | some (.inst c' fs) => if c' = c ∧ fs.length = k then some (.next, ρ, H.set n (.inst c (fs ++ [v]))) else none
    | _ => none
  | _ => none
noncomputable def sAug (k : Nat) (op : AOp) (e : EM) : SM := fun ρ H => do
  let (x, H) ← eLoc k ρ H
  let (y, H) ← e ρ H
  match x, y with
  | .int a, .int b => do
    let i ← arith op a b
    some (.next, ρ.set k (.int i), H)
  | .ref m, .ref n => match op, H[m]?, H[n]? with
    | .add, some (.list vs), some (.list ws) => if m ≠ n ∧ vs.length + ws.length < lim then some (.next, ρ.set k (.ref m), H.set m (.list (vs ++ ws))) else none
    | _, _, _ => none
  | _, _ => none
noncomputable def sAugSub (o i e : EM) : SM := fun ρ H => do
  let (x, H) ← o ρ H
  let (y, H) ← i ρ H
  let v ← getV x y H
  let (z, H) ← e ρ H
  match x, v, z with
  | .ref _, .int a, .int b => do
    let H ← setV x y (.int (a + b)) H
    some (.next, ρ, H)
  | _, _, _ => none
noncomputable def sExpr (a : EM) : SM := fun ρ H => do
  let (_, H) ← a ρ H
  some (.next, ρ, H)
noncomputable def sCall (f : FM) (es : List EM) : SM := fun ρ H => do
  let (xs, H) ← evs es ρ H
  match f xs H with
  | some (.ret _, H) => some (.next, ρ, H)
  | some (.exc c, H) => some (.exc c, ρ, H)
  | none => none
noncomputable def sMeth (c : Nat) (f : FM) (a : EM) (es : List EM) : SM := fun ρ H => do
  let (x, H) ← a ρ H
  if isInst c x H then
    let (xs, H) ← evs es ρ H
    match f (x :: xs) H with
    | some (.ret _, H) => some (.next, ρ, H)
    | some (.exc c, H) => some (.exc c, ρ, H)
    | none => none
  else none
noncomputable def sIf (t : TM) (a b : SM) : SM := fun ρ H => do
  let (c, H) ← t ρ H
  if c then a ρ H else b ρ H
noncomputable def forL (slot : Nat) (it : It) (body : SM) : Nat → Nat → List V → Hp → Option (Fl × List V × Hp)
  | 0, _, _, _ => none
  | f + 1, i, ρ, H => match nextV it i H with
    | none => none
    | some none => some (.next, ρ, H)
    | some (some v) => do
      let (fl, ρ, H) ← body (ρ.set slot v) H
      match fl with
      | .next => forL slot it body f (i + 1) ρ H
      | .cont => forL slot it body f (i + 1) ρ H
      | .brk => some (.next, ρ, H)
      | fl => some (fl, ρ, H)
noncomputable def sFor (slot : Nat) (it : IM) (body : SM) : SM := fun ρ H => do
  let (it, H) ← it ρ H
  forL slot it body fuel 0 ρ H
noncomputable def whileL (t : TM) (body : SM) : Nat → List V → Hp → Option (Fl × List V × Hp)
  | 0, _, _ => none
  | f + 1, ρ, H => do
    let (c, H) ← t ρ H
    if c then
      let (fl, ρ, H) ← body ρ H
      match fl with
      | .next => whileL t body f ρ H
      | .cont => whileL t body f ρ H
      | .brk => some (.next, ρ, H)
      | .ret v => some (.ret v, ρ, H)
      | .exc _ => none
    else some (.next, ρ, H)
noncomputable def sWhile (t : TM) (body : SM) : SM := fun ρ H => whileL t body fuel ρ H
noncomputable def sRet (a : EM) : SM := fun ρ H => do
  let (x, H) ← a ρ H
  some (.ret x, ρ, H)
noncomputable def sRetN : SM := fun ρ H => some (.ret .none, ρ, H)
noncomputable def sRaise (c : Nat) : SM := fun ρ H => some (.exc c, ρ, H)
noncomputable def noExc : Option (Fl × List V × Hp) → Option (Fl × List V × Hp)
  | some (.exc _, _, _) => none
  | r => r
noncomputable def sTry (body : SM) (c : Nat) (h : SM) : SM := fun ρ H => do
  let (fl, ρ, H) ← body ρ H
  match fl with
  | .exc c' => if c' = c then noExc (h ρ H) else none
  | fl => some (fl, ρ, H)
noncomputable def mkF (k n : Nat) (body : SM) : FM := fun args H =>
  if args.length = k then do
    let (fl, _, H) ← body (args ++ List.replicate (n - k) .undef) H
    match fl with
    | .next => some (.ret .none, H)
    | .ret v => some (.ret v, H)
    | .exc c => some (.exc c, H)
    | _ => none
  else none
end Mine
end
section
open PySem PySem.W PyProof.Rows
namespace Mine
noncomputable def b_mated_in : SM :=
  (sRet (eBin .sub (eLoc 0) (eInt 32000)))
noncomputable def f_mated_in : FM := mkF 1 1 b_mated_in
noncomputable def b_TreeGame___init__ : SM :=
  (sSeq (sSetAttr 0 0 (eLoc 0) (eLoc 1))
  (sSeq (sSetAttr 0 1 (eLoc 0) (eLoc 2))
  (sSeq (sSetAttr 0 2 (eLoc 0) (eLoc 3))
  (sSeq (sSetAttr 0 3 (eLoc 0) (eLoc 4))
  (sSeq (sSetAttr 0 4 (eLoc 0) (eLoc 5))
  (sSeq (sSetAttr 0 5 (eLoc 0) (eLoc 6))
  (sSetAttr 0 6 (eLoc 0) (eList [(eInt 0)]))))))))
noncomputable def f_TreeGame___init__ : FM := mkF 7 7 b_TreeGame___init__
noncomputable def b_TransTable___init__ : SM :=
  (sSeq (sIf (tOr (tCmp .lt (eLoc 1) (eInt 1)) (tCmp .lt (eLoc 2) (eInt 1)))
    (sRaise 2)
    sPass)
  (sSeq (sSetAttr 1 0 (eLoc 0) (eLoc 1))
  (sSeq (sSetAttr 1 1 (eLoc 0) (eLoc 2))
  (sSeq (sSetAttr 1 2 (eLoc 0) (eInt 0))
  (sSetAttr 1 3 (eLoc 0) (eBin .mul (eList [(eInt 0)]) (eBin .mul (eLoc 1) (eLoc 2))))))))
noncomputable def f_TransTable___init__ : FM := mkF 3 3 b_TransTable___init__
noncomputable def b_TreeGame_moves : SM :=
  (sRet (eListRange (eInt 1) (eBin .add (eLen (eSub (eAttr 0 0 (eLoc 0)) (eSub (eAttr 0 6 (eLoc 0)) (eNeg (eInt 1))))) (eInt 1))))
noncomputable def f_TreeGame_moves : FM := mkF 1 1 b_TreeGame_moves
noncomputable def b_TreeGame_is_noisy : SM :=
  (sRet (eSub (eSub (eAttr 0 4 (eLoc 0)) (eSub (eAttr 0 6 (eLoc 0)) (eNeg (eInt 1)))) (eBin .sub (eLoc 1) (eInt 1))))
noncomputable def f_TreeGame_is_noisy : FM := mkF 2 2 b_TreeGame_is_noisy
noncomputable def b_TreeGame_noisy : SM :=
  (sRet (eComp 1 (iSeq (eMeth 0 f_TreeGame_moves (eLoc 0) [])) (some (tVal (eMeth 0 f_TreeGame_is_noisy (eLoc 0) [(eLoc 1)]))) (eLoc 1)))
noncomputable def f_TreeGame_noisy : FM := mkF 1 2 b_TreeGame_noisy
noncomputable def b_TreeGame_make : SM :=
  (sSeq (sAssign 2 (eSub (eAttr 0 0 (eLoc 0)) (eSub (eAttr 0 6 (eLoc 0)) (eNeg (eInt 1)))))
  (sSeq (sIf (tOr (tCmp .lt (eLoc 1) (eInt 1)) (tCmp .gt (eLoc 1) (eLen (eLoc 2))))
    (sRaise 1)
    sPass)
  (sExpr (eAppend (eAttr 0 6 (eLoc 0)) (eSub (eLoc 2) (eBin .sub (eLoc 1) (eInt 1)))))))
noncomputable def f_TreeGame_make : FM := mkF 2 3 b_TreeGame_make
noncomputable def b_TreeGame_undo : SM :=
  (sSeq (sIf (tCmp .eq (eLen (eAttr 0 6 (eLoc 0))) (eInt 1))
    (sRaise 1)
    sPass)
  (sExpr (ePop (eAttr 0 6 (eLoc 0)))))
noncomputable def f_TreeGame_undo : FM := mkF 1 1 b_TreeGame_undo
noncomputable def b_TreeGame_value : SM :=
  (sRet (eSub (eAttr 0 1 (eLoc 0)) (eSub (eAttr 0 6 (eLoc 0)) (eNeg (eInt 1)))))
noncomputable def f_TreeGame_value : FM := mkF 1 1 b_TreeGame_value
noncomputable def b_TreeGame_key : SM :=
  (sRet (eBin .add (eSub (eAttr 0 6 (eLoc 0)) (eNeg (eInt 1))) (eInt 1)))
noncomputable def f_TreeGame_key : FM := mkF 1 1 b_TreeGame_key
noncomputable def b_TreeGame_in_check : SM :=
  (sRet (eSub (eAttr 0 2 (eLoc 0)) (eSub (eAttr 0 6 (eLoc 0)) (eNeg (eInt 1)))))
noncomputable def f_TreeGame_in_check : FM := mkF 1 1 b_TreeGame_in_check
noncomputable def b_TreeGame_is_draw : SM :=
  (sRet (eSub (eAttr 0 3 (eLoc 0)) (eSub (eAttr 0 6 (eLoc 0)) (eNeg (eInt 1)))))
noncomputable def f_TreeGame_is_draw : FM := mkF 1 1 b_TreeGame_is_draw
noncomputable def b_TreeGame_gain : SM :=
  (sRet (eSub (eSub (eAttr 0 5 (eLoc 0)) (eSub (eAttr 0 6 (eLoc 0)) (eNeg (eInt 1)))) (eBin .sub (eLoc 1) (eInt 1))))
noncomputable def f_TreeGame_gain : FM := mkF 2 2 b_TreeGame_gain
noncomputable def b_TreeGame_side : SM :=
  (sRet (eBin .band (eBin .sub (eLen (eAttr 0 6 (eLoc 0))) (eInt 1)) (eInt 1)))
noncomputable def f_TreeGame_side : FM := mkF 1 1 b_TreeGame_side
noncomputable def b_plain_quiesce (rec : FM) : SM :=
  (sSeq (sIf (tAnd (tCmp .gt (eLoc 1) (eInt 0)) (tVal (eMeth 0 f_TreeGame_is_draw (eLoc 0) [])))
    (sRet (eInt 0))
    sPass)
  (sSeq (sIf (tVal (eMeth 0 f_TreeGame_in_check (eLoc 0) []))
    (sSeq (sAssign 3 (eMeth 0 f_TreeGame_moves (eLoc 0) []))
    (sSeq (sIf (tNot (tVal (eLoc 3)))
      (sRet (eCall f_mated_in [(eLoc 1)]))
      sPass)
    (sSeq (sIf (tCmp .le (eLoc 2) (eInt 0))
      (sRet (eMeth 0 f_TreeGame_value (eLoc 0) []))
      sPass)
    (sAssign 4 (eNeg (eInt 32001))))))
    (sSeq (sAssign 4 (eMeth 0 f_TreeGame_value (eLoc 0) []))
    (sSeq (sIf (tCmp .le (eLoc 2) (eInt 0))
      (sRet (eLoc 4))
      sPass)
    (sAssign 3 (eMeth 0 f_TreeGame_noisy (eLoc 0) [])))))
  (sSeq (sFor 5 (iSeq (eLoc 3))
    (sSeq (sMeth 0 f_TreeGame_make (eLoc 0) [(eLoc 5)])
    (sSeq (sAssign 6 (eNeg (eCall rec [(eLoc 0), (eBin .add (eLoc 1) (eInt 1)), (eBin .sub (eLoc 2) (eInt 1))])))
    (sSeq (sMeth 0 f_TreeGame_undo (eLoc 0) [])
    (sIf (tCmp .gt (eLoc 6) (eLoc 4))
      (sAssign 4 (eLoc 6))
      sPass)))))
  (sRet (eLoc 4)))))
noncomputable def f_plain_quiesce : Nat → FM
  | 0 => fun _ _ => none
  | n + 1 => mkF 3 7 (b_plain_quiesce (f_plain_quiesce n))
noncomputable def b_end_value : SM :=
  (sSeq (sIf (tVal (eMeth 0 f_TreeGame_in_check (eLoc 0) []))
    (sRet (eCall f_mated_in [(eLoc 1)]))
    sPass)
  (sRet (eInt 0)))
noncomputable def f_end_value : FM := mkF 2 2 b_end_value
noncomputable def b_negamax (rec : FM) : SM :=
  (sSeq (sIf (tAnd (tCmp .gt (eLoc 2) (eInt 0)) (tVal (eMeth 0 f_TreeGame_is_draw (eLoc 0) [])))
    (sRet (eInt 0))
    sPass)
  (sSeq (sIf (tCmp .le (eLoc 1) (eInt 0))
    (sRet (eCall (f_plain_quiesce 10) [(eLoc 0), (eLoc 2), (eLoc 3)]))
    sPass)
  (sSeq (sAssign 4 (eMeth 0 f_TreeGame_moves (eLoc 0) []))
  (sSeq (sIf (tNot (tVal (eLoc 4)))
    (sRet (eCall f_end_value [(eLoc 0), (eLoc 2)]))
    sPass)
  (sSeq (sAssign 5 (eNeg (eInt 32001)))
  (sSeq (sFor 6 (iSeq (eLoc 4))
    (sSeq (sMeth 0 f_TreeGame_make (eLoc 0) [(eLoc 6)])
    (sSeq (sAssign 7 (eNeg (eCall rec [(eLoc 0), (eBin .sub (eLoc 1) (eInt 1)), (eBin .add (eLoc 2) (eInt 1)), (eLoc 3)])))
    (sSeq (sMeth 0 f_TreeGame_undo (eLoc 0) [])
    (sIf (tCmp .gt (eLoc 7) (eLoc 5))
      (sAssign 5 (eLoc 7))
      sPass)))))
  (sRet (eLoc 5))))))))
noncomputable def f_negamax : Nat → FM
  | 0 => fun _ _ => none
  | n + 1 => mkF 4 8 (b_negamax (f_negamax n))
noncomputable def b_line_value : SM :=
  (sSeq (sFor 4 (iSeq (eLoc 1))
    (sMeth 0 f_TreeGame_make (eLoc 0) [(eLoc 4)]))
  (sSeq (sAssign 5 (eCall (f_negamax 10) [(eLoc 0), (eBin .sub (eLoc 2) (eLen (eLoc 1))), (eLen (eLoc 1)), (eLoc 3)]))
  (sSeq (sFor 6 (iSeq (eLoc 1))
    (sMeth 0 f_TreeGame_undo (eLoc 0) []))
  (sSeq (sIf (tCmp .eq (eBin .mod (eLen (eLoc 1)) (eInt 2)) (eInt 1))
    (sRet (eNeg (eLoc 5)))
    sPass)
  (sRet (eLoc 5))))))
noncomputable def f_line_value : FM := mkF 4 7 b_line_value
noncomputable def b_count_nodes (rec : FM) : SM :=
  (sSeq (sIf (tAnd (tCmp .gt (eLoc 2) (eInt 0)) (tVal (eMeth 0 f_TreeGame_is_draw (eLoc 0) [])))
    (sRet (eInt 1))
    sPass)
  (sSeq (sIf (tOr (tCmp .gt (eLoc 1) (eInt 0)) (tVal (eMeth 0 f_TreeGame_in_check (eLoc 0) [])))
    (sAssign 4 (eMeth 0 f_TreeGame_moves (eLoc 0) []))
    (sAssign 4 (eMeth 0 f_TreeGame_noisy (eLoc 0) [])))
  (sSeq (sIf (tCmp .le (eLoc 1) (eInt 0))
    (sSeq (sIf (tCmp .le (eLoc 3) (eInt 0))
      (sRet (eInt 1))
      sPass)
    (sAug 3 .sub (eInt 1)))
    sPass)
  (sSeq (sAssign 5 (eInt 1))
  (sSeq (sFor 6 (iSeq (eLoc 4))
    (sSeq (sMeth 0 f_TreeGame_make (eLoc 0) [(eLoc 6)])
    (sSeq (sAug 5 .add (eCall rec [(eLoc 0), (eBin .sub (eLoc 1) (eInt 1)), (eBin .add (eLoc 2) (eInt 1)), (eLoc 3)]))
    (sMeth 0 f_TreeGame_undo (eLoc 0) []))))
  (sRet (eLoc 5)))))))
noncomputable def f_count_nodes : Nat → FM
  | 0 => fun _ _ => none
  | n + 1 => mkF 4 7 (b_count_nodes (f_count_nodes n))
noncomputable def b_check_tree : SM :=
  (sSeq (sAssign 6 (eLen (eLoc 0)))
  (sSeq (sIf (tCmp .eq (eLoc 6) (eInt 0))
    (sRaise 2)
    sPass)
  (sSeq (sFor 7 (iSeq (eTup [(eLoc 1), (eLoc 2), (eLoc 3), (eLoc 4), (eLoc 5)]))
    (sIf (tCmp .ne (eLen (eLoc 7)) (eLoc 6))
      (sRaise 2)
      sPass))
  (sFor 8 (iRange1 (eLoc 6))
    (sSeq (sIf (tOr (tCmp .ne (eLen (eSub (eLoc 4) (eLoc 8))) (eLen (eSub (eLoc 0) (eLoc 8)))) (tCmp .ne (eLen (eSub (eLoc 5) (eLoc 8))) (eLen (eSub (eLoc 0) (eLoc 8)))))
      (sRaise 2)
      sPass)
    (sFor 9 (iSeq (eSub (eLoc 0) (eLoc 8)))
      (sIf (tOr (tCmp .le (eLoc 9) (eLoc 8)) (tCmp .ge (eLoc 9) (eLoc 6)))
        (sRaise 2)
        sPass)))))))
noncomputable def f_check_tree : FM := mkF 6 10 b_check_tree
noncomputable def b_reached_nodes : SM :=
  (sSeq (sAssign 1 (eBin .mul (eList [(eBool false)]) (eLen (eLoc 0))))
  (sSeq (sSetItem (eLoc 1) (eInt 0) (eBool true))
  (sSeq (sFor 2 (iRange1 (eLen (eLoc 0)))
    (sIf (tVal (eSub (eLoc 1) (eLoc 2)))
      (sFor 3 (iSeq (eSub (eLoc 0) (eLoc 2)))
        (sSetItem (eLoc 1) (eLoc 3) (eBool true)))
      sPass))
  (sRet (eComp 4 (iRange1 (eLen (eLoc 0))) (some (tVal (eSub (eLoc 1) (eLoc 4)))) (eLoc 4))))))
noncomputable def f_reached_nodes : FM := mkF 1 5 b_reached_nodes
noncomputable def b_longest_way : SM :=
  (sSeq (sAssign 1 (eBin .mul (eList [(eInt 0)]) (eLen (eLoc 0))))
  (sSeq (sFor 2 (iRangeDn (eBin .sub (eLen (eLoc 0)) (eInt 1)) (eNeg (eInt 1)))
    (sFor 3 (iSeq (eSub (eLoc 0) (eLoc 2)))
      (sIf (tCmp .gt (eBin .add (eSub (eLoc 1) (eLoc 3)) (eInt 1)) (eSub (eLoc 1) (eLoc 2)))
        (sSetItem (eLoc 1) (eLoc 2) (eBin .add (eSub (eLoc 1) (eLoc 3)) (eInt 1)))
        sPass)))
  (sRet (eSub (eLoc 1) (eInt 0)))))
noncomputable def f_longest_way : FM := mkF 1 4 b_longest_way
noncomputable def b_pack_entry : SM :=
  (sSeq (sIf (tCmp .lt (eLoc 0) (eInt 0))
    (sRaise 2)
    sPass)
  (sSeq (sIf (tOr (tCmp .lt (eLoc 1) (eInt 0)) (tCmp .gt (eLoc 1) (eInt 65535)))
    (sRaise 2)
    sPass)
  (sSeq (sIf (tOr (tCmp .lt (eLoc 2) (eNeg (eInt 32767))) (tCmp .gt (eLoc 2) (eInt 32767)))
    (sRaise 2)
    sPass)
  (sSeq (sIf (tOr (tCmp .lt (eLoc 3) (eInt (-8))) (tCmp .gt (eLoc 3) (eInt 247)))
    (sRaise 2)
    sPass)
  (sSeq (sIf (tOr (tCmp .lt (eLoc 4) (eInt 0)) (tCmp .gt (eLoc 4) (eInt 3)))
    (sRaise 2)
    sPass)
  (sSeq (sIf (tOr (tCmp .lt (eLoc 5) (eInt 0)) (tCmp .ge (eLoc 5) (eInt 64)))
    (sRaise 2)
    sPass)
  (sSeq (sAssign 6 (eBin .bor (eBin .bor (eLoc 1) (eBin .shl (eBin .add (eBin .add (eLoc 2) (eInt 32767)) (eInt 1)) (eInt 16))) (eBin .shl (eBin .sub (eLoc 3) (eInt (-8))) (eInt 32))))
  (sRet (eBin .bor (eBin .bor (eBin .bor (eLoc 6) (eBin .shl (eLoc 4) (eInt 40))) (eBin .shl (eLoc 5) (eInt 42))) (eBin .shl (eLoc 0) (eInt 48)))))))))))
noncomputable def f_pack_entry : FM := mkF 6 7 b_pack_entry
noncomputable def b_unpack_entry : SM :=
  (sSeq (sAssign 1 (eBin .band (eLoc 0) (eInt 65535)))
  (sSeq (sAssign 2 (eBin .sub (eBin .sub (eBin .band (eBin .shr (eLoc 0) (eInt 16)) (eInt 65535)) (eInt 32767)) (eInt 1)))
  (sSeq (sAssign 3 (eBin .add (eBin .band (eBin .shr (eLoc 0) (eInt 32)) (eInt 255)) (eInt (-8))))
  (sRet (eTup [(eBin .shr (eLoc 0) (eInt 48)), (eLoc 1), (eLoc 2), (eLoc 3), (eBin .band (eBin .shr (eLoc 0) (eInt 40)) (eInt 3)), (eBin .band (eBin .shr (eLoc 0) (eInt 42)) (eInt 63))])))))
noncomputable def f_unpack_entry : FM := mkF 1 4 b_unpack_entry
noncomputable def b_find_slot : SM :=
  (sSeq (sFor 4 (iRange2 (eLoc 1) (eBin .add (eLoc 1) (eLoc 2)))
    (sIf (tAnd (tCmp .ne (eSub (eLoc 0) (eLoc 4)) (eInt 0)) (tCmp .eq (eBin .shr (eSub (eLoc 0) (eLoc 4)) (eInt 48)) (eLoc 3)))
      (sRet (eLoc 4))
      sPass))
  (sRet (eNeg (eInt 1))))
noncomputable def f_find_slot : FM := mkF 4 5 b_find_slot
noncomputable def b_worth : SM :=
  (sRet (eBin .sub (eSub (eCall f_unpack_entry [(eLoc 0)]) (eInt 3)) (eBin .mul (eInt 8) (eBin .mod (eBin .sub (eLoc 1) (eBin .band (eBin .shr (eLoc 0) (eInt 42)) (eInt 63))) (eInt 64)))))
noncomputable def f_worth : FM := mkF 2 2 b_worth
noncomputable def b_victim_slot : SM :=
  (sSeq (sAssign 4 (eLoc 1))
  (sSeq (sFor 5 (iRange2 (eLoc 1) (eBin .add (eLoc 1) (eLoc 2)))
    (sSeq (sIf (tCmp .eq (eSub (eLoc 0) (eLoc 5)) (eInt 0))
      (sRet (eLoc 5))
      sPass)
    (sIf (tCmp .lt (eCall f_worth [(eSub (eLoc 0) (eLoc 5)), (eLoc 3)]) (eCall f_worth [(eSub (eLoc 0) (eLoc 4)), (eLoc 3)]))
      (sAssign 4 (eLoc 5))
      sPass)))
  (sRet (eLoc 4))))
noncomputable def f_victim_slot : FM := mkF 4 6 b_victim_slot
noncomputable def b_pushes_out : SM :=
  (sSeq (sIf (tOr (tCmp .eq (eLoc 2) (eInt 3)) (tCmp .ne (eBin .band (eBin .shr (eLoc 0) (eInt 42)) (eInt 63)) (eLoc 3)))
    (sRet (eBool true))
    sPass)
  (sRet (eCmp .gt (eLoc 1) (eBin .sub (eSub (eCall f_unpack_entry [(eLoc 0)]) (eInt 3)) (eInt 4)))))
noncomputable def f_pushes_out : FM := mkF 4 4 b_pushes_out
noncomputable def b_with_move : SM :=
  (sRet (eBin .add (eBin .sub (eLoc 0) (eBin .band (eLoc 0) (eInt 65535))) (eLoc 1)))
noncomputable def f_with_move : FM := mkF 2 2 b_with_move
noncomputable def b_TransTable_probe : SM :=
  (sSeq (sAssign 2 (eCall f_find_slot [(eAttr 1 3 (eLoc 0)), (eBin .mul (eBin .mod (eLoc 1) (eAttr 1 0 (eLoc 0))) (eAttr 1 1 (eLoc 0))), (eAttr 1 1 (eLoc 0)), (eLoc 1)]))
  (sSeq (sIf (tCmp .lt (eLoc 2) (eInt 0))
    (sRet eNone)
    sPass)
  (sSeq (sAssign 3 (eCall f_unpack_entry [(eSub (eAttr 1 3 (eLoc 0)) (eLoc 2))]))
  (sRet (eTup [(eSub (eLoc 3) (eInt 1)), (eSub (eLoc 3) (eInt 2)), (eSub (eLoc 3) (eInt 3)), (eSub (eLoc 3) (eInt 4))])))))
noncomputable def f_TransTable_probe : FM := mkF 2 4 b_TransTable_probe
noncomputable def b_TransTable_save : SM :=
  (sSeq (sAssign 6 (eCall f_pack_entry [(eLoc 1), (eLoc 2), (eLoc 3), (eLoc 4), (eLoc 5), (eAttr 1 2 (eLoc 0))]))
  (sSeq (sAssign 7 (eBin .mul (eBin .mod (eLoc 1) (eAttr 1 0 (eLoc 0))) (eAttr 1 1 (eLoc 0))))
  (sSeq (sAssign 8 (eCall f_find_slot [(eAttr 1 3 (eLoc 0)), (eLoc 7), (eAttr 1 1 (eLoc 0)), (eLoc 1)]))
  (sSeq (sIf (tCmp .lt (eLoc 8) (eInt 0))
    (sSeq (sAssign 8 (eCall f_victim_slot [(eAttr 1 3 (eLoc 0)), (eLoc 7), (eAttr 1 1 (eLoc 0)), (eAttr 1 2 (eLoc 0))]))
    (sSeq (sSetItem (eAttr 1 3 (eLoc 0)) (eLoc 8) (eLoc 6))
    sRetN))
    sPass)
  (sSeq (sAssign 9 (eSub (eAttr 1 3 (eLoc 0)) (eLoc 8)))
  (sSeq (sIf (tCmp .eq (eLoc 2) (eInt 0))
    (sAssign 6 (eCall f_with_move [(eLoc 6), (eBin .band (eLoc 9) (eInt 65535))]))
    sPass)
  (sIf (tVal (eCall f_pushes_out [(eLoc 9), (eLoc 4), (eLoc 5), (eAttr 1 2 (eLoc 0))]))
    (sSetItem (eAttr 1 3 (eLoc 0)) (eLoc 8) (eLoc 6))
    (sSetItem (eAttr 1 3 (eLoc 0)) (eLoc 8) (eCall f_with_move [(eLoc 9), (eBin .band (eLoc 6) (eInt 65535))])))))))))
noncomputable def f_TransTable_save : FM := mkF 6 10 b_TransTable_save
noncomputable def b_table_line : SM :=
  (sSeq (sAssign 3 (eList []))
  (sSeq (sWhile (tCmp .lt (eLen (eLoc 3)) (eLoc 2))
    (sSeq (sAssign 4 (eMeth 1 f_TransTable_probe (eLoc 0) [(eMeth 0 f_TreeGame_key (eLoc 1) [])]))
    (sSeq (sIf (tOr (tCmp .isn (eLoc 4) eNone) (tCmp .notin (eSub (eLoc 4) (eInt 0)) (eMeth 0 f_TreeGame_moves (eLoc 1) [])))
      sBrk
      sPass)
    (sSeq (sMeth 0 f_TreeGame_make (eLoc 1) [(eSub (eLoc 4) (eInt 0))])
    (sExpr (eAppend (eLoc 3) (eSub (eLoc 4) (eInt 0))))))))
  (sSeq (sFor 5 (iSeq (eLoc 3))
    (sMeth 0 f_TreeGame_undo (eLoc 1) []))
  (sRet (eLoc 3)))))
noncomputable def f_table_line : FM := mkF 3 6 b_table_line
noncomputable def b_law_START : SM :=
  (sRet (eList [(eInt 9210), (eInt 16), (eInt 10), (eInt 110102055), (eInt 220212030), (eInt 110202762), (eInt 30102071), (eInt 210212044), (eInt 110011038), (eInt 100001063), (eInt 720)]))
noncomputable def f_law_START : FM := mkF 0 0 b_law_START
noncomputable def b_law_at : SM :=
  (sRet (eIf (tCmp .lt (eLoc 1) (eLen (eLoc 0))) (eSub (eLoc 0) (eLoc 1)) (eSub (eCall f_law_START []) (eLoc 1))))
noncomputable def f_law_at : FM := mkF 2 2 b_law_at
noncomputable def b_law_digit : SM :=
  (sRet (eBin .mod (eBin .fdiv (eLoc 0) (eBin .pow (eInt 10) (eLoc 1))) (eInt 10)))
noncomputable def f_law_digit : FM := mkF 2 2 b_law_digit
noncomputable def b_law_tree : SM :=
  (sSeq (sAssign 1 (eMin2 (eMax2 (eInt 8) (eBin .sub (eLen (eLoc 0)) (eInt 3))) (eInt 12)))
  (sSeq (sUnpack [2, 3, 4, 5, 6] (eTup [(eList []), (eList []), (eList []), (eList []), (eList [])]))
  (sSeq (sFor 7 (iRange1 (eLoc 1))
    (sSeq (sAssign 8 (eCall f_law_at [(eLoc 0), (eBin .add (eInt 3) (eLoc 7))]))
    (sSeq (sAssign 9 (eBin .sub (eBin .sub (eLoc 1) (eInt 1)) (eLoc 7)))
    (sSeq (sAssign 10 (eIf (tCmp .gt (eLoc 9) (eInt 0)) (eBin .mod (eCall f_law_digit [(eLoc 8), (eInt 3)]) (eInt 4)) (eInt 0)))
    (sSeq (sExpr (eAppend (eLoc 2) (eComp 12 (iRange1 (eLoc 10)) none (eBin .add (eBin .add (eLoc 7) (eInt 1)) (eBin .mod (eCall f_law_digit [(eLoc 8), (eBin .add (eInt 4) (eLoc 12))]) (eLoc 9))))))
    (sSeq (sExpr (eAppend (eLoc 6) (eComp 11 (iRange1 (eLoc 10)) none (eCmp .eq (eBin .mod (eBin .shr (eCall f_law_digit [(eLoc 8), (eInt 7)]) (eLoc 11)) (eInt 2)) (eInt 1)))))
    (sSeq (sExpr (eAppend (eLoc 3) (eBin .sub (eBin .mod (eLoc 8) (eInt 100)) (eInt 50))))
    (sSeq (sExpr (eAppend (eLoc 4) (eCmp .ge (eCall f_law_digit [(eLoc 8), (eInt 2)]) (eInt 7))))
    (sExpr (eAppend (eLoc 5) (eCmp .inn (eCall f_law_digit [(eLoc 8), (eInt 2)]) (eTup [(eInt 6), (eInt 9)]))))))))))))
  (sRet (eTup [(eLoc 2), (eLoc 3), (eLoc 4), (eLoc 5), (eLoc 6)])))))
noncomputable def f_law_tree : FM := mkF 1 13 b_law_tree
noncomputable def b_law_up : SM :=
  (sSeq (sIf (tCmp .gt (eLoc 0) (eInt 31000))
    (sRet (eBin .sub (eInt 1) (eLoc 0)))
    sPass)
  (sSeq (sIf (tCmp .lt (eLoc 0) (eNeg (eInt 31000)))
    (sRet (eBin .sub (eNeg (eInt 1)) (eLoc 0)))
    sPass)
  (sRet (eNeg (eLoc 0)))))
noncomputable def f_law_up : FM := mkF 1 1 b_law_up
noncomputable def b_law_node : SM :=
  (sSeq (sUnpack [4, 5, 6, 7, 8] (eLoc 0))
  (sSeq (sIf (tAnd (tCmp .gt (eLoc 1) (eInt 0)) (tVal (eSub (eLoc 7) (eLoc 1))))
    (sRet (eInt 0))
    sPass)
  (sSeq (sAssign 9 (eSub (eLoc 4) (eLoc 1)))
  (sSeq (sIf (tAnd (tOr (tVal (eLoc 3)) (tVal (eSub (eLoc 6) (eLoc 1)))) (tNot (tVal (eLoc 9))))
    (sRet (eIf (tVal (eSub (eLoc 6) (eLoc 1))) (eNeg (eInt 32000)) (eInt 0)))
    sPass)
  (sSeq (sIf (tCmp .isn (eLoc 2) eNone)
    (sRet (eSub (eLoc 5) (eLoc 1)))
    sPass)
  (sSeq (sIf (tOr (tVal (eLoc 3)) (tVal (eSub (eLoc 6) (eLoc 1))))
    (sRet (eMax1 (eComp 11 (iSeq (eLoc 9)) none (eCall f_law_up [(eSub (eLoc 2) (eLoc 11))]))))
    sPass)
  (sRet (eMax1 (eBin .add (eList [(eSub (eLoc 5) (eLoc 1))]) (eComp 10 (iRange1 (eLen (eLoc 9))) (some (tVal (eSub (eSub (eLoc 8) (eLoc 1)) (eLoc 10)))) (eCall f_law_up [(eSub (eLoc 2) (eSub (eLoc 9) (eLoc 10)))])))))))))))
noncomputable def f_law_node : FM := mkF 4 12 b_law_node
noncomputable def b_law_levels : SM :=
  (sSeq (sAssign 3 (eList []))
  (sSeq (sAssign 4 eNone)
  (sSeq (sFor 5 (iRange1 (eBin .add (eBin .add (eLoc 2) (eLoc 1)) (eInt 1)))
    (sSeq (sAssign 4 (eComp 6 (iRange1 (eLen (eSub (eLoc 0) (eInt 0)))) none (eCall f_law_node [(eLoc 0), (eLoc 6), (eLoc 4), (eCmp .gt (eLoc 5) (eLoc 2))])))
    (sExpr (eAppend (eLoc 3) (eLoc 4)))))
  (sRet (eLoc 3)))))
noncomputable def f_law_levels : FM := mkF 3 7 b_law_levels
noncomputable def b_law_count : SM :=
  (sSeq (sUnpack [3, 4, 5, 6, 7] (eLoc 0))
  (sSeq (sAssign 8 (eBin .mul (eList [(eInt 0)]) (eLen (eLoc 3))))
  (sSeq (sSetItem (eLoc 8) (eInt 0) (eInt 1))
  (sSeq (sAssign 9 (eInt 0))
  (sSeq (sFor 10 (iRange1 (eBin .add (eBin .add (eLoc 1) (eLoc 2)) (eInt 1)))
    (sSeq (sAug 9 .add (eSum (eLoc 8)))
    (sSeq (sAssign 11 (eBin .mul (eList [(eInt 0)]) (eLen (eLoc 3))))
    (sSeq (sFor 12 (iRange1 (eLen (eLoc 3)))
      (sSeq (sIf (tAnd (tCmp .gt (eLoc 10) (eInt 0)) (tVal (eSub (eLoc 6) (eLoc 12))))
        sCont
        sPass)
      (sFor 13 (iRange1 (eLen (eSub (eLoc 3) (eLoc 12))))
        (sIf (tOr (tCmp .lt (eLoc 10) (eLoc 1)) (tOr (tVal (eSub (eLoc 5) (eLoc 12))) (tVal (eSub (eSub (eLoc 7) (eLoc 12)) (eLoc 13)))))
          (sAugSub (eLoc 11) (eSub (eSub (eLoc 3) (eLoc 12)) (eLoc 13)) (eSub (eLoc 8) (eLoc 12)))
          sPass))))
    (sAssign 8 (eLoc 11))))))
  (sRet (eLoc 9)))))))
noncomputable def f_law_count : FM := mkF 3 14 b_law_count
noncomputable def b_law_walk : SM :=
  (sSeq (sAssign 3 (eInt 0))
  (sSeq (sAssign 4 (eList []))
  (sSeq (sWhile (tAnd (tCmp .lt (eLen (eLoc 4)) (eLoc 2)) (tVal (eSub (eSub (eLoc 0) (eInt 0)) (eLoc 3))))
    (sSeq (sAssign 5 (eBin .mod (eCall f_law_digit [(eLoc 1), (eLen (eLoc 4))]) (eLen (eSub (eSub (eLoc 0) (eInt 0)) (eLoc 3)))))
    (sSeq (sExpr (eAppend (eLoc 4) (eBin .add (eLoc 5) (eInt 1))))
    (sAssign 3 (eSub (eSub (eSub (eLoc 0) (eInt 0)) (eLoc 3)) (eLoc 5))))))
  (sRet (eTup [(eLoc 4), (eLoc 3)])))))
noncomputable def f_law_walk : FM := mkF 3 6 b_law_walk
noncomputable def b_law_refuses : SM :=
  (sSeq (sAssign 2 (eMeth 0 f_TreeGame_key (eLoc 0) []))
  (sSeq (sTry (sIf (tCmp .isn (eLoc 1) eNone)
      (sMeth 0 f_TreeGame_undo (eLoc 0) [])
      (sMeth 0 f_TreeGame_make (eLoc 0) [(eLoc 1)])) 1
    (sRet (eCmp .eq (eMeth 0 f_TreeGame_key (eLoc 0) []) (eLoc 2))))
  (sRet (eBool false))))
noncomputable def f_law_refuses : FM := mkF 2 3 b_law_refuses
noncomputable def b_law_tells : SM :=
  (sSeq (sUnpack [5, 6, 7, 8, 9] (eLoc 1))
  (sSeq (sAssign 10 (eLen (eSub (eLoc 5) (eLoc 3))))
  (sSeq (sIf (tOr (tCmp .ne (eMeth 0 f_TreeGame_moves (eLoc 0) []) (eListRange (eInt 1) (eBin .add (eLoc 10) (eInt 1)))) (tNot (tVal (eCall f_law_refuses [(eLoc 0), (eInt 0)]))))
    (sRet (eBool false))
    sPass)
  (sSeq (sIf (tOr (tCmp .ne (eMeth 0 f_TreeGame_noisy (eLoc 0) []) (eComp 15 (iRange1 (eLoc 10)) (some (tVal (eSub (eSub (eLoc 9) (eLoc 3)) (eLoc 15)))) (eBin .add (eLoc 15) (eInt 1)))) (tNot (tVal (eCall f_law_refuses [(eLoc 0), (eBin .add (eLoc 10) (eInt 1))]))))
    (sRet (eBool false))
    sPass)
  (sSeq (sAssign 11 (eComp 14 (iRange1 (eLoc 10)) none (eTup [(eMeth 0 f_TreeGame_is_noisy (eLoc 0) [(eBin .add (eLoc 14) (eInt 1))]), (eMeth 0 f_TreeGame_gain (eLoc 0) [(eBin .add (eLoc 14) (eInt 1))])])))
  (sSeq (sIf (tCmp .ne (eLoc 11) (eComp 13 (iRange1 (eLoc 10)) none (eTup [(eSub (eSub (eLoc 9) (eLoc 3)) (eLoc 13)), (eSub (eSub (eLoc 2) (eLoc 3)) (eLoc 13))])))
    (sRet (eBool false))
    sPass)
  (sSeq (sAssign 12 (eTup [(eMeth 0 f_TreeGame_value (eLoc 0) []), (eMeth 0 f_TreeGame_key (eLoc 0) []), (eMeth 0 f_TreeGame_in_check (eLoc 0) []), (eMeth 0 f_TreeGame_is_draw (eLoc 0) []), (eMeth 0 f_TreeGame_side (eLoc 0) [])]))
  (sRet (eCmp .eq (eLoc 12) (eTup [(eSub (eLoc 6) (eLoc 3)), (eBin .add (eLoc 3) (eInt 1)), (eSub (eLoc 7) (eLoc 3)), (eSub (eLoc 8) (eLoc 3)), (eBin .mod (eLoc 4) (eInt 2))]))))))))))
noncomputable def f_law_tells : FM := mkF 5 16 b_law_tells
noncomputable def b_law_played : SM :=
  (sSeq (sAssign 4 (eInt 0))
  (sSeq (sFor 5 (iRange1 (eBin .add (eLen (eLoc 3)) (eInt 1)))
    (sSeq (sIf (tNot (tVal (eCall f_law_tells [(eLoc 0), (eLoc 1), (eLoc 2), (eLoc 4), (eLoc 5)])))
      (sRet (eBool false))
      sPass)
    (sIf (tCmp .lt (eLoc 5) (eLen (eLoc 3)))
      (sSeq (sMeth 0 f_TreeGame_make (eLoc 0) [(eSub (eLoc 3) (eLoc 5))])
      (sAssign 4 (eSub (eSub (eSub (eLoc 1) (eInt 0)) (eLoc 4)) (eBin .sub (eSub (eLoc 3) (eLoc 5)) (eInt 1)))))
      sPass)))
  (sSeq (sFor 6 (iSeq (eLoc 3))
    (sMeth 0 f_TreeGame_undo (eLoc 0) []))
  (sRet (eCall f_law_refuses [(eLoc 0), eNone])))))
noncomputable def f_law_played : FM := mkF 4 7 b_law_played
noncomputable def b_law_kept : SM :=
  (sSeq (sAssign 4 (eNew 1 f_TransTable___init__ [(eInt 13), (eInt 1)]))
  (sSeq (sAssign 5 eDict0)
  (sSeq (sFor 6 (iRange1 (eLen (eSub (eLoc 1) (eInt 0))))
    (sSeq (sAssign 7 (eCall f_law_at [(eLoc 0), (eBin .add (eInt 3) (eLoc 6))]))
    (sIf (tCmp .eq (eBin .mod (eCall f_law_digit [(eLoc 7), (eInt 9)]) (eInt 2)) (eInt 0))
      (sSeq (sMeth 1 f_TransTable_save (eLoc 4) [(eBin .add (eLoc 6) (eInt 1)), (eCall f_law_digit [(eLoc 7), (eInt 8)]), (eInt 0), (eInt 1), (eInt 3)])
      (sSetItem (eLoc 5) (eLoc 6) (eCall f_law_digit [(eLoc 7), (eInt 8)])))
      sPass)))
  (sSeq (sAssign 6 (eInt 0))
  (sSeq (sAssign 8 (eList []))
  (sSeq (sWhile (tAnd (tCmp .lt (eLen (eLoc 8)) (eLoc 3)) (tChain .le .le (eInt 1) (eGet (eLoc 5) (eLoc 6) (eInt 0)) (eLen (eSub (eSub (eLoc 1) (eInt 0)) (eLoc 6)))))
    (sSeq (sExpr (eAppend (eLoc 8) (eSub (eLoc 5) (eLoc 6))))
    (sAssign 6 (eSub (eSub (eSub (eLoc 1) (eInt 0)) (eLoc 6)) (eBin .sub (eSub (eLoc 5) (eLoc 6)) (eInt 1))))))
  (sRet (eCmp .eq (eCall f_table_line [(eLoc 4), (eLoc 2), (eLoc 3)]) (eLoc 8)))))))))
noncomputable def f_law_kept : FM := mkF 4 9 b_law_kept
noncomputable def b_law_rounds : SM :=
  (sSeq (sAssign 1 (eList [(eInt 0)]))
  (sSeq (sAssign 2 (eList [(eInt 0)]))
  (sSeq (sAssign 3 (eNeg (eInt 1)))
  (sSeq (sWhile (tVal (eLoc 2))
    (sSeq (sAug 3 .add (eInt 1))
    (sSeq (sAssign 4 (eList []))
    (sSeq (sFor 5 (iSeq (eLoc 2))
      (sFor 6 (iSeq (eSub (eLoc 0) (eLoc 5)))
        (sIf (tCmp .notin (eLoc 6) (eLoc 4))
          (sExpr (eAppend (eLoc 4) (eLoc 6)))
          sPass)))
    (sSeq (sAug 1 .add (eComp 7 (iSeq (eLoc 4)) (some (tCmp .notin (eLoc 7) (eLoc 1))) (eLoc 7)))
    (sAssign 2 (eLoc 4)))))))
  (sRet (eTup [(eSorted (eLoc 1)), (eLoc 3)]))))))
noncomputable def f_law_rounds : FM := mkF 1 8 b_law_rounds
noncomputable def b_law_refused : SM :=
  (sSeq (sTry (sCall f_check_tree [(eSub (eLoc 0) (eInt 0)), (eSub (eLoc 0) (eInt 1)), (eSub (eLoc 0) (eInt 2)), (eSub (eLoc 0) (eInt 3)), (eSub (eLoc 0) (eInt 4)), (eSub (eLoc 0) (eInt 5))]) 2
    (sRet (eBool true)))
  (sRet (eBool false)))
noncomputable def f_law_refused : FM := mkF 1 1 b_law_refused
noncomputable def b_law_bent : SM :=
  (sSeq (sAssign 0 (eList [(eSub (eLoc 0) (eInt 0)), (eSub (eLoc 0) (eInt 1)), (eSub (eLoc 0) (eInt 2)), (eSub (eLoc 0) (eInt 3)), (eComp 8 (iSeq (eSub (eLoc 0) (eInt 4))) none (eCopy (eLoc 8))), (eComp 9 (iSeq (eSub (eLoc 0) (eInt 5))) none (eCopy (eLoc 9)))]))
  (sSeq (sAssign 2 (eLen (eSub (eLoc 0) (eInt 0))))
  (sSeq (sAssign 3 (eBin .mod (eBin .fdiv (eLoc 1) (eInt 8)) (eLoc 2)))
  (sSeq (sAssign 4 (eBin .fdiv (eLoc 1) (eInt 800)))
  (sSeq (sAssign 5 (eSub (eList [(eLoc 3), (eBin .add (eLoc 2) (eBin .mod (eLoc 4) (eInt 5))), eNone, eNone, eNone, eNone, eNone, (eBin .sub (eNeg (eInt 1)) (eBin .mod (eLoc 4) (eInt 5)))]) (eBin .mod (eLoc 1) (eInt 8))))
  (sSeq (sIf (tCmp .eq (eBin .mod (eLoc 1) (eInt 8)) (eInt 2))
    (sSetItem (eLoc 0) (eBin .add (eInt 1) (eBin .mod (eLoc 4) (eInt 5))) (eButLast (eSub (eLoc 0) (eBin .add (eInt 1) (eBin .mod (eLoc 4) (eInt 5))))))
    (sIf (tOr (tCmp .eq (eBin .mod (eLoc 1) (eInt 8)) (eInt 3)) (tCmp .eq (eBin .mod (eLoc 1) (eInt 8)) (eInt 4)))
      (sExpr (eAppend (eSub (eLoc 0) (eBin .add (eInt 1) (eBin .mod (eLoc 1) (eInt 8)))) (eBin .add (ePop (eSub (eLoc 0) (eBin .add (eInt 1) (eBin .mod (eLoc 1) (eInt 8))))) (eList [(eInt 0)]))))
      (sIf (tCmp .eq (eBin .mod (eLoc 1) (eInt 8)) (eInt 5))
        (sAssign 0 (eList [(eList []), (eList []), (eList []), (eList []), (eList []), (eList [])]))
        (sIf (tAnd (tCmp .eq (eBin .mod (eLoc 1) (eInt 8)) (eInt 6)) (tCmp .lt (eLoc 3) (eBin .sub (eLoc 2) (eInt 1))))
          (sAssign 5 (eBin .add (eBin .add (eLoc 3) (eInt 1)) (eBin .mod (eLoc 4) (eBin .sub (eBin .sub (eLoc 2) (eInt 1)) (eLoc 3)))))
          sPass))))
  (sSeq (sIf (tCmp .isnot (eLoc 5) eNone)
    (sSeq (sSetItem (eLoc 0) (eInt 0) (eComp 7 (iSeq (eSub (eLoc 0) (eInt 0))) none (eCopy (eLoc 7))))
    (sFor 6 (iSeq (eTup [(eSub (eSub (eLoc 0) (eInt 0)) (eLoc 3)), (eSub (eSub (eLoc 0) (eInt 4)) (eLoc 3)), (eSub (eSub (eLoc 0) (eInt 5)) (eLoc 3))]))
      (sExpr (eAppend (eLoc 6) (eLoc 5)))))
    sPass)
  (sRet (eTup [(eLoc 0), (eCmp .ne (eBin .mod (eLoc 1) (eInt 8)) (eInt 6))])))))))))
noncomputable def f_law_bent : FM := mkF 2 10 b_law_bent
noncomputable def b_law : SM :=
  (sSeq (sAssign 1 (eCall f_law_tree [(eLoc 0)]))
  (sSeq (sAssign 2 (eCall f_law_at [(eLoc 0), (eInt 0)]))
  (sSeq (sAssign 3 (eBin .sub (eInt 3) (eBin .mod (eCall f_law_digit [(eLoc 2), (eInt 0)]) (eInt 4))))
  (sSeq (sAssign 4 (eMin2 (eBin .sub (eInt 2) (eBin .mod (eCall f_law_digit [(eLoc 2), (eInt 1)]) (eInt 3))) (eBin .sub (eInt 4) (eLoc 3))))
  (sSeq (sAssign 5 (eList []))
  (sSeq (sFor 6 (iRange1 (eLen (eSub (eLoc 1) (eInt 0))))
    (sExpr (eAppend (eLoc 5) (eComp 16 (iRange1 (eLen (eSub (eSub (eLoc 1) (eInt 0)) (eLoc 6)))) none (eBin .sub (eCall f_law_digit [(eCall f_law_at [(eLoc 0), (eBin .add (eInt 3) (eLoc 6))]), (eBin .add (eInt 10) (eLoc 16))]) (eInt 5))))))
  (sSeq (sAssign 7 (eNew 0 f_TreeGame___init__ [(eSub (eLoc 1) (eInt 0)), (eSub (eLoc 1) (eInt 1)), (eSub (eLoc 1) (eInt 2)), (eSub (eLoc 1) (eInt 3)), (eSub (eLoc 1) (eInt 4)), (eLoc 5)]))
  (sSeq (sAssign 8 (eCall f_law_levels [(eLoc 1), (eLoc 3), (eLoc 4)]))
  (sSeq (sUnpack [9, 10] (eCall f_law_walk [(eLoc 1), (eCall f_law_at [(eLoc 0), (eInt 2)]), (eBin .mod (eCall f_law_digit [(eLoc 2), (eInt 2)]) (eBin .add (eLoc 3) (eInt 1)))]))
  (sSeq (sIf (tNot (tVal (eCall f_law_played [(eLoc 7), (eLoc 1), (eLoc 5), (eLoc 9)])))
    (sRet (eBool false))
    sPass)
  (sSeq (sAssign 11 (eSub (eSub (eLoc 8) (eBin .sub (eBin .sub (eLen (eLoc 8)) (eInt 1)) (eLen (eLoc 9)))) (eLoc 10)))
  (sSeq (sFor 12 (iSeq (eLoc 9))
    (sAssign 11 (eCall f_law_up [(eLoc 11)])))
  (sSeq (sIf (tCmp .ne (eCall f_line_value [(eLoc 7), (eLoc 9), (eLoc 3), (eLoc 4)]) (eLoc 11))
    (sRet (eBool false))
    sPass)
  (sSeq (sIf (tCmp .ne (eCall (f_count_nodes 10) [(eLoc 7), (eLoc 3), (eInt 0), (eLoc 4)]) (eCall f_law_count [(eLoc 1), (eLoc 3), (eLoc 4)]))
    (sRet (eBool false))
    sPass)
  (sSeq (sIf (tOr (tNot (tVal (eCall f_law_kept [(eLoc 0), (eLoc 1), (eLoc 7), (eCall f_law_digit [(eLoc 2), (eInt 3)])]))) (tOr (tCmp .ne (eMeth 0 f_TreeGame_key (eLoc 7) []) (eInt 1)) (tCmp .ne (eMeth 0 f_TreeGame_side (eLoc 7) []) (eInt 0))))
    (sRet (eBool false))
    sPass)
  (sSeq (sIf (tCmp .ne (eTup [(eCall f_reached_nodes [(eSub (eLoc 1) (eInt 0))]), (eCall f_longest_way [(eSub (eLoc 1) (eInt 0))])]) (eCall f_law_rounds [(eSub (eLoc 1) (eInt 0))]))
    (sRet (eBool false))
    sPass)
  (sSeq (sAssign 13 (eList [(eSub (eLoc 1) (eInt 0)), (eSub (eLoc 1) (eInt 1)), (eSub (eLoc 1) (eInt 2)), (eSub (eLoc 1) (eInt 3)), (eSub (eLoc 1) (eInt 4)), (eLoc 5)]))
  (sSeq (sUnpack [14, 15] (eCall f_law_bent [(eLoc 13), (eCall f_law_at [(eLoc 0), (eInt 1)])]))
  (sRet (eAnd (eNot (eCall f_law_refused [(eLoc 13)])) (eCmp .eq (eCall f_law_refused [(eLoc 14)]) (eLoc 15))))))))))))))))))))))
noncomputable def f_law : FM := mkF 1 17 b_law
end Mine
end
section
open PySem PySem.W PyProof.Rows
set_option Elab.async false
set_option linter.unusedVariables false
namespace Mine
inductive All2 {α β : Type} (R : α → β → Prop) : List α → List β → Prop where
  | nil : All2 R [] []
  | cons {a b as bs} : R a b → All2 R as bs → All2 R (a :: as) (b :: bs)
namespace All2
variable {α β : Type} {R S : α → β → Prop}
theorem length {as : List α} {bs : List β} (h : All2 R as bs) : as.length = bs.length := by
  induction h with
  | nil => rfl
  | cons _ _ ih => simp [ih]
theorem mono {as : List α} {bs : List β} (h : All2 R as bs) (f : ∀ a b, R a b → S a b) : All2 S as bs := by
  induction h with
  | nil => exact .nil
  | cons x _ ih => exact .cons (f _ _ x) ih
theorem append {as as' : List α} {bs bs' : List β} (h : All2 R as bs) (h' : All2 R as' bs') : All2 R (as ++ as') (bs ++ bs') := by
  induction h with
  | nil => exact h'
  | cons x _ ih => exact .cons x ih
theorem get {as : List α} {bs : List β} (h : All2 R as bs) : ∀ {n : Nat} {a : α}, as[n]? = some a → ∃ b, bs[n]? = some b ∧ R a b := by
  induction h with
  | nil => intro n a e; simp at e
  | cons x _ ih =>
    intro n a e
    cases n with
    | zero => simp at e; subst e; exact ⟨_, rfl, x⟩
    | succ n => simp at e; simpa using ih e
theorem set {as : List α} {bs : List β} (h : All2 R as bs) {a : α} {b : β} (r : R a b) : ∀ n, All2 R (as.set n a) (bs.set n b) := by
  induction h with
  | nil => intro n; exact .nil
  | cons x _ ih =>
    intro n
    cases n with
    | zero => exact .cons r (by assumption)
    | succ n => exact .cons x (ih n)
theorem dropLast {as : List α} {bs : List β} (h : All2 R as bs) : All2 R as.dropLast bs.dropLast := by
  induction h with
  | nil => exact .nil
  | @cons a b as bs x t ih =>
    cases t with
    | nil => exact .nil
    | cons y t => exact .cons x ih
theorem replicate {a : α} {b : β} (r : R a b) : ∀ n, All2 R (List.replicate n a) (List.replicate n b)
  | 0 => .nil
  | n + 1 => .cons r (replicate r n)
theorem flatten_replicate {as : List α} {bs : List β} (h : All2 R as bs) : ∀ n, All2 R (List.replicate n as).flatten (List.replicate n bs).flatten
  | 0 => .nil
  | n + 1 => by
    rw [List.replicate_succ, List.replicate_succ, List.flatten_cons, List.flatten_cons]
    exact h.append (flatten_replicate h n)
theorem getLast? {as : List α} {bs : List β} (h : All2 R as bs) {a : α} (e : as.getLast? = some a) : ∃ b, bs.getLast? = some b ∧ R a b := by
  rw [List.getLast?_eq_getElem?] at e
  refine x1_2 (h.get e) fun b hb r => ?_
  exact ⟨b, by rw [List.getLast?_eq_getElem?, ← h.length]; exact hb, r⟩
end All2
set_option genInjectivity false in
structure Gd where
  prog : Program
  w : World
  B : Heap
  K : Frag
  p : Program
  loose : List Str
  mean : ExcName → Option Value
  mg : Str → Option Value
  mb : Str → Option Value
  cls : Nat → Addr
  exc : Nat → Addr
  flds : Nat → List Str
  X : K.In B
  T : Top p loose mean mg mb B
  big : ∃ x o, sysModules ≤ x ∧ B.get? x = some o
variable {G : Gd}
inductive VR (B : Heap) (π : List Addr) : V → Value → Prop where
  | none : VR B π .none .none
  | bool (b : Bool) : VR B π (.bool b) (.bool b)
  | int (i : Int) (t : Tok) : VR B π (.int i) (.int i t)
  | ref {n : Nat} {a : Addr} : π[n]? = some a → VR B π (.ref n) (.ref a)
  | scr {is : List Int} {a : Addr} {vs : List Value} : B.IsList a vs.toArray → IntsAre vs is → is.length < lim → VR B π (.scr is) (.ref a)
theorem prefix_get {α : Type} {l l' : List α} (h : l <+: l') {n : Nat} {a : α} (e : l[n]? = some a) : l'[n]? = some a := by
  refine x1_1 h fun t o1 => ?_
  clear h
  subst o1
  rw [List.getElem?_append_left (List.getElem?_eq_some_iff.mp e).1]; exact e
theorem VR.mono {B : Heap} {π π' : List Addr} {v : V} {v' : Value} (h : VR B π v v') (p : π <+: π') : VR B π' v v' := by
  cases h with
  | none => exact .none
  | bool b => exact .bool b
  | int i t => exact .int i t
  | ref e => exact .ref (prefix_get p e)
  | scr a b c => exact .scr a b c
noncomputable abbrev VRs (B : Heap) (π : List Addr) := All2 (VR B π)
theorem VRs.mono {B : Heap} {π π' : List Addr} {vs : List V} {vs' : List Value} (h : VRs B π vs vs') (p : π <+: π') : VRs B π' vs vs' :=
  All2.mono h fun _ _ x => x.mono p
inductive Flds : List Str → List DictEntry → List Value → Prop where
  | nil : Flds [] [] []
  | cons {n : Str} {ns es vs} (h : Int) (t : Tok) (v : Value) : Flds ns es vs → Flds (n :: ns) (⟨h, .str n t, v⟩ :: es) (v :: vs)
inductive OptR (B : Heap) (π : List Addr) : Option V → Option Value → Prop where
  | none : OptR B π none none
  | some {v v'} : VR B π v v' → OptR B π (some v) (some v')
inductive OR (G : Gd) (π : List Addr) (h : Heap) (n : Nat) : O → Prop where
  | list {a : Addr} {vs : List V} {ws : List Value} : π[n]? = some a → h.PlainList a ws.toArray → VRs G.B π vs ws → OR G π h n (.list vs)
  | tup {a : Addr} {vs : List V} {ws : List Value} : π[n]? = some a → h.IsTuple a ws.toArray → VRs G.B π vs ws → OR G π h n (.tup vs)
  | aux : OR G π h n .aux
  | inst {a dx : Addr} {c : Nat} {fs : List V} {ox : Obj} {es : List DictEntry} {ws : List Value} {k m : Nat} : n = m + 1 → π[n]? = some a → π[m]? = some dx → h.get? a = some ox → ox.cls = .ref (G.cls c) → notCls ox = true → ox.dict = some dx →
      h.get? dx = some (dictOf es k) → Flds ((G.flds c).take fs.length) es ws → VRs G.B π fs ws → OR G π h n (.inst c fs)
  | dict {a : Addr} {es : List (Int × V)} {kvs : List (Int × Value)} : π[n]? = some a → h.DictOf (intKind G.prog G.w) a kvs → (a == sysModules) = false → kvs.length ≤ es.length → (∀ k, OptR G.B π (getD k es) (valueAt kvs k)) → OR G π h n (.dict es)
noncomputable def olen : O → Nat
  | .list vs => vs.length
  | .tup vs => vs.length
  | _ => 0
structure Rel (G : Gd) (π : List Addr) (H : Hp) (h : Heap) : Prop where
  stays : G.B.StaysIn h
  len : π.length = H.length
  nodup : π.Nodup
  new : ∀ a ∈ π, G.B.get? a = none
  here : ∀ a ∈ π, ∃ o, h.get? a = some o
  obj : ∀ n o, H[n]? = some o → OR G π h n o
  aux : ∀ m c fs, H[m + 1]? = some (.inst c fs) → H[m]? = some .aux
  size : ∀ (n : Nat) (o : O), H[n]? = some o → olen o ≤ szl
structure Keep (π : List Addr) (fr : List Addr) (h h' : Heap) : Prop where
  slots : ∀ b o, h.get? b = some o → b ∉ π → ∃ sl, h'.get? b = some { o with slots := sl }
  exact : ∀ b o, h.get? b = some o → b ∉ π → b ∉ fr → h'.get? b = some o
noncomputable def frs (A : Around) : List Addr := (A.frames.getD []).filterMap (·.frame)
structure Step (G : Gd) (fr : List Addr) (π : List Addr) (h : Heap) (π' : List Addr) (H' : Hp) (h' : Heap) : Prop where
  pre : π <+: π'
  rel : Rel G π' H' h'
  keep : Keep π fr h h'
  fresh : ∀ a ∈ π', a ∉ π → h.get? a = none
theorem OptR.mono {B : Heap} {π π' : List Addr} {v : Option V} {v' : Option Value} (h : OptR B π v v') (p : π <+: π') : OptR B π' v v' := by
  cases h with
  | none => exact .none
  | some x => exact .some (x.mono p)
theorem mem_of_get {α : Type} {l : List α} {n : Nat} {a : α} (e : l[n]? = some a) : a ∈ l := List.mem_of_getElem? e
theorem nodup_inj {α : Type} : ∀ {l : List α}, l.Nodup → ∀ {i j : Nat} {a : α}, l[i]? = some a → l[j]? = some a → i = j
  | [], _, _, _, _, e, _ => by simp at e
  | x :: l, h, i, j, a, e, e' => by
    refine x0_2 (List.nodup_cons.mp h) fun h1 h2 => ?_
    cases i with
    | zero =>
      cases j with
      | zero => rfl
      | succ j => simp at e e'; subst e; exact absurd (List.mem_of_getElem? e') h1
    | succ i =>
      cases j with
      | zero => simp at e e'; subst e'; exact absurd (List.mem_of_getElem? e) h1
      | succ j => simp at e e'; rw [nodup_inj h2 e e']
theorem OR.mono {π π' : List Addr} {h h' : Heap} {n : Nat} {o : O} (x : OR G π h n o) (p : π <+: π') (k : ∀ a ∈ π, ∀ o, h.get? a = some o → h'.get? a = some o) : OR G π' h' n o := by
  cases x with
  | list e l r => exact .list (prefix_get p e) (let ⟨m, q⟩ := l; ⟨m, k _ (mem_of_get e) _ q⟩) (r.mono p)
  | tup e l r => exact .tup (prefix_get p e) (let ⟨o, q, c, m, d⟩ := l; ⟨o, k _ (mem_of_get e) _ q, c, m, d⟩) (r.mono p)
  | aux => exact .aux
  | inst e0 e e' a1 a2 a3 a4 a5 f r => exact .inst e0 (prefix_get p e) (prefix_get p e') (k _ (mem_of_get e) _ a1) a2 a3 a4 (k _ (mem_of_get e') _ a5) f (r.mono p)
  | dict e m hs l r =>
    refine x1_2 (Heap.dictOf_iff.mp m) fun ob x1 x2 => ?_
    exact .dict (prefix_get p e) (Heap.dictOf_iff.mpr ⟨ob, k _ (mem_of_get e) _ x1, x2⟩) hs l fun i => (r i).mono p
namespace Step
variable {fr : List Addr} {π π' π'' : List Addr} {h h' h'' : Heap} {H H' H'' : Hp}
theorem ext (R : Rel G π H h) (k : ∀ b o, h.get? b = some o → h'.get? b = some o) : Step G fr π h π H h' where
  pre := List.prefix_refl _
  rel := ⟨fun b o e => k _ _ (R.stays b o e), R.len, R.nodup, R.new, fun a ha => let ⟨o, e⟩ := R.here a ha; ⟨o, k _ _ e⟩, fun n o e => (R.obj n o e).mono (List.prefix_refl _) fun a _ o e => k a o e, R.aux, R.size⟩
  keep := ⟨fun b o e _ => ⟨o.slots, k _ _ e⟩, fun b o e _ _ => k _ _ e⟩
  fresh := fun _ ha hn => absurd ha hn
theorem refl (R : Rel G π H h) : Step G fr π h π H h := ext R fun _ _ e => e
theorem trans (x : Step G fr π h π' H' h') (y : Step G fr π' h' π'' H'' h'') : Step G fr π h π'' H'' h'' where
  pre := x.pre.trans y.pre
  rel := y.rel
  keep := by
    have nf : ∀ b o, h.get? b = some o → b ∉ π → b ∉ π' := fun b o e hn hm => by
      have := x.fresh b hm hn
      rw [this] at e; cases e
    refine ⟨fun b o e hn => ?_, fun b o e hn hf => y.keep.exact b o (x.keep.exact b o e hn hf) (nf b o e hn) hf⟩
    refine x1_1 (x.keep.slots b o e hn) fun sl e1 => ?_
    refine x1_1 (y.keep.slots b _ e1 (nf b o e hn)) fun sl' e2 => ?_
    exact ⟨sl', e2⟩
  fresh := fun a ha hn => by
    by_cases hm : a ∈ π'
    · exact x.fresh a hm hn
    · have := y.fresh a ha hm
      cases q : h.get? a with
      | none => rfl
      | some o =>
        refine x1_1 (x.keep.slots a o q hn) fun sl e => ?_
        rw [e] at this; cases this
theorem push {o : O} {a : Addr} (R : Rel G π H h) (k : ∀ b o, h.get? b = some o → h'.get? b = some o) (ha : h.get? a = none) (hh : ∃ o, h'.get? a = some o)
    (ho : OR G (π ++ [a]) h' H.length o) (hz : olen o ≤ szl) (hi : ∀ c fs, o = .inst c fs → ∃ m, H.length = m + 1 ∧ H[m]? = some .aux) : Step G fr π h (π ++ [a]) (H ++ [o]) h' where
  pre := List.prefix_append _ _
  rel := by
    have hB : G.B.get? a = none := by
      cases q : G.B.get? a with
      | none => rfl
      | some o => have := R.stays a o q; rw [ha] at this; cases this
    refine ⟨fun b o e => k _ _ (R.stays b o e), by simp [R.len], ?_, ?_, ?_, ?_, ?_, ?_⟩
    · refine List.nodup_append.mpr ⟨R.nodup, by simp, fun x hx y hy e => ?_⟩
      rw [List.mem_singleton] at hy
      subst hy; subst e
      refine x1_1 (R.here x hx) fun o e => ?_
      rw [ha] at e; cases e
    · intro x hx
      rcases List.mem_append.mp hx with hx | hx
      · exact R.new x hx
      · rw [List.mem_singleton.mp hx]; exact hB
    · intro x hx
      rcases List.mem_append.mp hx with hx | hx
      · obtain ⟨o, e⟩ := R.here x hx; exact ⟨o, k _ _ e⟩
      · rw [List.mem_singleton.mp hx]; exact hh
    · intro n o' e
      by_cases hn : n < H.length
      · rw [List.getElem?_append_left hn] at e
        exact (R.obj n o' e).mono (List.prefix_append _ _) fun a _ o e => k a o e
      · rw [List.getElem?_append_right (Nat.not_lt.mp hn)] at e
        have hn' : n = H.length := by
          have := (List.getElem?_eq_some_iff.mp e).1
          simp at this; lia
        subst hn'
        simp at e; subst e; exact ho
    · intro m c fs e
      by_cases hn : m + 1 < H.length
      · rw [List.getElem?_append_left hn] at e
        rw [List.getElem?_append_left (by lia)]
        exact R.aux m c fs e
      · rw [List.getElem?_append_right (Nat.not_lt.mp hn)] at e
        have hn' : m + 1 = H.length := by
          have := (List.getElem?_eq_some_iff.mp e).1
          simp at this; lia
        rw [hn'] at e
        simp at e
        obtain ⟨m', h1, h2⟩ := hi c fs e
        have : m = m' := by lia
        subst this
        rw [List.getElem?_append_left (by lia)]; exact h2
    · intro n o' e
      by_cases hn : n < H.length
      · rw [List.getElem?_append_left hn] at e
        exact R.size n o' e
      · rw [List.getElem?_append_right (Nat.not_lt.mp hn)] at e
        have := List.mem_of_getElem? e
        rw [List.mem_singleton] at this
        subst this; exact hz
  keep := ⟨fun b o e _ => ⟨o.slots, k _ _ e⟩, fun b o e _ _ => k _ _ e⟩
  fresh := fun x hx hn => by
    rcases List.mem_append.mp hx with hx | hx
    · exact absurd hx hn
    · rw [List.mem_singleton.mp hx]; exact ha
theorem upd {n : Nat} {a : Addr} {o o' : O} (R : Rel G π H h) (hn : π[n]? = some a) (hs : Heap.SameBut a h h') (hh : ∃ o, h'.get? a = some o) (hold : H[n]? = some o) (hk : (∃ vs, o = .list vs) ∨ ∃ es, o = .dict es)
    (ho : OR G π h' n o') (hz : olen o' ≤ szl) (hk' : ∀ c fs, o' ≠ .inst c fs) : Step G fr π h π (H.set n o') h' where
  pre := List.prefix_refl _
  rel := by
    have ne : ∀ b, b ≠ a → ∀ o, h.get? b = some o → h'.get? b = some o := fun b hb o e => (hs.2 b hb).trans e
    have hno : ∀ c fs, o ≠ .inst c fs := by
      rintro c fs rfl
      rcases hk with ⟨vs, q⟩ | ⟨es, q⟩ <;> cases q
    have hnx : o ≠ .aux := by
      rintro rfl
      rcases hk with ⟨vs, q⟩ | ⟨es, q⟩ <;> cases q
    refine ⟨fun b o e => ne b (fun q => ?_) _ (R.stays b o e), by simp [R.len], R.nodup, R.new, ?_, ?_, ?_, ?_⟩
    · have := R.new a (mem_of_get hn); rw [← q, e] at this; cases this
    · intro x hx
      by_cases q : x = a
      · rw [q]; exact hh
      · obtain ⟨o, e⟩ := R.here x hx; exact ⟨o, ne x q _ e⟩
    · intro m p e
      by_cases q : m = n
      · subst q
        have hlt := (List.getElem?_eq_some_iff.mp hold).1
        rw [List.getElem?_set_self hlt] at e
        cases e; exact ho
      · rw [List.getElem?_set_ne (Ne.symm q)] at e
        have key : ∀ {i : Nat} {b : Addr}, π[i]? = some b → i ≠ n → b ≠ a := fun {i b} e1 hi hb => by
          subst hb
          exact hi (nodup_inj R.nodup e1 hn)
        cases R.obj m p e with
        | list e1 l r => exact .list e1 (let ⟨k, x⟩ := l; ⟨k, ne _ (key e1 q) _ x⟩) r
        | tup e1 l r => exact .tup e1 (let ⟨o, x, y⟩ := l; ⟨o, ne _ (key e1 q) _ x, y⟩) r
        | aux => exact .aux
        | @inst _ _ _ _ _ _ _ _ k e0 e1 e2 a1 a2 a3 a4 a5 f r =>
          refine .inst e0 e1 e2 (ne _ (key e1 q) _ a1) a2 a3 a4 (ne _ (key e2 fun w => ?_) _ a5) f r
          subst w; subst e0
          have := R.aux _ _ _ e
          rw [hold] at this; exact hnx (Option.some.inj this)
        | dict e1 im hs' l r =>
          obtain ⟨ob, x1, x2⟩ := Heap.dictOf_iff.mp im
          exact .dict e1 (Heap.dictOf_iff.mpr ⟨ob, ne _ (key e1 q) _ x1, x2⟩) hs' l r
    · intro m c fs e
      have hlt := (List.getElem?_eq_some_iff.mp hold).1
      by_cases q : m + 1 = n
      · subst q
        rw [List.getElem?_set_self hlt] at e
        exact absurd (Option.some.inj e) (hk' c fs)
      · rw [List.getElem?_set_ne (Ne.symm q)] at e
        have := R.aux m c fs e
        by_cases w : m = n
        · subst w; rw [hold] at this; exact absurd (Option.some.inj this) hnx
        · rw [List.getElem?_set_ne (Ne.symm w)]; exact this
    · intro m p e
      have hlt := (List.getElem?_eq_some_iff.mp hold).1
      by_cases q : m = n
      · subst q
        rw [List.getElem?_set_self hlt] at e
        cases e; exact hz
      · rw [List.getElem?_set_ne (Ne.symm q)] at e
        exact R.size m p e
  keep := by
    have hm : a ∈ π := mem_of_get hn
    have ne : ∀ b, b ∉ π → ∀ o, h.get? b = some o → h'.get? b = some o := fun b hb o e => (hs.2 b fun q => hb (q ▸ hm)).trans e
    exact ⟨fun b o e hb => ⟨o.slots, ne b hb o e⟩, fun b o e hb _ => ne b hb o e⟩
  fresh := fun _ ha hn => absurd ha hn
end Step
end Mine
end
section
open PySem PySem.W PyProof.Rows
set_option Elab.async false
set_option linter.unusedVariables false
namespace Mine
variable {G : Gd}
set_option genInjectivity false in
structure Sc where
  scope : Scope
  vars : List (Str × Nat)
noncomputable def Reads1 (env : Env) (h : Heap) (x : Str) (v : Value) : Prop :=
  (env.kindOf x = some .local ∧ ∃ m, h.Ns env.locals m ∧ m x = some v) ∨
  ((env.kindOf x = some .cell ∨ env.kindOf x = some .free) ∧ ∃ c, env.cells.lookup x = some c ∧ h.IsCell c (some v))
noncomputable def foot (env : Env) : List Addr := env.locals :: env.cells.map (·.2)
structure EnvE (G : Gd) (sc : Sc) (A : Around) (env : Env) (h : Heap) (π : List Addr) (ρ : List V) : Prop where
  scope : env.scope = sc.scope
  kind : sc.scope.kind = .function
  glob : env.globals = mainGlobals
  blt : env.builtins = builtinsNs
  frames : ∃ l, A.frames = some l ∧ h.FunFrames G.B l ∧ ∀ b ∈ l.filterMap (·.frame), b ∉ π
  vars : ∀ x k, (x, k) ∈ sc.vars → ∀ v, ρ[k]? = some v → v ≠ .undef → ∃ v', VR G.B π v v' ∧ Reads1 env h x v'
  foots : ∀ b ∈ foot env, b ∉ π ∧ G.B.get? b = none ∧ ∃ o, h.get? b = some o
  cellsE : ∀ y, sc.scope.names.lookup y = some .cell → ∃ c, env.cells.lookup y = some c
theorem Ns.slots {h h' : Heap} {a : Addr} {m : Str → Option Value} (x : h.Ns a m) (k : ∀ o, h.get? a = some o → ∃ sl, h'.get? a = some { o with slots := sl }) : h'.Ns a m := by
  refine x3_3 x fun o es ep ho hd r => ?_
  clear x
  refine x1_1 (k o ho) fun sl e => ?_
  exact ⟨_, es, ep, e, hd, r⟩
theorem IsCell.slots {h h' : Heap} {a : Addr} {v : Option Value} (x : h.IsCell a v) (k : ∀ o, h.get? a = some o → ∃ sl, h'.get? a = some { o with slots := sl }) : h'.IsCell a v := by
  refine x1_2 x fun o ho hd => ?_
  clear x
  refine x1_1 (k o ho) fun sl e => ?_
  exact ⟨_, e, hd⟩
theorem frames_step {fr : List Addr} {π π' : List Addr} {h h' : Heap} {H' : Hp} {l : List Env} (S : Step G fr π h π' H' h') (hl : h.FunFrames G.B l) (hn : ∀ b ∈ l.filterMap (·.frame), b ∉ π) :
    h'.FunFrames G.B l ∧ ∀ b ∈ l.filterMap (·.frame), b ∉ π' := by
  induction l with
  | nil => exact ⟨trivial, fun _ hb => by simp at hb⟩
  | cons env rest ih =>
    refine x0_3 hl fun hk o1 hr => ?_
    clear hl
    refine x2_4 o1 fun L o hf hb ho hd => ?_
    clear o1
    rw [List.filterMap_cons, hf] at hn ⊢
    refine x0_2 (ih hr fun b hb => hn b (List.mem_cons_of_mem _ hb)) fun i1 i2 => ?_
    have hL : L ∉ π := hn L List.mem_cons_self
    refine x1_1 (S.keep.slots L o ho hL) fun sl e => ?_
    refine ⟨⟨hk, ⟨L, _, hf, hb, e, hd⟩, i1⟩, fun b hb => ?_⟩
    rcases List.mem_cons.mp hb with rfl | hb
    · intro hm
      have := S.fresh b hm hL
      rw [ho] at this; cases this
    · exact i2 b hb
theorem EnvE.step {sc : Sc} {A : Around} {env : Env} {fr : List Addr} {h h' : Heap} {π π' : List Addr} {ρ : List V} {H' : Hp} (x : EnvE G sc A env h π ρ) (S : Step G fr π h π' H' h') : EnvE G sc A env h' π' ρ where
  scope := x.scope
  kind := x.kind
  glob := x.glob
  blt := x.blt
  frames := by
    refine x1_3 (x.frames) fun l e hl hn => ?_
    refine x0_2 (frames_step S hl hn) fun i1 i2 => ?_
    exact ⟨l, e, i1, i2⟩
  vars := fun y k hy v hv hu => by
    refine x1_2 (x.vars y k hy v hv hu) fun v' r rd => ?_
    refine ⟨v', r.mono S.pre, ?_⟩
    rcases rd with ⟨hk, m, hn, hm⟩ | ⟨hk, c, hc, hcell⟩
    · exact .inl ⟨hk, m, Ns.slots hn fun o e => S.keep.slots _ o e (x.foots _ List.mem_cons_self).1, hm⟩
    · refine .inr ⟨hk, c, hc, IsCell.slots hcell fun o e => S.keep.slots _ o e (x.foots _ (List.mem_cons_of_mem _ ?_)).1⟩
      exact List.mem_map.mpr ⟨(y, c), PySem.mem_of_lookup hc, rfl⟩
  foots := fun b hb => by
    refine x0_3 (x.foots b hb) fun hn hB o2 => ?_
    refine x1_1 o2 fun o e => ?_
    clear o2
    refine x1_1 (S.keep.slots b o e hn) fun sl e' => ?_
    exact ⟨fun hm => (by have := S.fresh b hm hn; rw [e] at this; cases this), hB, _, e'⟩
  cellsE := x.cellsE
noncomputable def Room (hd : Bool) (b : Nat) (A : Around) : Prop := (hd = true ∨ A.handled = none) ∧ A.depth + b < recursionLimit ∧ A.units + 20 * b + 100 < cLine
theorem Room.le {hd : Bool} {b b' : Nat} {A : Around} (x : Room hd b A) (h : b' ≤ b) : Room hd b' A := ⟨x.1, by have := x.2.1; omega, by have := x.2.2; omega⟩
theorem Room.none {b : Nat} {A : Around} (x : Room false b A) : A.handled = .none := by
  rcases x.1 with h | h
  · cases h
  · exact h
noncomputable def KE (G : Gd) (A : Around) (s : Shared) (π : List Addr) (v : V) (H' : Hp) (Q : Value → Shared → Prop) : Prop :=
  ∀ v' π' h' tk', VR G.B π' v v' → Step G (frs A) π s.heap π' H' h' → Q v' { s with heap := h', toks := tk' }
noncomputable def KT {α : Type} (G : Gd) (A : Around) (s : Shared) (π : List Addr) (c : α) (H' : Hp) (Q : α → Shared → Prop) : Prop :=
  ∀ π' h' tk', Step G (frs A) π s.heap π' H' h' → Q c { s with heap := h', toks := tk' }
noncomputable def RefE (G : Gd) (hd : Bool) (b : Nat) (sc : Sc) (e : Expr) (m : EM) : Prop :=
  ∀ (A : Around) (env : Env) (s : Shared) (π : List Addr) (H : Hp) (ρ : List V) (v : V) (H' : Hp) (Q : Value → Shared → Prop) (Er : Value → Shared → Prop),
    Room hd b A → EnvE G sc A env s.heap π ρ → Rel G π H s.heap → m ρ H = some (v, H') →
    KE G A s π v H' Q →
    wpAny (model G.prog G.w) A (eval e env) Q Er s
noncomputable def RefT (G : Gd) (hd : Bool) (b : Nat) (sc : Sc) (e : Expr) (m : TM) : Prop :=
  ∀ (A : Around) (env : Env) (s : Shared) (π : List Addr) (H : Hp) (ρ : List V) (c : Bool) (H' : Hp) (Q : Bool → Shared → Prop) (Er : Value → Shared → Prop),
    Room hd b A → EnvE G sc A env s.heap π ρ → Rel G π H s.heap → m ρ H = some (c, H') →
    KT G A s π c H' Q →
    wpAny (model G.prog G.w) A (isTrue e env (eval e env)) Q Er s
inductive RefEs (G : Gd) (hd : Bool) (b : Nat) (sc : Sc) : List Expr → List EM → Prop where
  | nil : RefEs G hd b sc [] []
  | cons {e : Expr} {m : EM} {es : List Expr} {ms : List EM} : RefE G hd b sc e m → (∀ env, starEach (e :: es) env = (false, eval e env) :: starEach es env) → RefEs G hd b sc es ms → RefEs G hd b sc (e :: es) (m :: ms)
section
variable {hd : Bool} {b : Nat} {sc : Sc}
theorem bind1 {α β : Type} {x : Option α} {f : α → Option β} {y : β} {r : Prop} (h : x.bind f = some y) (k : ∀ a, x = some a → f a = some y → r) : r := by
  cases x with
  | none => cases h
  | some a => exact k a rfl h
theorem bind2 {α β γ : Type} {x : Option (α × β)} {f : α × β → Option γ} {y : γ} {r : Prop} (h : x.bind f = some y) (k : ∀ a b, x = some (a, b) → f (a, b) = some y → r) : r := bind1 h fun c => k c.1 c.2
theorem bind3 {α β γ δ : Type} {x : Option (α × β × δ)} {f : α × β × δ → Option γ} {y : γ} {r : Prop} (h : x.bind f = some y) (k : ∀ a b c, x = some (a, b, c) → f (a, b, c) = some y → r) : r := bind1 h fun c => k c.1 c.2.1 c.2.2
theorem sp2 {α β : Type} {a a' : α} {b b' : β} {P : α → β → Prop} (k : P a' b') (h : some (a, b) = some (a', b')) : P a b := by cases h; exact k
theorem KE.cast {A : Around} {s : Shared} {π : List Addr} {v w : V} {H' H'' : Hp} {Q : Value → Shared → Prop} (k : KE G A s π v H' Q) (h : some (w, H'') = some (v, H')) : KE G A s π w H'' Q := sp2 (P := fun v H' => KE G A s π v H' Q) k h
theorem KT.cast {A : Around} {s : Shared} {π : List Addr} {v w : Bool} {H' H'' : Hp} {Q : Bool → Shared → Prop} (k : KT G A s π v H' Q) (h : some (w, H'') = some (v, H')) : KT G A s π w H'' Q := sp2 (P := fun v H' => KT G A s π v H' Q) k h
theorem ref_spliced {es : List Expr} {ms : List EM} (x : RefEs G hd b sc es ms) : ∀ {A : Around} {env : Env} {s : Shared} {π : List Addr} {H : Hp} {ρ : List V} {vs : List V} {H' : Hp} {Q : List Value → Shared → Prop} {Er : Value → Shared → Prop} {pos : Pos},
    Room hd b A → EnvE G sc A env s.heap π ρ → Rel G π H s.heap → evs ms ρ H = some (vs, H') →
    (∀ vs' π' h' tk', VRs G.B π' vs vs' → Step G (frs A) π s.heap π' H' h' → Q vs' { s with heap := h', toks := tk' }) →
    wpAny (model G.prog G.w) A (spliced (backTo pos (starEach es env))) Q Er s := by
  induction x with
  | nil =>
    intro A env s π H ρ vs H' Q Er pos R X L q k
    cases q
    exact Calls.spliced_nil (k [] π s.heap s.toks .nil (.refl L))
  | @cons e m es ms h1 h2 _ ih =>
    intro A env s π H ρ vs H' Q Er pos R X L q k
    refine bind2 q fun v H1 q1 q2 => ?_
    clear q
    refine bind2 q2 fun vs H2 q3 q4 => ?_
    clear q2
    cases q4
    rw [h2]
    show wpAny _ A (spliced ((false, eval e env) :: backTo pos (starEach es env))) Q Er s
    refine Calls.spliced_cons (h1 A env s π H ρ v H1 _ _ R X L q1 fun v' π1 h1' tk1 r1 S1 => ?_)
    refine ih R (X.step S1) S1.rel q3 fun vs' π2 h2' tk2 r2 S2 => ?_
    exact k _ _ _ _ (.cons (r1.mono S2.pre) r2) (S1.trans S2)
end
end Mine
end
section
open PySem PySem.W PyProof.Rows
set_option Elab.async false
set_option linter.unusedVariables false
namespace Mine
variable {G : Gd} {hd : Bool} {b : Nat} {sc : Sc}
theorem plain_isList {h : Heap} {a : Addr} {items : Array Value} (x : h.PlainList a items) : h.IsList a items := let ⟨n, e⟩ := x; ⟨_, e, rfl, n, rfl⟩
theorem get_fresh (h : Heap) : h.get? h.objs.size = none := by
  cases q : h.get? h.objs.size with
  | none => rfl
  | some o => exact absurd (Heap.lt_size q) (Nat.lt_irrefl _)
theorem Step.newList {fr : List Addr} {π : List Addr} {H : Hp} {h : Heap} {vs : List V} {ws : List Value} {n : Nat} (R : Rel G π H h) (r : VRs G.B π vs ws) (hz : vs.length ≤ szl) :
    Step G fr π h (π ++ [h.objs.size]) (H ++ [.list vs]) (h.push { cls := .type "list", data := .seq ws.toArray n }) :=
  .push R (fun b o e => Heap.get?_push_of_some _ e) (get_fresh h) ⟨_, Heap.get?_push_size _ rfl⟩
    (.list (by rw [← R.len]; simp) ⟨n, Heap.get?_push_size _ rfl⟩ (r.mono (List.prefix_append _ _))) hz nofun
theorem Step.newTup {fr : List Addr} {π : List Addr} {H : Hp} {h : Heap} {vs : List V} {ws : List Value} {n : Nat} (R : Rel G π H h) (r : VRs G.B π vs ws) (hz : vs.length ≤ szl) :
    Step G fr π h (π ++ [h.objs.size]) (H ++ [.tup vs]) (h.push { cls := .type "tuple", data := .seq ws.toArray n }) :=
  .push R (fun b o e => Heap.get?_push_of_some _ e) (get_fresh h) ⟨_, Heap.get?_push_size _ rfl⟩
    (.tup (by rw [← R.len]; simp) ⟨_, Heap.get?_push_size _ rfl, rfl, n, rfl⟩ (r.mono (List.prefix_append _ _))) hz nofun
theorem VR.new {B : Heap} {π : List Addr} {H : Hp} {a : Addr} (e : π.length = H.length) : VR B (π ++ [a]) (.ref H.length) (.ref a) := .ref (by rw [← e]; simp)
theorem ref_none {k : Nat} {pos : Pos} : RefE G hd b sc (.Constant .none k pos) eNone := by
  intro A env s π H ρ v H' Q Er R X L q k
  replace k := KE.cast k q
  exact Constant_none (k _ π s.heap s.toks .none (.refl L))
theorem ref_bool {k : Nat} {pos : Pos} {c : Bool} : RefE G hd b sc (.Constant (.bool c) k pos) (eBool c) := by
  intro A env s π H ρ v H' Q Er R X L q k
  replace k := KE.cast k q
  exact Constant_bool (k _ π s.heap s.toks (.bool c) (.refl L))
theorem ref_int {k : Nat} {pos : Pos} {i : Int} : RefE G hd b sc (.Constant (.int i) k pos) (eInt i) := by
  intro A env s π H ρ v H' Q Er R X L q k
  replace k := KE.cast k q
  exact wpAny_Constant_int (k _ π s.heap (s.toks + 1) (.int i _) (.refl L))
theorem ref_loc {x : Str} {n : Nat} {pos : Pos} (hx : (x, n) ∈ sc.vars) (hd' : (x == ("__debug__" : Str)) = false) (hc' : (x == ("__classdict__" : Str)) = false) : RefE G hd b sc (.Name x pos) (eLoc n) := by
  intro A env s π H ρ v H' Q Er R X L q k
  unfold eLoc at q
  split at q
  · cases q
  · cases q
  · rename_i w hw hn
    replace k := KE.cast k q
    refine x1_2 (X.vars x n hx _ hn (fun e => hw e)) fun v' r rd => ?_
    refine wpAny_Name ?_ hd'
    have hk : env.scope.kind = .function := by rw [X.scope]; exact X.kind
    rcases rd with ⟨h1, m, h2, h3⟩ | ⟨h1, c, h2, h3⟩
    · exact wpAny_loadName_local hk h1 h2 h3 (k _ π s.heap s.toks r (.refl L))
    · rcases h1 with h1 | h1
      · exact wpAny_loadName_cell hk h1 h2 h3 (k _ π s.heap s.toks r (.refl L))
      · exact wpAny_loadName_free hk h1 h2 h3 (k _ π s.heap s.toks r (.refl L)) hc'
theorem name_global {A : Around} {env : Env} {s : Shared} {π : List Addr} {H : Hp} {ρ : List V} {x : Str} {pos : Pos} {v : Value} {Q : Value → Shared → Prop} {Er : Value → Shared → Prop}
    (X : EnvE G sc A env s.heap π ρ) (L : Rel G π H s.heap) (hx : sc.scope.names.lookup x = some .globalImplicit) (hv : nsIn G.K mainGlobals x = some (some v)) (hd' : (x == ("__debug__" : Str)) = false)
    (h : Q v s) : wpAny (model G.prog G.w) A (eval (.Name x pos) env) Q Er s := by
  have hk : env.scope.kind = .function := by rw [X.scope]; exact X.kind
  have hx' : env.kindOf x = some .globalImplicit := by unfold Env.kindOf; rw [X.scope]; exact hx
  exact Calls.Name_function_global hk hx' (Calls.loadGlobal_global (by rw [X.glob]; exact G.T.g.keeps L.stays) (mg_of G.X G.T.g hv) h) hd'
theorem name_builtin {A : Around} {env : Env} {s : Shared} {π : List Addr} {H : Hp} {ρ : List V} {x : Str} {pos : Pos} {v : Value} {Q : Value → Shared → Prop} {Er : Value → Shared → Prop}
    (X : EnvE G sc A env s.heap π ρ) (L : Rel G π H s.heap) (hx : sc.scope.names.lookup x = some .globalImplicit) (hv : nsIn G.K mainGlobals x = some none) (hb : bootBuiltins x = some v) (hn : x ≠ "__name__") (hd' : (x == ("__debug__" : Str)) = false)
    (h : Q v s) : wpAny (model G.prog G.w) A (eval (.Name x pos) env) Q Er s := by
  have hk : env.scope.kind = .function := by rw [X.scope]; exact X.kind
  have hx' : env.kindOf x = some .globalImplicit := by unfold Env.kindOf; rw [X.scope]; exact hx
  exact Calls.Name_function_global hk hx' (Calls.loadGlobal_builtin (by rw [X.glob]; exact G.T.g.keeps L.stays) (mg_none_of G.X G.T.g hv) (by rw [X.blt]; exact G.T.b.keeps L.stays) ((G.T.builtins x hn).trans hb) h) hd'
theorem ref_gint {x : Str} {pos : Pos} {i : Int} {t : Tok} (hx : sc.scope.names.lookup x = some .globalImplicit) (hv : nsIn G.K mainGlobals x = some (some (.int i t))) (hd' : (x == ("__debug__" : Str)) = false) :
    RefE G hd b sc (.Name x pos) (eInt i) := by
  intro A env s π H ρ v H' Q Er R X L q k
  replace k := KE.cast k q
  exact name_global X L hx hv hd' (k _ π s.heap s.toks (.int i _) (.refl L))
noncomputable def pyOp : AOp → Operator
  | .add => .Add | .sub => .Sub | .mul => .Mult | .fdiv => .FloorDiv | .mod => .Mod | .pow => .Pow | .band => .BitAnd | .bor => .BitOr | .shl => .LShift | .shr => .RShift
theorem log2_le {n : Nat} (h : n < two64) : n.log2 ≤ 63 := by
  by_cases h0 : n = 0
  · subst h0; decide
  · have : n.log2 < 64 := (Nat.log2_lt h0).mpr h
    lia
theorem bits_le {b : Int} (h : b.natAbs < two64) : Builtin.Int.intBits b ≤ 64 := by
  unfold Builtin.Int.intBits
  have := log2_le h
  split <;> lia
theorem noPylong {a b : Int} (h : b.natAbs < two64) : Builtin.divisionGoesByPylong a b = false := by
  unfold Builtin.divisionGoesByPylong
  have := log2_le h
  simp only [Bool.and_eq_false_iff, decide_eq_false_iff_not]
  left
  split <;> lia
theorem wp_arith {A : Around} {s : Shared} {op : AOp} {a c i : Int} {t u : Tok} {Q : Value → Shared → Prop} {Er : Value → Shared → Prop} (e : arith op a c = some i)
    (h : ∀ t', Q (.int i t') { s with toks := s.toks + 1 }) : wpAny (model G.prog G.w) A (binaryOp (pyOp op) (.int a t) (.int c u)) Q Er s := by
  cases op with
  | add => cases e; exact add_int (h _)
  | sub => cases e; exact sub_int (h _)
  | mul =>
    simp only [arith] at e
    split at e
    · rename_i hc; cases e; exact mul_int (h _) (IntMulOk.of_right (bits_le hc))
    · cases e
  | fdiv =>
    simp only [arith] at e
    split at e
    · rename_i hc; cases e; exact floordiv_int hc.1 (h _) (.inl (noPylong hc.2))
    · cases e
  | mod =>
    simp only [arith] at e
    split at e
    · rename_i hc; cases e; exact mod_int hc (h _)
    · cases e
  | pow =>
    simp only [arith] at e
    split at e
    · rename_i hc; cases e; exact pow_int_small hc.1 (by lia) (by have := hc.2.2; unfold two64 at this; lia) (h _)
    · cases e
  | band => cases e; exact and_int (h _)
  | bor => cases e; exact or_int (h _)
  | shl =>
    simp only [arith] at e
    split at e
    · rename_i hc; cases e; exact lshift_int_small hc.1 (by lia) (by have := hc.2.2; unfold two64 at this; lia) (h _)
    · cases e
  | shr =>
    simp only [arith] at e
    split at e
    · rename_i hc; cases e; exact rshift_int hc.1 (h _)
    · cases e
theorem wp_listmul {A : Around} {s : Shared} {l : Addr} {vs : List Value} {k : Int} {u : Tok} {Q : Value → Shared → Prop} {Er : Value → Shared → Prop} (hl : s.heap.PlainList l vs.toArray) (h1 : vs.length * k.toNat < 100000) (h2 : k.natAbs < 100000)
    (h : Q (.ref s.heap.objs.size) { s with heap := s.heap.push { cls := .type "list", data := .seq (List.replicate k.toNat vs).flatten.toArray } }) :
    wpAny (model G.prog G.w) A (binaryOp .Mult (.ref l) (.int k u)) Q Er s := by
  refine x1_1 hl fun n ho => ?_
  clear hl
  have hsz' : vs.toArray.size * k.toNat < 100000 := by simpa using h1
  refine wpAny_binaryOp_repeat_ref (T := "list") (U := "int") (by decide) ⟨_, ho, rfl⟩ (fun s' => typeIs_int s' k u) noFill_list_mul F.fills_int_mul F.slot_int_rmul repeat_list F.slot_int_index.lookup
    (call_meets F.slot_int_rmul (typeIs_int s k u) F.entry_int_rmul (F.args_int_rmul_2 _ _) (lm_int_rmul_list_any k u l vs.toArray n none #[])
      ⟨ho, rfl, ⟨_, ho, rfl⟩, call_meets F.slot_list_mul ⟨_, ho, rfl⟩ F.entry_list_mul (F.args_list_mul_2 _ _)
        (lm_list_mul_any l vs.toArray n none #[] k u (by simp [Builtin.List.listFitsIndex]; lia) (by lia) (by simp [Builtin.List.listTooLong, sizeLine]; lia))
        ⟨ho, ?_⟩⟩)
  rw [listMul_foldl_if]
  exact h
theorem wp_bin {A : Around} {s : Shared} {π : List Addr} {H H' : Hp} {op : AOp} {x y v : V} {x' y' : Value} {Q : Value → Shared → Prop} {Er : Value → Shared → Prop} (L : Rel G π H s.heap) (rx : VR G.B π x x') (ry : VR G.B π y y')
    (e : binV op x y H = some (v, H')) (k : ∀ v' π' h' tk', VR G.B π' v v' → Step G (frs A) π s.heap π' H' h' → Q v' { s with heap := h', toks := tk' }) : wpAny (model G.prog G.w) A (binaryOp (pyOp op) x' y') Q Er s := by
  unfold binV at e
  split at e
  · rename_i a c
    cases rx; cases ry
    refine x1_2 (Option.map_eq_some_iff.mp e) fun i e1 e2 => ?_
    cases e2
    exact wp_arith e1 fun t' => k _ π s.heap _ (.int i t') (.refl L)
  · rename_i m n
    split at e
    · rename_i vs ws hm hn
      split at e
      · rename_i hlt
        cases e
        cases rx with | ref ex => ?_
        cases ry with | ref ey => ?_
        cases L.obj _ _ hm with | list e1 l1 r1 => ?_
        cases L.obj _ _ hn with | list e2 l2 r2 => ?_
        rw [ex] at e1; cases e1
        rw [ey] at e2; cases e2
        refine x1_1 l1 fun n1 l1 => ?_
        refine x1_1 l2 fun n2 l2 => ?_
        refine P.add_list (items := _) (items2 := _) l1 l2 ?_ ?_
        · rw [List.append_toArray]
          exact k _ _ _ _ (.new L.len) (.newList L (r1.append r2) (by rw [List.length_append]; unfold lim at hlt; unfold szl; lia))
        · have h1 := r1.length
          have h2 := r2.length
          simp only [List.size_toArray, sizeLine]
          unfold lim at hlt
          lia
      · cases e
    · cases e
  · rename_i m c
    split at e
    · rename_i vs hm
      split at e
      · rename_i hlt
        cases e
        cases rx with | ref ex => ?_
        cases ry with | int _ t => ?_
        cases L.obj _ _ hm with | list e1 l1 r1 => ?_
        rw [ex] at e1; cases e1
        refine wp_listmul l1 ?_ hlt.2 (k _ _ _ _ (.new L.len) (.newList L (r1.flatten_replicate _) (by have := hlt.1; unfold lim at this; unfold szl; simp only [List.length_flatten, List.map_replicate, List.sum_replicate_nat]; rw [Nat.mul_comm]; lia)))
        have := hlt.1
        rw [r1.length] at this
        exact this
      · cases e
    · cases e
  · cases e
theorem ref_bin {op : AOp} {l r : Expr} {ml mr : EM} {pos : Pos} (hl : RefE G hd b sc l ml) (hr : RefE G hd b sc r mr) : RefE G hd b sc (.BinOp l (pyOp op) r pos) (eBin op ml mr) := by
  intro A env s π H ρ v H' Q Er R X L q k
  refine bind2 q fun x H1 q1 q2 => ?_
  clear q
  refine bind2 q2 fun y H2 q3 q4 => ?_
  clear q2
  refine wpAny_BinOp (hl A env s π H ρ x H1 _ _ R X L q1 fun x' π1 h1 t1 r1 S1 => ?_)
  refine hr A env _ π1 H1 ρ y H2 _ _ R (X.step S1) S1.rel q3 fun y' π2 h2 t2 r2 S2 => ?_
  exact wp_bin S2.rel (r1.mono S2.pre) r2 q4 fun v' π3 h3 t3 r3 S3 => k _ _ _ _ r3 ((S1.trans S2).trans S3)
theorem ref_neg {e : Expr} {m : EM} {pos : Pos} (h : RefE G hd b sc e m) : RefE G hd b sc (.UnaryOp .USub e pos) (eNeg m) := by
  intro A env s π H ρ v H' Q Er R X L q k
  refine bind2 q fun x H1 q1 q2 => ?_
  clear q
  dsimp only at q2
  split at q2
  · replace k := KE.cast k q2
    refine wpAny_UnaryOp (h A env s π H ρ _ _ _ _ R X L q1 fun x' π1 h1 t1 r1 S1 => ?_)
    cases r1
    exact P.neg_int (k _ _ _ _ (.int _ _) S1)
  · cases q2
end Mine
end
section
open PySem PySem.W PyProof.Rows
set_option Elab.async false
set_option linter.unusedVariables false
namespace Mine
variable {G : Gd} {hd : Bool} {b : Nat} {sc : Sc}
noncomputable def Tells1 (h : Heap) (k : Nat) (v' : Value) (d : PyData) : Prop := (∃ as, Reads h v' d as) ∧ d.canLay0 = true ∧ d.depth ≤ k
theorem dataB_reads {h : Heap} {π : List Addr} {v : V} {v' : Value} {d : PyData} (r : VR G.B π v v') (e : dataB v = some d) (k : Nat) : Tells1 h k v' d := by
  cases r with
  | none => cases e; exact ⟨⟨_, .none⟩, rfl, Nat.zero_le _⟩
  | bool c => cases e; exact ⟨⟨_, .bool _⟩, rfl, Nat.zero_le _⟩
  | int i t => cases e; exact ⟨⟨_, .int _ _⟩, rfl, Nat.zero_le _⟩
  | ref q => cases e
  | scr => cases e
theorem mapO_reads {h : Heap} {π : List Addr} {f : V → Option PyData} {k : Nat} (hf : ∀ v v' d, VR G.B π v v' → f v = some d → Tells1 h k v' d) {vs : List V} {ws : List Value} (r : VRs G.B π vs ws) : ∀ {ds : List PyData}, mapO f vs = some ds → (∃ as, ReadsAll h ws ds as) ∧ PyData.canLayAll0 ds = true ∧ PyData.depthAll ds ≤ k := by
  induction r with
  | nil => intro ds e; cases e; exact ⟨⟨_, .nil⟩, rfl, Nat.zero_le _⟩
  | cons r1 _ ih =>
    intro ds e
    refine bind1 e fun d e1 e2 => ?_
    clear e
    refine x1_2 (Option.map_eq_some_iff.mp e2) fun ds' e3 o1 => ?_
    subst o1
    refine x0_3 (hf _ _ d r1 e1) fun o2 a2 a3 => ?_
    refine x1_1 o2 fun as a1 => ?_
    clear o2
    refine x0_3 (ih e3) fun o3 b2 b3 => ?_
    refine x1_1 o3 fun bs b1 => ?_
    clear o3
    exact ⟨⟨_, .cons a1 b1⟩, by simp only [PyData.canLayAll0, a2, b2, Bool.and_self], by simp only [PyData.depthAll]; exact Nat.max_le.mpr ⟨a3, b3⟩⟩
theorem dataO_reads {h : Heap} {π : List Addr} {f : V → Option PyData} {k n : Nat} {a : Addr} (hf : ∀ v v' d, VR G.B π v v' → f v = some d → Tells1 h k v' d) (hr : π[n]? = some a) {o : Option O} (ho : ∀ o', o = some o' → OR G π h n o') {d : PyData} (e : dataO f o = some d) : Tells1 h (k + 1) (.ref a) d := by
  match o, e, ho with
  | some (.list vs), e, ho =>
    refine x1_2 (Option.map_eq_some_iff.mp e) fun ds e1 o4 => ?_
    subst o4
    cases ho _ rfl with | list e1' l r' => ?_
    rw [hr] at e1'; cases e1'
    refine x1_1 l fun m l => ?_
    refine x0_3 (mapO_reads hf r' e1) fun o5 a2 a3 => ?_
    refine x1_1 o5 fun as a1 => ?_
    clear o5
    exact ⟨⟨_, .list l rfl rfl a1⟩, by simpa [PyData.canLay0] using a2, by simp only [PyData.depth]; omega⟩
  | some (.tup vs), e, ho =>
    refine x1_2 (Option.map_eq_some_iff.mp e) fun ds e1 o6 => ?_
    subst o6
    cases ho _ rfl with | tup e1' l r' => ?_
    rw [hr] at e1'; cases e1'
    refine x1_3 l fun o l c o7 => ?_
    refine x1_1 o7 fun m dd => ?_
    clear o7
    refine x0_3 (mapO_reads hf r' e1) fun o8 a2 a3 => ?_
    refine x1_1 o8 fun as a1 => ?_
    clear o8
    exact ⟨⟨_, .tuple l c dd a1⟩, by simpa [PyData.canLay0] using a2, by simp only [PyData.depth]; omega⟩
theorem dataV_reads {π : List Addr} {H : Hp} {h : Heap} (L : Rel G π H h) : ∀ (k : Nat) (v : V) (v' : Value) (d : PyData), VR G.B π v v' → dataV k H v = some d → Tells1 h k v' d
  | 0, v, v', d, r, e => dataB_reads r e 0
  | k + 1, v, v', d, r, e => by
    have hf := fun v v' d r e => dataV_reads L k v v' d r e
    have e : dataR (dataV k H) H v = some d := e
    cases r with
    | ref hr => exact dataO_reads hf hr (L.obj _) e
    | none => exact dataB_reads (G := G) (π := π) .none e _
    | bool c => exact dataB_reads (G := G) (π := π) (.bool c) e _
    | int i t => exact dataB_reads (G := G) (π := π) (.int i t) e _
    | scr => cases e
theorem intsV_are {B : Heap} {π : List Addr} : ∀ {vs : List V} {ws : List Value} {is : List Int}, VRs B π vs ws → intsV vs = some is → IntsAre ws is
  | [], _, _, r, e => by cases r; cases e; exact .nil
  | .int i :: vs, _, is, r, e => by
    refine x1_2 (Option.map_eq_some_iff.mp e) fun is' e1 e2 => ?_
    subst e2
    cases r with | cons r1 r2 => ?_
    cases r1
    exact .cons i _ (intsV_are r2 e1)
  | .none :: _, _, _, _, e => by cases e
  | .undef :: _, _, _, _, e => by cases e
  | .bool _ :: _, _, _, _, e => by cases e
  | .ref _ :: _, _, _, _, e => by cases e
  | .scr _ :: _, _, _, _, e => by cases e
noncomputable def pyCmp : COp → CmpOp
  | .lt => .Lt | .le => .LtE | .gt => .Gt | .ge => .GtE | .eq => .Eq | .ne => .NotEq | .isn => .Is | .isnot => .IsNot | .inn => .In | .notin => .NotIn
theorem wp_cmp {A : Around} {s : Shared} {π : List Addr} {H : Hp} {op : COp} {x y : V} {c : Bool} {x' y' : Value} {Q : Value → Shared → Prop} {Er : Value → Shared → Prop} (R : Room hd b A) (L : Rel G π H s.heap) (rx : VR G.B π x x') (ry : VR G.B π y y')
    (e : cmpV op x y H = some c) (k : Q (.bool c) s) : wpAny (model G.prog G.w) A (compareOp (pyCmp op) x' y') Q Er s := by
  have hu := R.2.2
  cases op with
  | lt =>
    simp only [cmpV] at e
    split at e
    · cases rx; cases ry; cases e; exact lt_int k
    · cases e
  | le =>
    simp only [cmpV] at e
    split at e
    · cases rx; cases ry; cases e; exact le_int k
    · cases e
  | gt =>
    simp only [cmpV] at e
    split at e
    · cases rx; cases ry; cases e; exact gt_int k
    · cases e
  | ge =>
    simp only [cmpV] at e
    split at e
    · cases rx; cases ry; cases e; exact ge_int k
    · cases e
  | eq =>
    simp only [cmpV] at e
    split at e
    · rename_i d d' e1 e2
      cases e
      refine x0_3 (dataV_reads L 4 x x' d rx e1) fun o9 a2 a3 => ?_
      refine x1_1 o9 fun as a1 => ?_
      clear o9
      refine x0_3 (dataV_reads L 4 y y' d' ry e2) fun o10 b2 b3 => ?_
      refine x1_1 o10 fun bs b1 => ?_
      clear o10
      exact SeqAt.compareEq_reads a1 b1 a2 b2 (by omega) k
    · cases e
  | ne =>
    simp only [cmpV] at e
    split at e
    · rename_i d d' e1 e2
      cases e
      refine x0_3 (dataV_reads L 4 x x' d rx e1) fun o11 a2 a3 => ?_
      refine x1_1 o11 fun as a1 => ?_
      clear o11
      refine x0_3 (dataV_reads L 4 y y' d' ry e2) fun o12 b2 b3 => ?_
      refine x1_1 o12 fun bs b1 => ?_
      clear o12
      exact SeqAt.compareNe_reads a1 b1 a2 b2 (by omega) k
    · cases e
  | isn =>
    simp only [cmpV] at e
    split at e
    · cases ry
      refine is_none ?_
      split at e
      · cases rx; cases e; exact k
      · cases e
      · rename_i h1 h2
        cases e
        cases rx <;> first | exact absurd rfl h1 | exact absurd rfl h2 | exact k
    · cases e
  | isnot =>
    simp only [cmpV] at e
    split at e
    · cases ry
      refine isNot_none ?_
      split at e
      · cases rx; cases e; exact k
      · cases e
      · rename_i h1 h2
        cases e
        cases rx <;> first | exact absurd rfl h1 | exact absurd rfl h2 | exact k
    · cases e
  | inn =>
    simp only [cmpV] at e
    split at e
    · rename_i a n
      cases rx
      cases ry with | ref er => ?_
      split at e
      · rename_i vs hn
        refine x1_2 (Option.map_eq_some_iff.mp e) fun is e1 e2 => ?_
        cases L.obj _ _ hn with | list e1' l r' => ?_
        rw [er] at e1'; cases e1'
        exact in_list_ints (plain_isList l) (intsV_are r' e1) (e2 ▸ k)
      · rename_i vs hn
        refine x1_2 (Option.map_eq_some_iff.mp e) fun is e1 e2 => ?_
        cases L.obj _ _ hn with | tup e1' l r' => ?_
        rw [er] at e1'; cases e1'
        exact in_tuple_ints l (by simpa using intsV_are r' e1) (e2 ▸ k)
      · cases e
    · cases e
  | notin =>
    simp only [cmpV] at e
    split at e
    · rename_i a n
      cases rx
      cases ry with | ref er => ?_
      split at e
      · rename_i vs hn
        refine x1_2 (Option.map_eq_some_iff.mp e) fun is e1 e2 => ?_
        cases L.obj _ _ hn with | list e1' l r' => ?_
        rw [er] at e1'; cases e1'
        exact notin_list_ints (plain_isList l) (intsV_are r' e1) (e2 ▸ k)
      · rename_i vs hn
        refine x1_2 (Option.map_eq_some_iff.mp e) fun is e1 e2 => ?_
        cases L.obj _ _ hn with | tup e1' l r' => ?_
        rw [er] at e1'; cases e1'
        exact notin_tuple_ints l (by simpa using intsV_are r' e1) (e2 ▸ k)
      · cases e
    · cases e
theorem wp_truthy {A : Around} {s : Shared} {π : List Addr} {H : Hp} {x : V} {c : Bool} {x' : Value} {Q : Bool → Shared → Prop} {Er : Value → Shared → Prop} (L : Rel G π H s.heap) (rx : VR G.B π x x')
    (e : truthV H x = some c) (k : ∀ tk, Q c { s with toks := tk }) : wpAny (model G.prog G.w) A (truthy x') Q Er s := by
  unfold truthV at e
  split at e
  · cases rx; cases e; exact wpAny_truthy_bool (k s.toks)
  · cases rx; cases e; exact truthy_int (k s.toks)
  · rename_i n
    split at e
    · rename_i vs hn
      cases e
      cases rx with | ref er => ?_
      have hz := L.size _ _ hn
      cases L.obj _ _ hn with | list e1' l r' => ?_
      rw [er] at e1'; cases e1'
      have hl := r'.length
      refine wpAny_truthy_list (plain_isList l) ?_ ?_
      · simp only [olen, szl] at hz
        simp only [List.size_toArray]; omega
      · rename_i ws
        have : (!ws.toArray.isEmpty) = !vs.isEmpty := by
          cases r' <;> simp
        rw [this]; exact k _
    · cases e
  · cases e
theorem ref_not {e : Expr} {m : EM} {pos : Pos} (h : RefE G hd b sc e m) : RefE G hd b sc (.UnaryOp .Not e pos) (eNot m) := by
  intro A env s π H ρ v H' Q Er R X L q k
  refine bind2 q fun x H1 q1 q2 => ?_
  clear q
  refine bind1 q2 fun c q3 q4 => ?_
  clear q2
  replace k := KE.cast k q4
  refine wpAny_UnaryOp (h A env s π H ρ _ _ _ _ R X L q1 fun x' π1 h1 t1 r1 S1 => ?_)
  exact not_of (wp_truthy S1.rel r1 q3 fun tk => k _ _ _ _ (.bool _) S1)
theorem ref_cmp {op : COp} {l r : Expr} {ml mr : EM} {pos : Pos} (hl : RefE G hd b sc l ml) (hr : RefE G hd b sc r mr) (hb : behindInMarks (pyCmp op) r = false) : RefE G hd b sc (.Compare l [pyCmp op] [r] pos) (eCmp op ml mr) := by
  intro A env s π H ρ v H' Q Er R X L q k
  refine bind2 q fun x H1 q1 q2 => ?_
  clear q
  refine bind2 q2 fun y H2 q3 q4 => ?_
  clear q2
  refine bind1 q4 fun c q5 q6 => ?_
  clear q4
  replace k := KE.cast k q6
  refine wpAny_Compare1 (hl A env s π H ρ x H1 _ _ R X L q1 fun x' π1 h1 t1 r1 S1 => ?_) hb
  refine hr A env _ π1 H1 ρ y _ _ _ R (X.step S1) S1.rel q3 fun y' π2 h2 t2 r2 S2 => ?_
  exact wp_cmp R S2.rel (r1.mono S2.pre) r2 q5 (k _ _ _ _ (.bool c) (S1.trans S2))
theorem tref_cmp {op : COp} {l r : Expr} {ml mr : EM} {pos : Pos} (hl : RefE G hd b sc l ml) (hr : RefE G hd b sc r mr) (hb : behindInMarks (pyCmp op) r = false) : RefT G hd b sc (.Compare l [pyCmp op] [r] pos) (tCmp op ml mr) := by
  intro A env s π H ρ v H' Q Er R X L q k
  refine bind2 q fun x H1 q1 q2 => ?_
  clear q
  refine bind2 q2 fun y H2 q3 q4 => ?_
  clear q2
  refine bind1 q4 fun c q5 q6 => ?_
  clear q4
  replace k := KT.cast k q6
  refine wpAny_isTrue_Compare1 (hl A env s π H ρ x H1 _ _ R X L q1 fun x' π1 h1 t1 r1 S1 => ?_) hb
  refine hr A env _ π1 H1 ρ y _ _ _ R (X.step S1) S1.rel q3 fun y' π2 h2 t2 r2 S2 => ?_
  exact wp_cmp R S2.rel (r1.mono S2.pre) r2 q5 (wpAny_truthy_bool (k _ _ _ (S1.trans S2)))
theorem tref_chain {op op' : COp} {l r r' : Expr} {ml mr mr' : EM} {pos : Pos} (hl : RefE G hd b sc l ml) (hr : RefE G hd b sc r mr) (hr' : RefE G hd b sc r' mr') (hb : lastMarks [pyCmp op, pyCmp op'] [r, r'] = false) :
    RefT G hd b sc (.Compare l [pyCmp op, pyCmp op'] [r, r'] pos) (tChain op op' ml mr mr') := by
  intro A env s π H ρ v H' Q Er R X L q k
  refine bind2 q fun x H1 q1 q2 => ?_
  clear q
  refine bind2 q2 fun y H2 q3 q4 => ?_
  clear q2
  refine bind1 q4 fun c q5 q6 => ?_
  clear q4
  refine isTrue_chain (hl A env s π H ρ x H1 _ _ R X L q1 fun x' π1 h1 t1 r1 S1 => ?_) hb
  show wpAny _ A (do
    let rv ← holding [x'] (eval r env)
    standAt pos
    let c ← holding [x', rv] (compareOp (pyCmp op) x' rv)
    release [x', rv] [c]
    if ← holding [c, rv] (truthy c) then testChain pos rv [pyCmp op'] [eval r' env] else pure false) _ _ _
  refine wpAny_bind (wpAny_holding (hr A env _ π1 H1 ρ y H2 _ _ R (X.step S1) S1.rel q3 fun y' π2 h2 t2 r2 S2 => ?_))
  refine wpAny_bind (wpAny_standAt (wpAny_bind (wpAny_holding (wp_cmp R S2.rel (r1.mono S2.pre) r2 q5 ?_))))
  refine wpAny_bind (wpAny_release (wpAny_bind (wpAny_holding (wpAny_truthy_bool ?_))))
  have X2 := (X.step S1).step S2
  cases c with
  | false =>
    simp only [Bool.false_eq_true, if_false] at q6 ⊢
    replace k := KT.cast k q6
    exact wpAny_pure (k _ _ _ (S1.trans S2))
  | true =>
    simp only [if_true] at q6 ⊢
    refine bind2 q6 fun z H3 q7 q8 => ?_
    clear q6
    refine bind1 q8 fun c' q9 q10 => ?_
    clear q8
    replace k := KT.cast k q10
    show wpAny _ A (do
      let rv ← holding [y'] (eval r' env)
      standAt pos
      let c ← operate [y', rv] (compareOp (pyCmp op') y' rv)
      holding [c] (truthy c)) _ _ _
    refine wpAny_bind (wpAny_holding (hr' A env _ π2 H2 ρ z H3 _ _ R X2 S2.rel q7 fun z' π3 h3 t3 r3 S3 => ?_))
    refine wpAny_bind (wpAny_standAt (wpAny_bind (wpAny_operating (wp_cmp R S3.rel (r2.mono S3.pre) r3 q9 ?_))))
    exact wpAny_holding (wpAny_truthy_bool (k _ _ _ ((S1.trans S2).trans S3)))
theorem tref_val {e : Expr} {m : EM} (h : RefE G hd b sc e m) (hp : ∀ env whole, isTrue e env whole = (do let v ← whole; standAt e.pos; holding [v] (truthy v))) : RefT G hd b sc e (tVal m) := by
  intro A env s π H ρ v H' Q Er R X L q k
  refine bind2 q fun x H1 q1 q2 => ?_
  clear q
  refine bind1 q2 fun c q3 q4 => ?_
  clear q2
  replace k := KT.cast k q4
  refine isTrue_plain (h A env s π H ρ _ _ _ _ R X L q1 fun x' π1 h1 t1 r1 S1 => ?_) (hp _ _)
  exact wp_truthy S1.rel r1 q3 fun tk => k _ _ _ S1
theorem tref_not {e : Expr} {m : TM} {pos : Pos} (h : RefT G hd b sc e m) : RefT G hd b sc (.UnaryOp .Not e pos) (tNot m) := by
  intro A env s π H ρ v H' Q Er R X L q k
  refine bind2 q fun c H1 q1 q2 => ?_
  clear q
  replace k := KT.cast k q2
  exact wpAny_isTrue_Not (h A env s π H ρ _ _ _ _ R X L q1 fun π1 h1 t1 S1 => k _ _ _ S1)
theorem tref_and {e : Expr} {es : List Expr} {m n : TM} {pos : Pos} (h : RefT G hd b sc e m) (h' : RefT G hd b sc (.BoolOp .And es pos) n) : RefT G hd b sc (.BoolOp .And (e :: es) pos) (tAnd m n) := by
  intro A env s π H ρ v H' Q Er R X L q k
  refine bind2 q fun c H1 q1 q2 => ?_
  clear q
  refine isTrue_and (h A env s π H ρ _ _ _ _ R X L q1 fun π1 h1 t1 S1 => ?_)
  cases c with
  | false =>
    simp only [Bool.false_eq_true, if_false] at q2 ⊢
    cases q2; exact k _ _ _ S1
  | true =>
    simp only [if_true] at q2 ⊢
    exact h' A env _ π1 H1 ρ _ _ _ _ R (X.step S1) S1.rel q2 fun π2 h2 t2 S2 => k _ _ _ (S1.trans S2)
theorem tref_and1 {e : Expr} {m : TM} {pos : Pos} (h : RefT G hd b sc e m) : RefT G hd b sc (.BoolOp .And [e] pos) m := by
  intro A env s π H ρ v H' Q Er R X L q k
  refine isTrue_and (h A env s π H ρ _ _ _ _ R X L q fun π1 h1 t1 S1 => ?_)
  cases v with
  | false => simp only [Bool.false_eq_true, if_false]; exact k _ _ _ S1
  | true => simp only [if_true]; exact isTrue_and_nil (k _ _ _ S1)
theorem tref_or {e : Expr} {es : List Expr} {m n : TM} {pos : Pos} (h : RefT G hd b sc e m) (h' : RefT G hd b sc (.BoolOp .Or es pos) n) : RefT G hd b sc (.BoolOp .Or (e :: es) pos) (tOr m n) := by
  intro A env s π H ρ v H' Q Er R X L q k
  refine bind2 q fun c H1 q1 q2 => ?_
  clear q
  refine isTrue_or (h A env s π H ρ _ _ _ _ R X L q1 fun π1 h1 t1 S1 => ?_)
  cases c with
  | true =>
    simp only [if_true] at q2 ⊢
    cases q2; exact k _ _ _ S1
  | false =>
    simp only [Bool.false_eq_true, if_false] at q2 ⊢
    exact h' A env _ π1 H1 ρ _ _ _ _ R (X.step S1) S1.rel q2 fun π2 h2 t2 S2 => k _ _ _ (S1.trans S2)
theorem tref_or1 {e : Expr} {m : TM} {pos : Pos} (h : RefT G hd b sc e m) : RefT G hd b sc (.BoolOp .Or [e] pos) m := by
  intro A env s π H ρ v H' Q Er R X L q k
  refine isTrue_or (h A env s π H ρ _ _ _ _ R X L q fun π1 h1 t1 S1 => ?_)
  cases v with
  | true => simp only [if_true]; exact k _ _ _ S1
  | false => simp only [Bool.false_eq_true, if_false]; exact isTrue_or_nil (k _ _ _ S1)
theorem ref_and {e e' : Expr} {m m' : EM} {pos : Pos} (h : RefE G hd b sc e m) (h' : RefE G hd b sc e' m') : RefE G hd b sc (.BoolOp .And [e, e'] pos) (eAnd m m') := by
  intro A env s π H ρ v H' Q Er R X L q k
  refine bind2 q fun x H1 q1 q2 => ?_
  clear q
  refine bind1 q2 fun c q3 q4 => ?_
  clear q2
  refine wpAny_And2 (h A env s π H ρ _ _ _ _ R X L q1 fun x' π1 h1 t1 r1 S1 => ?_)
  refine wp_truthy S1.rel r1 q3 fun tk => ?_
  cases c with
  | false =>
    simp only [Bool.false_eq_true, if_false] at q4 ⊢
    cases q4; exact k _ _ _ _ r1 S1
  | true =>
    simp only [if_true] at q4 ⊢
    exact h' A env _ π1 H1 ρ _ _ _ _ R (X.step S1) S1.rel q4 fun x2 π2 h2 t2 r2 S2 => k _ _ _ _ r2 (S1.trans S2)
theorem ref_if {t a c : Expr} {mt : TM} {ma mc : EM} {pos : Pos} (h : RefT G hd b sc t mt) (ha : RefE G hd b sc a ma) (hc : RefE G hd b sc c mc) : RefE G hd b sc (.IfExp t a c pos) (eIf mt ma mc) := by
  intro A env s π H ρ v H' Q Er R X L q k
  refine bind2 q fun x H1 q1 q2 => ?_
  clear q
  refine wpAny_IfExp (h A env s π H ρ _ _ _ _ R X L q1 fun π1 h1 t1 S1 => ?_)
  cases x with
  | false =>
    simp only [Bool.false_eq_true, if_false] at q2 ⊢
    exact hc A env _ π1 H1 ρ _ _ _ _ R (X.step S1) S1.rel q2 fun x2 π2 h2 t2 r2 S2 => k _ _ _ _ r2 (S1.trans S2)
  | true =>
    simp only [if_true] at q2 ⊢
    exact ha A env _ π1 H1 ρ _ _ _ _ R (X.step S1) S1.rel q2 fun x2 π2 h2 t2 r2 S2 => k _ _ _ _ r2 (S1.trans S2)
end Mine
end
section
open PySem PySem.W PyProof.Rows
set_option Elab.async false
set_option linter.unusedVariables false
namespace Mine
variable {G : Gd} {hd : Bool} {b : Nat} {sc : Sc}
theorem evs_length : ∀ {ms : List EM} {ρ : List V} {H H' : Hp} {vs : List V}, evs ms ρ H = some (vs, H') → vs.length = ms.length
  | [], _, _, _, _, e => by cases e; rfl
  | m :: ms, ρ, H, H', vs, e => by
    refine bind2 e fun v H1 q1 q2 => ?_
    clear e
    refine bind2 q2 fun vs' H2 q3 q4 => ?_
    clear q2
    cases q4
    simp [evs_length q3]
theorem ref_list {es : List Expr} {ms : List EM} {pos : Pos} (hz : ms.length ≤ szl) (h : RefEs G hd b sc es ms) : RefE G hd b sc (.List es pos) (eList ms) := by
  intro A env s π H ρ v H' Q Er R X L q k
  refine bind2 q fun vs H1 q1 q2 => ?_
  clear q
  replace k := KE.cast k q2
  have hl := evs_length q1
  refine List_ (ref_spliced h R X L q1 fun vs' π1 h1 t1 r1 S1 => ?_)
  have hv := r1.length
  unfold szl at hz
  exact wpAny_newObj_type (k _ _ _ _ (.new S1.rel.len) (S1.trans (.newList S1.rel r1 (by unfold szl; lia)))) (by show vs'.toArray.size ≤ sizeLine; simp only [List.size_toArray, sizeLine]; lia)
theorem ref_tup {es : List Expr} {ms : List EM} {n : Nat} {pos : Pos} (hz : ms.length ≤ szl) (h : RefEs G hd b sc es ms) : RefE G hd b sc (.Tuple es n pos) (eTup ms) := by
  intro A env s π H ρ v H' Q Er R X L q k
  refine bind2 q fun vs H1 q1 q2 => ?_
  clear q
  replace k := KE.cast k q2
  have hl := evs_length q1
  refine Tuple_ (ref_spliced h R X L q1 fun vs' π1 h1 t1 r1 S1 => ?_)
  have hv := r1.length
  unfold szl at hz
  exact wpAny_newObj_type (k _ _ _ _ (.new S1.rel.len) (S1.trans (.newTup S1.rel r1 (by unfold szl; lia)))) (by show vs'.toArray.size ≤ sizeLine; simp only [List.size_toArray, sizeLine]; lia)
theorem Rel.notSys {π : List Addr} {H : Hp} {h : Heap} (L : Rel G π H h) : (h.objs.size == sysModules) = false := by
  refine x2_2 (G.big) fun x o hx e => ?_
  have := Heap.lt_size (L.stays x o e)
  simp only [beq_eq_false_iff_ne, ne_eq]
  intro q
  exact Nat.lt_irrefl _ (Nat.lt_of_le_of_lt hx (q ▸ this))
theorem ref_dict0 {pos : Pos} : RefE G hd b sc (.Dict [] [] pos) eDict0 := by
  intro A env s π H ρ v H' Q Er R X L q k
  replace k := KE.cast k q
  refine wpAny_Dict_empty (k _ (π ++ [s.heap.objs.size]) _ s.toks (.new L.len) ?_)
  have e := Heap.get?_push_size s.heap (o := { cls := .type "dict", data := .dict #[] }) rfl
  exact .push (o := .dict []) L (fun b o e => Heap.get?_push_of_some _ e) (get_fresh _) ⟨_, e⟩ (.dict (kvs := []) (by rw [← L.len]; simp) (Heap.DictOf.new _) L.notSys (Nat.le_refl _) fun k => .none) (by simp [olen]) nofun
theorem idx_seq {n : Nat} {i : Int} {j : Nat} (h : idx n i = some j) (hj : j < n) : seqIndex? i n = some j := by
  unfold idx at h
  unfold seqIndex?
  split at h
  · rename_i h0
    cases h
    have h1 : ¬ i < 0 := by lia
    have h2 : i < (n : Int) := by lia
    simp [h1, h0, h2]
  · rename_i h0
    split at h
    · rename_i h3
      cases h
      have h1 : i < 0 := by lia
      have h2 : i + (n : Int) < n := by lia
      simp [h1, h3, h2]
    · cases h
theorem wp_getItem {A : Around} {s : Shared} {π : List Addr} {H : Hp} {x y v : V} {x' y' : Value} {Q : Value → Shared → Prop} {Er : Value → Shared → Prop} (L : Rel G π H s.heap) (rx : VR G.B π x x') (ry : VR G.B π y y')
    (e : getV x y H = some v) (k : ∀ v' tk, VR G.B π v v' → Q v' { s with toks := tk }) :
    ∃ a i t T id, x' = .ref a ∧ y' = .int i t ∧ s.TypeIs x' T ∧ typeLookup (.type T) (Str.ofString "__getitem__") = pure (some (.builtin id)) ∧ wpAny (model G.prog G.w) A (getItem x' y') Q Er s := by
  unfold getV at e
  split at e
  · rename_i is i
    split at e
    · rename_i h0
      refine x1_2 (Option.map_eq_some_iff.mp e) fun j e1 e2 => ?_
      subst e2
      cases ry with | int _ t => ?_
      cases rx with | scr hl hi hz => ?_
      rename_i a vs
      have hl' : s.heap.IsList a vs.toArray := let ⟨o, ho, r⟩ := hl; ⟨o, L.stays _ _ ho, r⟩
      have hlt := (List.getElem?_eq_some_iff.mp e1).1
      obtain ⟨t', ht⟩ : ∃ t', vs[i.toNat]? = some (.int j t') := by
        clear e hl hl' hz hlt
        generalize i.toNat = n at e1
        clear h0
        induction hi generalizing n with
        | nil => simp at e1
        | cons m u _ ih =>
          cases n with
          | zero => simp at e1; subst e1; exact ⟨u, rfl⟩
          | succ n => simp at e1; simpa using ih n e1
      refine ⟨a, i, t, "list", _, rfl, rfl, hl'.typeIs, slot_list_getitem.lookup, ?_⟩
      exact wpAny_getItem_list hl' h0 (by unfold lim at hz; lia) (by simpa using ht) (k _ s.toks (.int j t'))
    · cases e
  · rename_i n i
    cases ry with | int _ t => ?_
    cases rx with | ref er => ?_
    rename_i a
    split at e
    · rename_i vs hn
      refine x1_2 (Option.bind_eq_some_iff.mp e) fun j e1 e2 => ?_
      have hz := L.size _ _ hn
      simp only [olen, szl] at hz
      cases L.obj _ _ hn with | list e1' l r' => ?_
      rename_i ws
      rw [er] at e1'; cases e1'
      refine x1_2 (r'.get e2) fun w' hw rw' => ?_
      have hl := r'.length
      have hlt := (List.getElem?_eq_some_iff.mp e2).1
      refine ⟨a, i, t, "list", _, rfl, rfl, (plain_isList l).typeIs, slot_list_getitem.lookup, ?_⟩
      unfold idx at e1
      split at e1
      · rename_i h0
        cases e1
        exact wpAny_getItem_list (plain_isList l) h0 (by lia) (by simpa using hw) (k _ s.toks rw')
      · rename_i h0
        split at e1
        · cases e1
          refine wpAny_getItem_list_neg (plain_isList l) (by lia) (by simp only [List.size_toArray]; lia) (by lia) ?_ (k _ s.toks rw')
          simp only [List.size_toArray, ← hl]
          simpa using hw
        · cases e1
    · rename_i vs hn
      refine x1_2 (Option.bind_eq_some_iff.mp e) fun j e1 e2 => ?_
      have hz := L.size _ _ hn
      simp only [olen, szl] at hz
      cases L.obj _ _ hn with | tup e1' l r' => ?_
      rename_i ws
      rw [er] at e1'; cases e1'
      refine x1_2 (r'.get e2) fun w' hw rw' => ?_
      have hl := r'.length
      have hlt := (List.getElem?_eq_some_iff.mp e2).1
      have hi : -(2 ^ 63) ≤ i ∧ i < 2 ^ 63 := by
        unfold idx at e1
        split at e1
        · cases e1; lia
        · split at e1
          · lia
          · cases e1
      refine ⟨a, i, t, "tuple", _, rfl, rfl, l.typeIs, slot_tuple_getitem.lookup, ?_⟩
      exact getItem_tuple l hi.1 hi.2 (by simp only [List.size_toArray, ← hl]; exact idx_seq e1 hlt) (by simpa using hw) (k _ s.toks rw')
    · rename_i es hn
      cases L.obj _ _ hn with | dict e1' im hsys dl r' => ?_
      rename_i kvs
      rw [er] at e1'; cases e1'
      have := r' i
      rw [e] at this
      generalize hf : valueAt kvs i = fi at this
      cases this with | some rv => ?_
      refine ⟨a, i, t, "dict", _, rfl, rfl, im.typeIs, slot_dict_getitem.lookup, ?_⟩
      exact wpAny_getItem_of (knd := intKind G.prog G.w) (k := i) (by simp [intKind, Value.isInt]) im.mapOf hf (k _ _ rv)
    · cases e
  · cases e
theorem ref_sub {o i : Expr} {mo mi : EM} {pos : Pos} (ho : RefE G hd b sc o mo) (hi : RefE G hd b sc i mi) (hs : ∀ x y, subscripted i false x y = operate [x, y] (getItem x y)) : RefE G hd b sc (.Subscript o i pos) (eSub mo mi) := by
  intro A env s π H ρ v H' Q Er R X L q k
  refine bind2 q fun x H1 q1 q2 => ?_
  clear q
  refine bind2 q2 fun y H2 q3 q4 => ?_
  clear q2
  refine bind1 q4 fun w q5 q6 => ?_
  clear q4
  replace k := KE.cast k q6
  refine Subscript_ (ho A env s π H ρ x H1 _ _ R X L q1 fun x' π1 h1 t1 r1 S1 => ?_)
  refine hi A env _ π1 H1 ρ y _ _ _ R (X.step S1) S1.rel q3 fun y' π2 h2 t2 r2 S2 => ?_
  refine x5_5 (wp_getItem (A := A) (Q := Q) (Er := Er) (s := { s with heap := h2, toks := t2 }) S2.rel (r1.mono S2.pre) r2 q5 (fun v' tk rv => k v' π2 h2 tk rv (S1.trans S2))) fun a j t T id o7 o8 g1 g2 g3 => ?_
  subst o7
  subst o8
  exact tail_any g1 g2 g3 (hs _ _)
theorem listAt_some {x : V} {H : Hp} {vs : List V} (e : listAt x H = some vs) : ∃ n, x = .ref n ∧ H[n]? = some (.list vs) := by
  unfold listAt at e
  split at e
  · rename_i n
    split at e
    · rename_i hn; cases e; exact ⟨n, rfl, hn⟩
    · cases e
  · cases e
theorem ref_copy {o : Expr} {mo : EM} {pos p : Pos} (ho : RefE G hd b sc o mo) : RefE G hd b sc (.Subscript o (.Slice none none none p) pos) (eCopy mo) := by
  intro A env s π H ρ v H' Q Er R X L q k
  refine bind2 q fun x H1 q1 q2 => ?_
  clear q
  refine bind1 q2 fun vs q3 q4 => ?_
  clear q2
  replace k := KE.cast k q4
  refine x1_2 (listAt_some q3) fun n o10 hn => ?_
  subst o10
  refine Subscript_ (ho A env s π H ρ _ H1 _ _ R X L q1 fun x' π1 h1 t1 r1 S1 => ?_)
  have hz := S1.rel.size _ _ hn
  simp only [olen, szl] at hz
  cases r1 with | ref er => ?_
  rename_i a
  cases S1.rel.obj _ _ hn with | list e1' l r' => ?_
  rename_i ws
  rw [er] at e1'; cases e1'
  have hl := r'.length
  refine wpAny_Slice (wpAny_pure (wpAny_pure (wpAny_pure ?_)))
  have S2 : Step G (frs A) π1 h1 π1 H1 (h1.push { cls := .type "slice", data := .fields #[.none, .none, .none] }) := .ext S1.rel fun b o e => Heap.get?_push_of_some _ e
  have l2 := (plain_isList l).push { cls := .type "slice", data := .fields #[.none, .none, .none] }
  refine tail_any l2.typeIs slot_list_getitem.lookup (wpAny_getItem_list_slice l2 (.new _ _ _ _) .none .none .none (by decide) ?_ (by simp only [List.size_toArray, sizeLine]; lia)) rfl
  rw [slicePick_all]
  exact k _ _ _ _ (.new S2.rel.len) ((S1.trans S2).trans (.newList S2.rel r' (by unfold szl; lia)))
theorem ref_butLast {o : Expr} {mo : EM} {pos p p1 p2 : Pos} {kk : Nat} (ho : RefE G hd b sc o mo) : RefE G hd b sc (.Subscript o (.Slice none (some (.UnaryOp .USub (.Constant (.int 1) kk p1) p2)) none p) pos) (eButLast mo) := by
  intro A env s π H ρ v H' Q Er R X L q k
  refine bind2 q fun x H1 q1 q2 => ?_
  clear q
  refine bind1 q2 fun vs q3 q4 => ?_
  clear q2
  replace k := KE.cast k q4
  refine x1_2 (listAt_some q3) fun n o12 hn => ?_
  subst o12
  refine Subscript_ (ho A env s π H ρ _ H1 _ _ R X L q1 fun x' π1 h1 t1 r1 S1 => ?_)
  have hz := S1.rel.size _ _ hn
  simp only [olen, szl] at hz
  cases r1 with | ref er => ?_
  rename_i a
  cases S1.rel.obj _ _ hn with | list e1' l r' => ?_
  rename_i ws
  rw [er] at e1'; cases e1'
  have hl := r'.length
  refine wpAny_Slice (wpAny_pure ?_)
  refine ref_neg (hd := hd) (b := b) (sc := sc) (m := eInt 1) ref_int A env { s with heap := h1, toks := t1 } π1 H1 ρ (.int (-1)) H1 _ _ R (X.step S1) S1.rel rfl fun v' π2 h2 t2 r2 S2 => ?_
  cases r2 with | int _ tk => ?_
  refine wpAny_pure ?_
  have S3 : Step G (frs A) π2 h2 π2 H1 (h2.push { cls := .type "slice", data := .fields #[.none, .int (-1) tk, .none] }) := .ext S2.rel fun b o e => Heap.get?_push_of_some _ e
  cases S3.rel.obj _ _ hn with | list e3 l3 r3 => ?_
  rename_i a3 ws3
  have hl3 := r3.length
  rw [prefix_get S2.pre er] at e3
  cases e3
  have l2 := plain_isList l3
  refine tail_any l2.typeIs slot_list_getitem.lookup (wpAny_getItem_list_slice l2 (.new _ _ _ _) .none (.int _ _) .none (by decide) ?_ (by simp only [List.size_toArray, sizeLine]; lia)) rfl
  rw [show (some (-1 : Int)) = some (-((1 : Nat) : Int)) from rfl, slicePick_butLast _ 1 (by lia)]
  have : (ws3.toArray.toList.take (ws3.toArray.size - 1)).toArray = ws3.dropLast.toArray := by
    simp [List.dropLast_eq_take]
  rw [this]
  exact k _ _ _ _ (.new S3.rel.len) (((S1.trans S2).trans S3).trans (.newList S3.rel r3.dropLast (by simp only [List.length_dropLast]; unfold szl; lia)))
end Mine
end
section
open PySem PySem.W PyProof.Rows
set_option Elab.async false
set_option linter.unusedVariables false
namespace Mine
variable {G : Gd} {hd : Bool} {b : Nat} {sc : Sc}
theorem isStr_self (n : Str) (t : Tok) : (Value.str n t).isStr n = true := by simp [Value.isStr]
theorem isStr_ne {m n : Str} (t : Tok) (h : m ≠ n) : (Value.str m t).isStr n = false := by simp [Value.isStr, h]
theorem flds_none {ns : List Str} {es : List DictEntry} {ws : List Value} (x : Flds ns es ws) {n : Str} (hn : n ∉ ns) : es.find? (·.key.isStr n) = none ∧ es.any (·.refKey) = false := by
  induction x with
  | nil => exact ⟨rfl, rfl⟩
  | @cons m ns es vs hh t v _ ih =>
    refine x0_2 (ih fun h => hn (List.mem_cons_of_mem _ h)) fun i1 i2 => ?_
    refine ⟨?_, ?_⟩
    · rw [List.find?_cons_of_neg]
      · exact i1
      · simp [isStr_ne t (fun e : m = n => hn (e ▸ List.mem_cons_self))]
    · rw [List.any_cons, i2]; rfl
theorem flds_some {ns : List Str} {es : List DictEntry} {ws : List Value} (x : Flds ns es ws) (hnd : ns.Nodup) : ∀ {i : Nat} {n : Str}, ns[i]? = some n → ∃ e v, es.find? (·.key.isStr n) = some e ∧ e.val = v ∧ ws[i]? = some v := by
  induction x with
  | nil => intro i n e; simp at e
  | @cons m ns es vs hh t v _ ih =>
    intro i n e
    refine x0_2 (List.nodup_cons.mp hnd) fun h1 h2 => ?_
    cases i with
    | zero =>
      simp at e; subst e
      exact ⟨_, v, by rw [List.find?_cons_of_pos]; exact isStr_self _ _, rfl, rfl⟩
    | succ i =>
      simp at e
      have : m ≠ n := fun q => h1 (q ▸ List.mem_of_getElem? e)
      refine x2_3 (ih h2 e) fun e' v' a1 a2 a3 => ?_
      exact ⟨e', v', by rw [List.find?_cons_of_neg (by simp [isStr_ne t this])]; exact a1, a2, by simpa using a3⟩
theorem getL_none {ns : List Str} {es : List DictEntry} {ws : List Value} (x : Flds ns es ws) {n : Str} (hn : n ∉ ns) : getL n es = some none := by
  refine x0_2 (flds_none x hn) fun a c => ?_
  unfold getL
  rw [a, c]; rfl
theorem getL_some {ns : List Str} {es : List DictEntry} {ws : List Value} (x : Flds ns es ws) (hnd : ns.Nodup) {i : Nat} {n : Str} (e : ns[i]? = some n) : ∃ v, getL n es = some (some v) ∧ ws[i]? = some v := by
  refine x2_3 (flds_some x hnd e) fun e' v a1 a2 a3 => ?_
  refine ⟨v, ?_, a3⟩
  unfold getL
  rw [a1, ← a2]
structure ClsOk (G : Gd) (c : Nat) : Prop where
  get : plainGet G.K (G.cls c) "" = true
  dict : hasDictIn G.K (G.cls c) = true
  nodup : (G.flds c).Nodup
theorem VR.handed {B : Heap} {π : List Addr} {v : V} {v' : Value} (r : VR B π v v') : handedIn v' = true := by cases r <;> rfl
theorem wp_attr {A : Around} {s : Shared} {π : List Addr} {H : Hp} {c k n : Nat} {fs : List V} {v : V} {x' : Value} {name : Str} {attr : Option Value} {Q : Value → Shared → Prop} {Er : Value → Shared → Prop} (L : Rel G π H s.heap) (C : ClsOk G c)
    (rx : VR G.B π (.ref n) x') (hn : H[n]? = some (.inst c fs)) (hv : fs[k]? = some v) (hname : (G.flds c)[k]? = some name) (ha : findIn G.K (.ref (G.cls c)) name = some attr) (hg : noGet G.K attr = true)
    (h : ∀ v', VR G.B π v v' → Q v' { s with toks := s.toks + 1 }) : wpAny (model G.prog G.w) A (getAttr x' name true) Q Er s := by
  cases rx with | ref er => ?_
  cases L.obj _ _ hn with | inst e0 e e' a1 a2 a3 a4 a5 f r => ?_
  rename_i a a' dx ox es ws k' m
  rw [er] at e; cases e
  refine x1_2 (r.get hv) fun w' hw rw' => ?_
  refine x1_2 (getL_some f (C.nodup.sublist (List.take_sublist _ _)) (i := k) (n := name) (by rw [List.getElem?_take_of_lt (List.getElem?_eq_some_iff.mp hv).1]; exact hname)) fun v'' hg2 hw' => ?_
  rw [hw] at hw'; cases hw'
  have I : InstAt s.heap a ox (G.cls c) (some (dictOf es k')) := ⟨a1, a2, a3, by rw [a4]; exact a5⟩
  exact get_value (G.X.keeps L.stays) I (plainGet_of C.get).1 (findObj_own C.dict ha hg hg2) rw'.handed (h _ rw')
noncomputable def AForm (e : Expr) (attr : Str) (pos : Pos) : Prop := ∀ env, eval (.Attribute e attr pos) env = (do
  let o ← eval e env
  standAt pos.atName
  let r ← holding [o] (getAttr o attr true)
  letTemporaryGo e o r
  pure r)
theorem ref_attr {e : Expr} {m : EM} {c k : Nat} {name : Str} {attr : Option Value} {pos : Pos} (he : RefE G hd b sc e m) (C : ClsOk G c) (hname : (G.flds c)[k]? = some name) (ha : findIn G.K (.ref (G.cls c)) name = some attr) (hg : noGet G.K attr = true) (hf : AForm e name pos) :
    RefE G hd b sc (.Attribute e name pos) (eAttr c k m) := by
  intro A env s π H ρ v H' Q Er R X L q k
  refine bind2 q fun x H1 q1 q2 => ?_
  clear q
  dsimp only at q2
  split at q2
  · rename_i n
    split at q2
    · rename_i c' fs hn
      split at q2
      · rename_i hc
        subst hc
        refine x1_2 (Option.map_eq_some_iff.mp q2) fun w q3 q4 => ?_
        cases q4
        refine Attribute_any_ (he A env s π H ρ _ _ _ _ R X L q1 fun x' π1 h1 t1 r1 S1 => ?_) (hf env)
        exact wp_attr S1.rel C r1 hn q3 hname ha hg fun v' rv => k _ _ _ _ rv S1
      · cases q2
    · cases q2
  · cases q2
structure Fly (G : Gd) (c : Nat) (e : Addr) (π' : List Addr) (h₀ h' : Heap) : Prop where
  new : h₀.get? e = none
  out : e ∉ π'
  there : ∃ oe vs, h'.get? e = some oe ∧ oe.cls = .ref (G.exc c) ∧ oe.data = .fields vs ∧
    (vs[1]? = some .none ∨ ∃ T oT ts x, vs[1]? = some (.ref T) ∧ T ≠ e ∧ h₀.get? T = none ∧ T ∉ π' ∧ h'.get? T = some oT ∧ oT.data = .fields ts ∧ ts[3]? = some x)
noncomputable def FramesOk (G : Gd) (A : Around) (h : Heap) (π : List Addr) : Prop := ∃ l, A.frames = some l ∧ h.FunFrames G.B l ∧ ∀ b ∈ l.filterMap (·.frame), b ∉ π
noncomputable def KF (G : Gd) (A : Around) (s : Shared) (π : List Addr) (r : FR) (H' : Hp) (R : Result → Shared → Prop) : Prop :=
  ∀ v v' π' h' tk', r = .ret v → VR G.B π' v v' → Step G (frs A) π s.heap π' H' h' → R (.ok (.ret v')) { s with heap := h', toks := tk' }
noncomputable def KG (G : Gd) (A : Around) (s : Shared) (π : List Addr) (r : FR) (H' : Hp) (R : Result → Shared → Prop) : Prop :=
  ∀ c e π' h' tk', r = .exc c → Fly G c e π' s.heap h' → Step G (frs A) π s.heap π' H' h' → R (.error (.ref e)) { s with heap := h', toks := tk' }
noncomputable def RefF (G : Gd) (hd : Bool) (b : Nat) (f : Addr) (m : FM) : Prop :=
  ∀ (A : Around) (s : Shared) (π : List Addr) (H : Hp) (vs : List V) (vs' : List Value) (r : FR) (H' : Hp) (R : Result → Shared → Prop),
    Room hd b A → FramesOk G A s.heap π → Rel G π H s.heap → VRs G.B π vs vs' → m vs H = some (r, H') →
    KF G A s π r H' R → KG G A s π r H' R →
    codeAny (model G.prog G.w) A (.call (.ref f) ⟨vs', []⟩) R s
theorem RefF.le {b' : Nat} {f : Addr} {m : FM} (x : RefF G hd b' f m) (h : b' ≤ b) : RefF G hd b f m :=
  fun A s π H vs vs' r H' R hR => x A s π H vs vs' r H' R (hR.le h)
theorem star_none {es : List Expr} {ms : List EM} (x : RefEs G hd b sc es ms) (env : Env) (pos : Pos) : ((backTo pos (starEach es env)).any fun x => x.1) = false := by
  induction x with
  | nil => rfl
  | cons _ h _ ih => rw [h]; exact ih
theorem wp_callWith {A : Around} {env : Env} {s : Shared} {π : List Addr} {H : Hp} {ρ : List V} {es : List Expr} {ms : List EM} {vs : List V} {H' : Hp} {f : Addr} {first : List Value} {pos : Pos} {Q : Value → Shared → Prop} {Er : Value → Shared → Prop}
    (h : RefEs G hd b sc es ms) (hf : isFn G.K (.ref f) = true) (hff : ∃ oc od fd sl, G.K.lookup f = some ⟨oc, od, .func fd, sl⟩) (R : Room hd b A) (X : EnvE G sc A env s.heap π ρ) (L : Rel G π H s.heap) (q : evs ms ρ H = some (vs, H'))
    (k : ∀ vs' π' h' tk', VRs G.B π' vs vs' → Step G (frs A) π s.heap π' H' h' →
      codeAny (model G.prog G.w) A (.call (.ref f) ⟨first ++ vs', []⟩) (fun r s' => match r with | .ok (.ret v) => Q v s' | .ok _ => False | .error e => Er e s') { s with heap := h', toks := tk' }) :
    wpAny (model G.prog G.w) A (callWith pos (.ref f) first (backTo pos (starEach es env)) []) Q Er s := by
  refine x4_1 hff fun oc od fd sl hK => ?_
  clear hff
  have at_ : ∀ {h : Heap}, G.B.StaysIn h → FnAt f h := fun st => ⟨oc, od, fd, sl, st _ _ (G.X _ _ hK)⟩
  cases h with
  | nil =>
    cases q
    exact callWith_F0 (at_ L.stays) (wpAny_call (k [] π s.heap s.toks .nil (.refl L)))
  | @cons e m es ms h1 h2 h3 =>
    refine callWith_F (at_ L.stays) (ref_spliced (.cons h1 h2 h3) R X L q fun vs' π1 h1 t1 r1 S1 => ⟨at_ S1.rel.stays, ?_⟩) (h2 env) (star_none h3 env pos)
    exact wpAny_call (k _ _ _ _ r1 S1)
theorem EnvE.fok {A : Around} {env : Env} {h : Heap} {π : List Addr} {ρ : List V} (X : EnvE G sc A env h π ρ) : FramesOk G A h π := X.frames
theorem ref_call {x : Str} {f : Addr} {es : List Expr} {ms : List EM} {m : FM} {p pos : Pos} (hm : RefF G hd b f m) (h : RefEs G hd b sc es ms)
    (hx : sc.scope.names.lookup x = some .globalImplicit) (hv : nsIn G.K mainGlobals x = some (some (.ref f))) (hd' : (x == ("__debug__" : Str)) = false) (hf : isFn G.K (.ref f) = true) (hff : ∃ oc od fd sl, G.K.lookup f = some ⟨oc, od, .func fd, sl⟩) :
    RefE G hd b sc (.Call (.Name x p) es [] pos) (eCall m ms) := by
  intro A env s π H ρ v H' Q Er R X L q k
  refine bind2 q fun vs H1 q1 q2 => ?_
  clear q
  dsimp only at q2
  split at q2
  · rename_i w H2 hw
    replace k := KE.cast k q2
    refine Call_Name rfl (name_global X L hx hv hd' (wp_callWith h hf hff R X L q1 fun vs' π1 h1 t1 r1 S1 => ?_))
    refine hm A _ π1 H1 vs vs' _ _ _ R (X.step S1).fok S1.rel r1 hw (fun u v' π2 h2 t2 e ru S2 => ?_) fun c e π2 h2 t2 e' _ _ => by cases e'
    cases e
    exact k _ _ _ _ ru (S1.trans S2)
  · cases q2
noncomputable def MForm (o : Expr) (name : Str) (apos : Pos) (args : List Expr) (pos : Pos) : Prop := ∀ env, ∃ pl, eval (.Call (.Attribute o name apos) args [] pos) env = (do
  let ov ← eval o env
  standAt (Pos.atName apos)
  let fx ← holding [ov] (getMethod ov name pl)
  match fx with
  | (f, first) => callWith pos f first (backTo pos (starEach args env)) [])
theorem wp_method {A : Around} {s : Shared} {π : List Addr} {H : Hp} {c n : Nat} {fs : List V} {x' : Value} {name : Str} {f : Addr} {pl : Sem Bool} {Q : Value × List Value → Shared → Prop} {Er : Value → Shared → Prop} (L : Rel G π H s.heap) (C : ClsOk G c)
    (rx : VR G.B π (.ref n) x') (hn : H[n]? = some (.inst c fs)) (hname : name ∉ G.flds c) (hf : findIn G.K (.ref (G.cls c)) name = some (some (.ref f))) (ht : isFn G.K (.ref f) = true)
    (h : Q (.ref f, [x']) s) : wpAny (model G.prog G.w) A (getMethod x' name pl) Q Er s := by
  cases rx with | ref er => ?_
  cases L.obj _ _ hn with | inst e0 e e' a1 a2 a3 a4 a5 fl r => ?_
  rename_i a a' dx ox es ws k' m
  rw [er] at e; cases e
  have I : InstAt s.heap a ox (G.cls c) (some (dictOf es k')) := ⟨a1, a2, a3, by rw [a4]; exact a5⟩
  refine method_fn (G.X.keeps L.stays) I (plainGet_of C.get).1 (plainGet_of C.get).2 hf (beq_iff_eq.mp ht) ?_ h
  show (lookIn name (dictOf es k')).map _ = _
  rw [lookIn_dict, getL_none fl fun q => hname (List.mem_of_mem_take q)]; rfl
theorem isInst_some {c : Nat} {x : V} {H : Hp} (h : isInst c x H = true) : ∃ n fs, x = .ref n ∧ H[n]? = some (.inst c fs) := by
  unfold isInst at h
  split at h
  · rename_i n
    split at h
    · rename_i c' fs hn
      exact ⟨n, fs, rfl, by rw [hn, beq_iff_eq.mp h]⟩
    · cases h
  · cases h
theorem ref_meth {o : Expr} {mo : EM} {c : Nat} {name : Str} {f : Addr} {es : List Expr} {ms : List EM} {m : FM} {apos pos : Pos} (hm : RefF G hd b f m) (ho : RefE G hd b sc o mo) (h : RefEs G hd b sc es ms) (C : ClsOk G c)
    (hname : name ∉ G.flds c) (hfi : findIn G.K (.ref (G.cls c)) name = some (some (.ref f))) (hf : isFn G.K (.ref f) = true) (hff : ∃ oc od fd sl, G.K.lookup f = some ⟨oc, od, .func fd, sl⟩) (hform : MForm o name apos es pos) :
    RefE G hd b sc (.Call (.Attribute o name apos) es [] pos) (eMeth c m mo ms) := by
  intro A env s π H ρ v H' Q Er R X L q k
  refine bind2 q fun x H1 q1 q2 => ?_
  clear q
  dsimp only at q2
  split at q2
  · rename_i hi
    refine x2_2 (isInst_some hi) fun n fs o4 hn => ?_
    subst o4
    refine bind2 q2 fun vs H2 q3 q4 => ?_
    clear q2
    dsimp only at q4
    split at q4
    · rename_i w H3 hw
      replace k := KE.cast k q4
      refine x1_1 (hform env) fun pl hpl => ?_
      refine MethodCall_ (pl := pl) (ho A env s π H ρ _ _ _ _ R X L q1 fun x' π1 h1 t1 r1 S1 => ?_) hpl
      refine wp_method S1.rel C r1 hn hname hfi hf ?_
      refine wp_callWith h hf hff R (X.step S1) S1.rel q3 fun vs' π2 h2 t2 r2 S2 => ?_
      refine hm A _ π2 H2 (_ :: vs) (x' :: vs') _ _ _ R ((X.step S1).step S2).fok S2.rel (.cons (r1.mono S2.pre) r2) hw (fun u v' π3 h3 t3 e ru S3 => ?_) fun c e π3 h3 t3 e' _ _ => by cases e'
      cases e
      exact k _ _ _ _ ru ((S1.trans S2).trans S3)
    · cases q4
  · cases q2
end Mine
end
section
open PySem PySem.W PyProof.Rows
set_option Elab.async false
set_option linter.unusedVariables false
namespace Mine
variable {G : Gd} {hd : Bool} {b : Nat} {sc : Sc}
structure StepS (G : Gd) (own fr : List Addr) (π : List Addr) (h : Heap) (π' : List Addr) (H' : Hp) (h' : Heap) : Prop where
  pre : π <+: π'
  rel : Rel G π' H' h'
  keep : Keep (own ++ π) fr h h'
  fresh : ∀ a ∈ π', a ∉ π → h.get? a = none
  stays : ∀ a ∈ own, (∃ o, h.get? a = some o) → ∃ o, h'.get? a = some o
section
variable {own fr : List Addr} {π π' π'' : List Addr} {h h' h'' : Heap} {H H' H'' : Hp}
theorem Step.toS (x : Step G fr π h π' H' h') (hn : ∀ a ∈ own, a ∉ π) : StepS G own fr π h π' H' h' where
  pre := x.pre
  rel := x.rel
  keep := ⟨fun b o e hb => x.keep.slots b o e fun q => hb (List.mem_append_right _ q), fun b o e hb => x.keep.exact b o e fun q => hb (List.mem_append_right _ q)⟩
  fresh := x.fresh
  stays := fun a ha ⟨o, e⟩ => let ⟨sl, e'⟩ := x.keep.slots a o e (hn a ha); ⟨_, e'⟩
theorem StepS.trans (x : StepS G own fr π h π' H' h') (y : StepS G own fr π' h' π'' H'' h'') : StepS G own fr π h π'' H'' h'' where
  pre := x.pre.trans y.pre
  rel := y.rel
  keep := by
    have nf : ∀ b o, h.get? b = some o → b ∉ own ++ π → b ∉ own ++ π' := fun b o e hn hm => by
      rcases List.mem_append.mp hm with hm | hm
      · exact hn (List.mem_append_left _ hm)
      · have := x.fresh b hm fun q => hn (List.mem_append_right _ q)
        rw [this] at e; cases e
    refine ⟨fun b o e hn => ?_, fun b o e hn hf => y.keep.exact b o (x.keep.exact b o e hn hf) (nf b o e hn) hf⟩
    refine x1_1 (x.keep.slots b o e hn) fun sl e1 => ?_
    refine x1_1 (y.keep.slots b _ e1 (nf b o e hn)) fun sl' e2 => ?_
    exact ⟨sl', e2⟩
  fresh := fun a ha hn => by
    by_cases hm : a ∈ π'
    · exact x.fresh a hm hn
    · have := y.fresh a ha hm
      cases q : h.get? a with
      | none => rfl
      | some o =>
        have : ∃ o, h'.get? a = some o := by
          by_cases ho : a ∈ own
          · exact x.stays a ho ⟨o, q⟩
          · refine x1_1 (x.keep.slots a o q fun w => (List.mem_append.mp w).elim ho hn) fun sl e => ?_
            exact ⟨_, e⟩
        refine x1_1 this fun o' e => ?_
        clear this
        have h2 := y.fresh a ha hm
        rw [e] at h2; cases h2
  stays := fun a ha e => y.stays a ha (x.stays a ha e)
end
structure EnvS (G : Gd) (sc : Sc) (A : Around) (env : Env) (h : Heap) (π : List Addr) (ρ : List V) : Prop extends EnvE G sc A env h π ρ where
  ns : ∃ m, h.Ns env.locals m
  frame : env.frame = some env.locals
  top : ∃ outer, A.frames = some (env :: outer)
  cellsOk : ∀ x c, env.cells.lookup x = some c → ∃ v, h.IsCell c v
  apart : env.cells.Pairwise fun x y => x.2 ≠ y.2
  above : ∀ n c, (n, c) ∈ env.cells → env.locals < c
  kinds : ∀ x k, (x, k) ∈ sc.vars → env.kindOf x = some .local ∨ (env.kindOf x = some .cell ∧ ∃ c, env.cells.lookup x = some c)
  names : ∀ x k y j, (x, k) ∈ sc.vars → (y, j) ∈ sc.vars → (k = j ↔ x = y)
theorem Ns.unique {h : Heap} {a : Addr} {m m' : Str → Option Value} (x : h.Ns a m) (y : h.Ns a m') : m = m' := by
  refine x3_4 x fun o es ep ho hd _ hm => ?_
  clear x
  refine x3_4 y fun o' es' ep' ho' hd' _ hm' => ?_
  clear y
  rw [ho] at ho'; cases ho'
  rw [hd] at hd'; cases hd'
  funext n
  rw [← hm n, ← hm' n]
theorem foot_cell {env : Env} {x : Str} {c : Addr} (h : env.cells.lookup x = some c) : c ∈ foot env :=
  List.mem_cons_of_mem _ (List.mem_map.mpr ⟨(x, c), PySem.mem_of_lookup h, rfl⟩)
theorem EnvS.step {A : Around} {env : Env} {fr : List Addr} {h h' : Heap} {π π' : List Addr} {ρ : List V} {H' : Hp} (x : EnvS G sc A env h π ρ) (S : Step G fr π h π' H' h') : EnvS G sc A env h' π' ρ where
  toEnvE := x.toEnvE.step S
  ns := let ⟨m, hm⟩ := x.ns; ⟨m, Ns.slots hm fun o e => S.keep.slots _ o e (x.foots _ List.mem_cons_self).1⟩
  frame := x.frame
  top := x.top
  cellsOk := fun y c hc => let ⟨v, hv⟩ := x.cellsOk y c hc; ⟨v, IsCell.slots hv fun o e => S.keep.slots _ o e (x.foots _ (foot_cell hc)).1⟩
  apart := x.apart
  above := x.above
  kinds := x.kinds
  names := x.names
theorem EnvS.disj {A : Around} {env : Env} {h : Heap} {π : List Addr} {ρ : List V} (x : EnvS G sc A env h π ρ) : ∀ a ∈ foot env, a ∉ π := fun a ha => (x.foots a ha).1
theorem StepS.own {A : Around} {env : Env} {h h' : Heap} {π : List Addr} {ρ : List V} {H : Hp} {fr : List Addr} {a : Addr} (L : Rel G π H h) (x : EnvS G sc A env h π ρ) (ha : a ∈ foot env) (hs : Heap.SameBut a h h') (hh : ∃ o, h'.get? a = some o) :
    StepS G (foot env) fr π h π H h' where
  pre := List.prefix_refl _
  rel := by
    refine x0_3 (x.foots a ha) fun hn hB _ => ?_
    have ne : ∀ b ∈ π, ∀ o, h.get? b = some o → h'.get? b = some o := fun b hb o e => (hs.2 b fun q => hn (q ▸ hb)).trans e
    exact ⟨fun b o e => (hs.2 b fun q => by rw [q, hB] at e; cases e).trans (L.stays b o e), L.len, L.nodup, L.new, fun b hb => let ⟨o, e⟩ := L.here b hb; ⟨o, ne b hb o e⟩, fun n o e => (L.obj n o e).mono (List.prefix_refl _) fun b hb o e => ne b hb o e, L.aux, L.size⟩
  keep := by
    have ne : ∀ b, b ∉ foot env ++ π → ∀ o, h.get? b = some o → h'.get? b = some o := fun b hb o e => (hs.2 b fun q => hb (List.mem_append_left _ (q ▸ ha))).trans e
    exact ⟨fun b o e hb => ⟨o.slots, ne b hb o e⟩, fun b o e hb _ => ne b hb o e⟩
  fresh := fun _ h1 h2 => absurd h1 h2
  stays := fun b hb ⟨o, e⟩ => by
    by_cases q : b = a
    · rw [q]; exact hh
    · exact ⟨o, (hs.2 b q).trans e⟩
theorem frames_own {l : List Env} {h h' : Heap} {a : Addr} {B : Heap} (hl : h.FunFrames B l) (hs : Heap.SameBut a h h') (hh : ∃ o, h'.get? a = some o ∧ ∀ vs, o.data ≠ .fields vs) : h'.FunFrames B l := by
  induction l with
  | nil => trivial
  | cons env rest ih =>
    refine x0_3 hl fun hk o1 hr => ?_
    clear hl
    refine x2_4 o1 fun L o hf hn ho hd => ?_
    clear o1
    refine ⟨hk, ?_, ih hr⟩
    by_cases q : L = a
    · refine x1_2 hh fun o' e n => ?_
      clear hh
      exact ⟨L, o', hf, hn, q ▸ e, n⟩
    · exact ⟨L, o, hf, hn, (hs.2 L q).trans ho, hd⟩
theorem getElem?_set_eq {α : Type} {l : List α} {k j : Nat} {v w : α} (h : (l.set k v)[j]? = some w) : (j = k ∧ w = v) ∨ (j ≠ k ∧ l[j]? = some w) := by
  by_cases q : j = k
  · subst q
    by_cases hlt : j < l.length
    · rw [List.getElem?_set_self hlt] at h; cases h; exact .inl ⟨rfl, rfl⟩
    · have : (l.set j v)[j]? = none := by
        rw [List.getElem?_eq_none_iff]; simp; omega
      rw [this] at h; cases h
  · rw [List.getElem?_set_ne (Ne.symm q)] at h
    exact .inr ⟨q, h⟩
theorem wp_store {A : Around} {env : Env} {s : Shared} {π : List Addr} {ρ : List V} {H : Hp} {x : Str} {n : Nat} {v : V} {v' : Value} {Q : Unit → Shared → Prop} {Er : Value → Shared → Prop} (X : EnvS G sc A env s.heap π ρ) (L : Rel G π H s.heap) (hx : (x, n) ∈ sc.vars) (r : VR G.B π v v')
    (k : ∀ h' tk', StepS G (foot env) (frs A) π s.heap π H h' → EnvS G sc A env h' π (ρ.set n v) → Q () { s with heap := h', toks := tk' }) :
    wpAny (model G.prog G.w) A (storeName env x v') Q Er s := by
  have hk : env.scope.kind = .function := by rw [X.scope]; exact X.kind
  refine x1_1 (X.ns) fun m hm => ?_
  have fin : ∀ (a : Addr) (h' : Heap), a ∈ foot env → Heap.SameBut a s.heap h' → (∃ o, h'.get? a = some o ∧ ∀ vs, o.data ≠ .fields vs) → (∃ m, h'.Ns env.locals m) → (∀ y c, env.cells.lookup y = some c → ∃ v, h'.IsCell c v) → Reads1 env h' x v' →
      (∀ y w, y ≠ x → Reads1 env s.heap y w → Reads1 env h' y w) → StepS G (foot env) (frs A) π s.heap π H h' ∧ EnvS G sc A env h' π (ρ.set n v) := by
    intro a h' ha hs hh hns hcs hrd hot
    refine x1_2 hh fun o' ho' hd' => ?_
    clear hh
    refine ⟨.own L X ha hs ⟨o', ho'⟩, ⟨X.scope, X.kind, X.glob, X.blt, ?_, ?_, ?_, X.cellsE⟩, hns, X.frame, X.top, hcs, X.apart, X.above, X.kinds, X.names⟩
    · refine x1_3 (X.frames) fun l e hl hn => ?_
      exact ⟨l, e, frames_own hl hs ⟨o', ho', hd'⟩, hn⟩
    · intro y j hy w hw hu
      rcases getElem?_set_eq hw with ⟨rfl, rfl⟩ | ⟨hj, hw⟩
      · have := (X.names y j x j hy hx).mp rfl
        subst this
        exact ⟨v', r, hrd⟩
      · refine x1_2 (X.vars y j hy w hw hu) fun w' rw' rd => ?_
        exact ⟨w', rw', hot y w' (fun q => hj ((X.names y j x n hy hx).mpr q)) rd⟩
    · intro c hc
      refine x0_3 (X.foots c hc) fun h1 h2 o2 => ?_
      refine x1_1 o2 fun o e => ?_
      clear o2
      refine ⟨h1, h2, ?_⟩
      by_cases q : c = a
      · rw [q]; exact ⟨o', ho'⟩
      · exact ⟨o, (hs.2 c q).trans e⟩
  rcases X.kinds x n hx with hl | ⟨hl, c, hc⟩
  · refine wpAny_storeName_local hl hm (fun h' hn hs => ?_) (by rw [hk]; rfl)
    have hne : ∀ y c, env.cells.lookup y = some c → c ≠ env.locals := fun y c hc => Nat.ne_of_gt (X.above y c (PySem.mem_of_lookup hc))
    obtain ⟨S1, X1⟩ := fin env.locals h' List.mem_cons_self hs (let ⟨o, es, ep, ho, hd', _⟩ := hn; ⟨o, ho, fun vs q => by rw [hd'] at q; cases q⟩) ⟨_, hn⟩
      (fun y c hc => let ⟨v, hv⟩ := X.cellsOk y c hc; ⟨v, hv.sameBut hs (hne y c hc)⟩) (.inl ⟨hl, _, hn, by simp⟩) fun y w hy rd => by
        rcases rd with ⟨h1, m2, h2, h3⟩ | ⟨h1, c, h2, h3⟩
        · refine .inl ⟨h1, _, hn, ?_⟩
          simp only [hy, if_false]
          rw [Ns.unique hm h2]; exact h3
        · exact .inr ⟨h1, c, h2, h3.sameBut hs (hne y c h2)⟩
    exact k _ _ S1 X1
  · refine x1_1 (X.cellsOk x c hc) fun v0 hv0 => ?_
    have hLc : env.locals ≠ c := Nat.ne_of_lt (X.above x c (PySem.mem_of_lookup hc))
    refine wpAny_storeName_cell hk hl hc hv0 fun h' hcell hs => ?_
    obtain ⟨S1, X1⟩ := fin c h' (foot_cell hc) hs (let ⟨o, ho, hd'⟩ := hcell; ⟨o, ho, fun vs q => by rw [hd'] at q; cases q⟩) ⟨_, hm.sameBut hs hLc⟩
      (fun y c' hc' => by
        by_cases q : c' = c
        · rw [q]; exact ⟨_, hcell⟩
        · refine x1_1 (X.cellsOk y c' hc') fun v hv => ?_
          exact ⟨v, hv.sameBut hs q⟩) (.inr ⟨.inl hl, c, hc, hcell⟩) fun y w hy rd => by
        rcases rd with ⟨h1, m2, h2, h3⟩ | ⟨h1, c', h2, h3⟩
        · exact .inl ⟨h1, m2, h2.sameBut hs hLc, h3⟩
        · refine .inr ⟨h1, c', h2, h3.sameBut hs fun q => hy ?_⟩
          subst q
          exact name_of_addr X.apart (PySem.mem_of_lookup h2) (PySem.mem_of_lookup hc)
    exact k _ s.toks S1 X1
end Mine
end
section
open PySem PySem.W PyProof.Rows
set_option Elab.async false
set_option linter.unusedVariables false
namespace Mine
variable {G : Gd} {hd : Bool} {b : Nat} {sc : Sc}
inductive FlR (B : Heap) (π : List Addr) : Fl → Flow → Prop where
  | next : FlR B π .next .next
  | brk : FlR B π .brk .brk
  | cont : FlR B π .cont .cont
  | ret {v v'} : VR B π v v' → FlR B π (.ret v) (.ret v')
noncomputable def KS (G : Gd) (sc : Sc) (A : Around) (env : Env) (s : Shared) (π : List Addr) (fl : Fl) (ρ' : List V) (H' : Hp) (Q : Flow → Shared → Prop) : Prop :=
  ∀ fl' π' h' tk', FlR G.B π' fl fl' → StepS G (foot env) (frs A) π s.heap π' H' h' → EnvS G sc A env h' π' ρ' → Q fl' { s with heap := h', toks := tk' }
noncomputable def KX (G : Gd) (sc : Sc) (A : Around) (env : Env) (s : Shared) (π : List Addr) (fl : Fl) (ρ' : List V) (H' : Hp) (Er : Value → Shared → Prop) : Prop :=
  ∀ c e π' h' tk', fl = .exc c → Fly G c e π' s.heap h' → StepS G (foot env) (frs A) π s.heap π' H' h' → EnvS G sc A env h' π' ρ' → Er (.ref e) { s with heap := h', toks := tk' }
noncomputable def RefS (G : Gd) (hd : Bool) (b : Nat) (sc : Sc) (st : Stmt) (m : SM) : Prop :=
  ∀ (A : Around) (env : Env) (s : Shared) (π : List Addr) (H : Hp) (ρ : List V) (fl : Fl) (ρ' : List V) (H' : Hp) (Q : Flow → Shared → Prop) (Er : Value → Shared → Prop),
    Room hd b A → EnvS G sc A env s.heap π ρ → Rel G π H s.heap → m ρ H = some (fl, ρ', H') →
    KS G sc A env s π fl ρ' H' Q → KX G sc A env s π fl ρ' H' Er →
    wpAny (model G.prog G.w) A (exec st env) Q Er s
noncomputable def RefB (G : Gd) (hd : Bool) (b : Nat) (sc : Sc) (st : List Stmt) (m : SM) : Prop :=
  ∀ (A : Around) (env : Env) (s : Shared) (π : List Addr) (H : Hp) (ρ : List V) (fl : Fl) (ρ' : List V) (H' : Hp) (Q : Flow → Shared → Prop) (Er : Value → Shared → Prop),
    Room hd b A → EnvS G sc A env s.heap π ρ → Rel G π H s.heap → m ρ H = some (fl, ρ', H') →
    KS G sc A env s π fl ρ' H' Q → KX G sc A env s π fl ρ' H' Er →
    wpAny (model G.prog G.w) A (execs st env) Q Er s
theorem KS.cast {A : Around} {env : Env} {s : Shared} {π : List Addr} {fl fm : Fl} {ρ' ρ'' : List V} {H' H'' : Hp} {Q : Flow → Shared → Prop} (k : KS G sc A env s π fl ρ' H' Q) (h : some (fm, ρ'', H'') = some (fl, ρ', H')) : KS G sc A env s π fm ρ'' H'' Q := sp2 (P := fun f p => KS G sc A env s π f p.1 p.2 Q) k h
theorem KX.cast {A : Around} {env : Env} {s : Shared} {π : List Addr} {fl fm : Fl} {ρ' ρ'' : List V} {H' H'' : Hp} {Q : Value → Shared → Prop} (k : KX G sc A env s π fl ρ' H' Q) (h : some (fm, ρ'', H'') = some (fl, ρ', H')) : KX G sc A env s π fm ρ'' H'' Q := sp2 (P := fun f p => KX G sc A env s π f p.1 p.2 Q) k h
theorem StepS.refl {own fr : List Addr} {π : List Addr} {H : Hp} {h : Heap} (L : Rel G π H h) : StepS G own fr π h π H h :=
  ⟨List.prefix_refl _, L, ⟨fun b o e _ => ⟨o.slots, e⟩, fun b o e _ _ => e⟩, fun _ h1 h2 => absurd h1 h2, fun _ _ e => e⟩
theorem StepS.back {own fr : List Addr} {π π' : List Addr} {h h' : Heap} {H' : Hp} {a : Addr} (S : StepS G own fr π h π' H' h') (e : h'.get? a = none) (hn : a ∉ π) : h.get? a = none := by
  cases q : h.get? a with
  | none => rfl
  | some o =>
    by_cases ho : a ∈ own
    · refine x1_1 (S.stays a ho ⟨o, q⟩) fun o' e' => ?_
      rw [e] at e'; cases e'
    · refine x1_1 (S.keep.slots a o q fun w => (List.mem_append.mp w).elim ho hn) fun sl e' => ?_
      rw [e] at e'; cases e'
theorem Fly.back {own fr : List Addr} {c : Nat} {e : Addr} {π π' π'' : List Addr} {h h' h'' : Heap} {H' : Hp} (F : Fly G c e π'' h' h'') (S : StepS G own fr π h π' H' h') (p : π <+: π'') : Fly G c e π'' h h'' := by
  have sub : ∀ a, a ∉ π'' → a ∉ π := fun a hn hm => hn (p.subset hm)
  obtain ⟨n, o, oe, vs, a1, a2, a3, a4⟩ := F
  refine ⟨S.back n (sub e o), o, oe, vs, a1, a2, a3, ?_⟩
  rcases a4 with a4 | ⟨T, oT, ts, x, b1, b2, b3, b4, b5⟩
  · exact .inl a4
  · exact .inr ⟨T, oT, ts, x, b1, b2, S.back b3 (sub T b4), b4, b5⟩
theorem ref_nil : RefB G hd b sc [] sPass := by
  intro A env s π H ρ fl ρ' H' Q Er R X L q k kx
  (replace k := KS.cast k q; replace kx := KX.cast kx q)
  exact wpAny_execs_nil (k .next π s.heap s.toks .next (.refl L) X)
theorem ref_one {st : Stmt} {m : SM} (h : RefS G hd b sc st m) : RefB G hd b sc [st] m := by
  intro A env s π H ρ fl ρ' H' Q Er R X L q k kx
  refine wpAny_execs_cons (h A env s π H ρ fl ρ' H' _ _ R X L q (fun fl' π' h' tk' rf S X' => ?_) kx)
  cases rf with
  | next => exact wpAny_execs_nil (k _ _ _ _ .next S X')
  | brk => exact k _ _ _ _ .brk S X'
  | cont => exact k _ _ _ _ .cont S X'
  | ret r => exact k _ _ _ _ (.ret r) S X'
theorem ref_seq {st : Stmt} {rest : List Stmt} {m n : SM} (h : RefS G hd b sc st m) (h' : RefB G hd b sc rest n) : RefB G hd b sc (st :: rest) (sSeq m n) := by
  intro A env s π H ρ fl ρ' H' Q Er R X L q k kx
  refine bind3 q fun f1 ρ1 H1 q1 q2 => ?_
  clear q
  dsimp only at q2
  refine wpAny_execs_cons (h A env s π H ρ f1 ρ1 H1 _ _ R X L q1 (fun fl' π1 h1 t1 rf S1 X1 => ?_) fun c e π1 h1 t1 e1 F S1 X1 => ?_)
  · cases rf with
    | next =>
      exact h' A env _ π1 H1 ρ1 fl ρ' H' _ _ R X1 S1.rel q2 (fun fl2 π2 h2 t2 rf2 S2 X2 => k _ _ _ _ rf2 (S1.trans S2) X2)
        fun c e π2 h2 t2 e2 F S2 X2 => kx c e _ _ _ e2 (F.back S1 (S1.pre.trans S2.pre)) (S1.trans S2) X2
    | brk => cases q2; exact k _ _ _ _ .brk S1 X1
    | cont => cases q2; exact k _ _ _ _ .cont S1 X1
    | ret r => cases q2; exact k _ _ _ _ (.ret r) S1 X1
  · subst e1
    (replace k := KS.cast k q2; replace kx := KX.cast kx q2)
    exact kx c e _ _ _ rfl F S1 X1
theorem sref_assign {x : Str} {n : Nat} {p pos : Pos} {e : Expr} {m : EM} (he : RefE G hd b sc e m) (hx : (x, n) ∈ sc.vars) (hs : ∀ env : Env, env.scope = sc.scope → swapsWith e (some (.Name x p)) pos.line env = pure false) :
    RefS G hd b sc (.Assign [.Name x p] e pos) (sAssign n m) := by
  intro A env s π H ρ fl ρ' H' Q Er R X L q k kx
  refine bind2 q fun v H1 q1 q2 => ?_
  clear q
  (replace k := KS.cast k q2; replace kx := KX.cast kx q2)
  refine wpAny_Assign_Name (he A env s π H ρ _ _ _ _ R X.toEnvE L q1 fun v' π1 h1 t1 r1 S1 => ?_) (hs env X.scope)
  exact wp_store (s := { s with heap := h1, toks := t1 }) (X.step S1) S1.rel hx r1 fun h2 t2 S2 X2 => k _ _ _ _ .next ((S1.toS X.disj).trans S2) X2
theorem IsL.same {h : Heap} {l : Addr} {items : Array Value} {n : Nat} (x : IsL h l items n) (f : Array Value → Array Value) : (h.update l (Obj.mapSeq f)).PlainList l (f items) := ⟨_, IsL.update x f⟩
theorem setItem_plain {A : Around} {s : Shared} {l : Addr} {items : Array Value} {n : Nat} {k : Int} {t : Tok} {v : Value} {Q : Unit → Shared → Prop} {Er : Value → Shared → Prop} (hl : IsL s.heap l items n) (h0 : 0 ≤ k) (hfit : k < 2 ^ 63) (hn : k < items.size)
    (hQ : Q () { s with heap := s.heap.update l (Obj.mapSeq (·.setIfInBounds k.toNat v)) }) : wpAny (model G.prog G.w) A (setItem (.ref l) (.int k t) v) Q Er s := by
  have hl' : s.heap.IsList l items := ⟨_, hl, rfl, n, rfl⟩
  unfold setItem
  refine wpAny_holding ?_
  refine wpAny_bind (wpAny_sequenceKey hl'.typeIs (by decide) ?_)
  refine wpAny_bind (wpAny_callSpecial?_slot (name := Str.ofString "__setitem__") hl'.typeIs slot_list_setitem (wpAny_call_entry slot_list_setitem hl'.typeIs entry_list_setitem ?_ (args_list_setitem _ _ _)))
  show wpAny _ _ (Builtin.List.listSubscript? (.int k t) >>= _) _ _ s
  refine wpAny_bind (wpAny_listSubscript_int (fitsIndex_of h0 hfit) ?_)
  clear hfit
  refine x1_1 (Int.eq_ofNat_of_zero_le h0) fun j o3 => ?_
  subst o3
  have hj : j < items.size := by omega
  show wpAny _ _ ((seqItemAt l j >>= fun r => pure (r.map (j, ·))) >>= _) _ _ s
  refine wpAny_bind (wpAny_bind (wpAny_seqItemAt hl rfl (wpAny_pure ?_)))
  rw [Array.getElem?_eq_getElem hj]
  refine wpAny_bind (wpAny_setSeqItemAt hl rfl ?_)
  first
    | exact wpAny_bind (wpAny_pure (wpAny_pure ⟨.none, rfl, wpAny_pure hQ⟩))
    | exact wpAny_pure ⟨.none, rfl, wpAny_pure hQ⟩
theorem valueAt_stored (kvs : List (Int × Value)) (k : Int) (v : Value) (j : Int) : valueAt (stored kvs k v) j = if j = k then some v else valueAt kvs j := by
  unfold stored
  split
  · rename_i h
    induction kvs with
    | nil => simp at h
    | cons p r ih =>
      obtain ⟨a, w⟩ := p
      simp only [List.map_cons]
      by_cases ha : a = k
      · subst ha
        by_cases hj : j = a
        · subst hj
          simp [valueAt]
        · have hj' : ¬ a = j := fun q => hj q.symm
          simp only [valueAt, if_true, List.find?_cons, hj', hj, decide_false, if_false]
          clear ih h
          induction r with
          | nil => rfl
          | cons p r ih =>
            obtain ⟨c, u⟩ := p
            simp only [List.map_cons, List.find?_cons]
            by_cases hc : c = a
            · subst hc
              simp only [if_true, hj', decide_false]; exact ih
            · simp only [hc, if_false]
              by_cases hcj : c = j
              · simp [hcj]
              · simp only [hcj, decide_false]; exact ih
      · have h' : (r.any fun kv => decide (kv.1 = k)) = true := by simpa [ha] using h
        have ih := ih h'
        simp only [valueAt, ha, if_false, List.find?_cons] at ih ⊢
        by_cases haj : a = j
        · subst haj; simp [ha]
        · simp only [haj, decide_false]; exact ih
  · rename_i h
    simp only [valueAt]
    rw [List.find?_append]
    by_cases hj : j = k
    · subst hj
      have : (kvs.find? fun kv => decide (kv.1 = j)) = none := by
        rw [List.find?_eq_none]
        intro x hx hh
        exact h (List.any_eq_true.mpr ⟨x, hx, hh⟩)
      rw [this]; simp
    · have : ¬ k = j := fun q => hj q.symm
      simp [this, hj]
theorem wp_setItem {A : Around} {s : Shared} {π : List Addr} {H H' : Hp} {x y v : V} {x' y' v' : Value} {Q : Unit → Shared → Prop} {Er : Value → Shared → Prop} (L : Rel G π H s.heap) (rx : VR G.B π x x') (ry : VR G.B π y y') (rv : VR G.B π v v')
    (e : setV x y v H = some H') (k : ∀ h' tk', Step G (frs A) π s.heap π H' h' → Q () { s with heap := h', toks := tk' }) : wpAny (model G.prog G.w) A (setItem x' y' v') Q Er s := by
  unfold setV at e
  split at e
  · rename_i n i
    cases ry with | int _ t => ?_
    cases rx with | ref er => ?_
    rename_i a
    split at e
    · rename_i vs hn
      split at e
      · rename_i hc
        cases e
        have hz := L.size _ _ hn
        simp only [olen, szl] at hz
        cases L.obj _ _ hn with | list e1' l r' => ?_
        rename_i ws
        rw [er] at e1'; cases e1'
        have hl := r'.length
        refine x1_1 l fun m l => ?_
        have hx := IsL.same l (·.setIfInBounds i.toNat v')
        refine setItem_plain l hc.1 (by omega) (by simp only [List.size_toArray]; omega) (k _ s.toks (.upd L er (Heap.SameBut.update ..) (let ⟨_, q⟩ := hx; ⟨_, q⟩) hn (.inl ⟨vs, rfl⟩) (.list (ws := ws.set i.toNat v') er ?_ (r'.set rv _)) (by simp only [olen, List.length_set]; unfold szl; omega) nofun))
        simpa using hx
      · cases e
    · rename_i es hn
      split at e
      · rename_i hc
        cases e
        cases L.obj _ _ hn with | dict e1' im hsys dl r' => ?_
        rename_i kvs
        rw [er] at e1'; cases e1'
        refine wpAny_setItem_pairs (knd := intKind G.prog G.w) (k := i) (by simp [intKind, Value.isInt]) im (fun h' im' hs => ?_) (by unfold lim at hc; unfold sizeLine; omega)
        refine k _ _ (.upd L er hs (let ⟨ob, x1, _⟩ := Heap.dictOf_iff.mp im'; ⟨ob, x1⟩) hn (.inr ⟨es, rfl⟩) (.dict er im' hsys ?_ fun j => ?_) (by simp [olen]) nofun)
        · have := stored_length_le kvs i v'
          simp only [List.length_cons]; omega
        · rw [valueAt_stored]
          by_cases h : j = i
          · subst h
            simp only [getD, if_true]; exact .some rv
          · simp only [getD, Ne.symm h, h, if_false]; exact r' j
      · cases e
    · cases e
  · cases e
theorem sref_setItem {o i e : Expr} {mo mi me : EM} {p pos : Pos} (ho : RefE G hd b sc o mo) (hi : RefE G hd b sc i mi) (he : RefE G hd b sc e me) (hs : ∀ env : Env, env.scope = sc.scope → swapsWith e (some (.Subscript o i p)) pos.line env = pure false) :
    RefS G hd b sc (.Assign [.Subscript o i p] e pos) (sSetItem mo mi me) := by
  intro A env s π H ρ fl ρ' H' Q Er R X L q k kx
  refine bind2 q fun v H1 q1 q2 => ?_
  clear q
  refine bind2 q2 fun x H2 q3 q4 => ?_
  clear q2
  refine bind2 q4 fun y H3 q5 q6 => ?_
  clear q4
  refine bind1 q6 fun H4 q7 q8 => ?_
  clear q6
  (replace k := KS.cast k q8; replace kx := KX.cast kx q8)
  refine wpAny_Assign_Subscript (he A env s π H ρ _ _ _ _ R X.toEnvE L q1 fun v' π1 h1 t1 r1 S1 => ?_) (hs env X.scope)
  refine ho A env _ π1 H1 ρ _ _ _ _ R (X.step S1).toEnvE S1.rel q3 fun x' π2 h2 t2 r2 S2 => ?_
  refine hi A env _ π2 H2 ρ _ _ _ _ R ((X.step S1).step S2).toEnvE S2.rel q5 fun y' π3 h3 t3 r3 S3 => ?_
  refine wp_setItem (A := A) (s := { s with heap := h3, toks := t3 }) S3.rel (r2.mono S3.pre) r3 (r1.mono (S2.pre.trans S3.pre)) q7 fun h4 t4 S4 => ?_
  have S := ((S1.trans S2).trans S3).trans S4
  exact k _ _ _ _ .next (S.toS X.disj) (X.step S)
end Mine
end
section
open PySem PySem.W PyProof.Rows
set_option Elab.async false
set_option linter.unusedVariables false
namespace Mine
variable {G : Gd} {hd : Bool} {b : Nat} {sc : Sc}
theorem Rel.list {π : List Addr} {H : Hp} {h : Heap} {n : Nat} {a : Addr} {vs : List V} (L : Rel G π H h) (hn : H[n]? = some (.list vs)) (er : π[n]? = some a) : ∃ ws m, IsL h a ws.toArray m ∧ VRs G.B π vs ws ∧ vs.length = ws.length ∧ vs.length ≤ 1000000 := by
  have hz := L.size _ _ hn
  cases L.obj _ _ hn with | list e1 l r => ?_
  rw [er] at e1; cases e1
  refine x1_1 l fun m l => ?_
  exact ⟨_, m, l, r, r.length, hz⟩
theorem Rel.tup {π : List Addr} {H : Hp} {h : Heap} {n : Nat} {a : Addr} {vs : List V} (L : Rel G π H h) (hn : H[n]? = some (.tup vs)) (er : π[n]? = some a) : ∃ ws, h.IsTuple a ws.toArray ∧ VRs G.B π vs ws ∧ vs.length = ws.length ∧ vs.length ≤ 1000000 := by
  have hz := L.size _ _ hn
  cases L.obj _ _ hn with | tup e1 l r => ?_
  rw [er] at e1; cases e1
  exact ⟨_, l, r, r.length, hz⟩
theorem EnvS.notMain {A : Around} {env : Env} {h : Heap} {π : List Addr} {ρ : List V} (X : EnvS G sc A env h π ρ) : interactive env = false := by
  unfold interactive
  rw [X.scope, X.kind]; rfl
theorem sref_expr {e : Expr} {m : EM} {pos : Pos} (he : RefE G hd b sc e m) (hs : ∀ env, swapsWith e none pos.line env = pure false) : RefS G hd b sc (.Expr e pos) (sExpr m) := by
  intro A env s π H ρ fl ρ' H' Q Er R X L q k kx
  refine bind2 q fun v H1 q1 q2 => ?_
  clear q
  (replace k := KS.cast k q2; replace kx := KX.cast kx q2)
  refine wpAny_Expr_any (he A env s π H ρ _ _ _ _ R X.toEnvE L q1 fun v' π1 h1 t1 r1 S1 => ?_) X.notMain (hs env)
  exact k _ _ _ _ .next (S1.toS X.disj) (X.step S1)
theorem sref_ret {e : Expr} {m : EM} {pos : Pos} (he : RefE G hd b sc e m) : RefS G hd b sc (.Return (some e) pos) (sRet m) := by
  intro A env s π H ρ fl ρ' H' Q Er R X L q k kx
  refine bind2 q fun v H1 q1 q2 => ?_
  clear q
  (replace k := KS.cast k q2; replace kx := KX.cast kx q2)
  refine wpAny_Return_some (he A env s π H ρ _ _ _ _ R X.toEnvE L q1 fun v' π1 h1 t1 r1 S1 => ?_)
  exact k _ _ _ _ (.ret r1) (S1.toS X.disj) (X.step S1)
theorem sref_retN {pos : Pos} : RefS G hd b sc (.Return none pos) sRetN := by
  intro A env s π H ρ fl ρ' H' Q Er R X L q k kx
  (replace k := KS.cast k q; replace kx := KX.cast kx q)
  exact wpAny_Return_none (k _ π s.heap s.toks (.ret .none) (.refl L) X)
theorem sref_brk {pos : Pos} : RefS G hd b sc (.Break pos) sBrk := by
  intro A env s π H ρ fl ρ' H' Q Er R X L q k kx
  (replace k := KS.cast k q; replace kx := KX.cast kx q)
  exact wpAny_Break (k _ π s.heap s.toks .brk (.refl L) X)
theorem sref_cont {pos : Pos} : RefS G hd b sc (.Continue pos) sCont := by
  intro A env s π H ρ fl ρ' H' Q Er R X L q k kx
  (replace k := KS.cast k q; replace kx := KX.cast kx q)
  exact wpAny_Continue (k _ π s.heap s.toks .cont (.refl L) X)
theorem sref_if {t : Expr} {x y : List Stmt} {mt : TM} {mx my : SM} {pos : Pos} (ht : RefT G hd b sc t mt) (hx : RefB G hd b sc x mx) (hy : RefB G hd b sc y my) : RefS G hd b sc (.If t x y pos) (sIf mt mx my) := by
  intro A env s π H ρ fl ρ' H' Q Er R X L q k kx
  refine bind2 q fun c H1 q1 q2 => ?_
  clear q
  refine wpAny_If (ht A env s π H ρ _ _ _ _ R X.toEnvE L q1 fun π1 h1 t1 S1 => ?_)
  have fin : ∀ {st : List Stmt} {m : SM}, RefB G hd b sc st m → m ρ H1 = some (fl, ρ', H') → wpAny (model G.prog G.w) A (execs st env) Q Er { s with heap := h1, toks := t1 } := fun hb hq =>
    hb A env _ π1 H1 ρ fl ρ' H' _ _ R (X.step S1) S1.rel hq (fun fl2 π2 h2 t2 rf S2 X2 => k _ _ _ _ rf ((S1.toS X.disj).trans S2) X2)
      fun c e π2 h2 t2 e2 F S2 X2 => kx c e _ _ _ e2 (F.back (S1.toS X.disj) (S1.pre.trans S2.pre)) ((S1.toS X.disj).trans S2) X2
  cases c with
  | true => simp only [if_true] at q2 ⊢; exact fin hx q2
  | false => simp only [Bool.false_eq_true, if_false] at q2 ⊢; exact fin hy q2
theorem fills_list_add : fillsInplaceSlot (.type "list") "add" (Operator.Add == .Add) = pure false := by
  unfold fillsInplaceSlot
  show (typeLookup (.type "list") (dunderI "add") >>= fun fi => pure (fi.isSome && !isSeqSlot fi)) = pure false
  rw [F.slot_list_iadd.lookup]; rfl
theorem seq_list_iadd : seqSlot? (.type "list") (dunderI "add") = pure (some (.builtin "list.__iadd__")) := by
  unfold seqSlot?
  rw [F.slot_list_iadd.lookup]; rfl
theorem wp_iadd_list {A : Around} {s : Shared} {l c : Addr} {xs ys : Array Value} {n m : Nat} {Q : Value → Shared → Prop} {Er : Value → Shared → Prop} (hl : IsL s.heap l xs n) (hc : IsL s.heap c ys m) (hz : xs.size + ys.size < 10000000)
    (h : Q (.ref l) { s with heap := s.heap.update l (Obj.mapSeq fun x => x ++ ys) }) : wpAny (model G.prog G.w) A (inplaceOp .Add (.ref l) (.ref c)) Q Er s := by
  have tl : s.TypeIs (.ref l) "list" := ⟨_, hl, rfl⟩
  have tc : s.TypeIs (.ref c) "list" := ⟨_, hc, rfl⟩
  unfold inplaceOp
  refine wpAny_holding ?_
  refine wpAny_bind (wpAny_typeOf tl (wpAny_bind (wpAny_of_eq fills_list_add ?_)))
  show wpAny _ A (if false = true then _ else _) Q Er s
  rw [if_neg Bool.false_ne_true]
  refine wpAny_bind (wpAny_binaryOp1_none (nm := "add") tl tc noFill_list_add ?_)
  refine wpAny_bind (wpAny_of_eq seq_list_iadd ?_)
  refine wpAny_bind (wpAny_rule ?_)
  refine call_meets F.slot_list_iadd tl F.entry_list_iadd (F.args_list_iadd_2 _ _) (AutoSeq1.list___iadd___list_list_0 l xs n c ys m (by simp [Builtin.List.listTooLong, sizeLine]; lia) (by unfold sizeLine; lia) (by unfold sizeLine; lia)) ⟨hl, hc, h⟩
noncomputable def pyAug : AOp → Operator
  | .add => .Add | .sub => .Sub | o => pyOp o
theorem wp_load {A : Around} {env : Env} {s : Shared} {π : List Addr} {ρ : List V} {H : Hp} {x : Str} {n : Nat} {v : V} {H' : Hp} {Q : Value → Shared → Prop} {Er : Value → Shared → Prop} (X : EnvE G sc A env s.heap π ρ) (hx : (x, n) ∈ sc.vars) (hc' : (x == ("__classdict__" : Str)) = false)
    (q : eLoc n ρ H = some (v, H')) (k : ∀ v', VR G.B π v v' → Q v' s) : wpAny (model G.prog G.w) A (loadName env x) Q Er s := by
  unfold eLoc at q
  split at q
  · cases q
  · cases q
  · rename_i w hw hn
    cases q
    refine x1_2 (X.vars x n hx _ hn (fun e => hw e)) fun v' r rd => ?_
    have hk : env.scope.kind = .function := by rw [X.scope]; exact X.kind
    rcases rd with ⟨h1, m, h2, h3⟩ | ⟨h1, c, h2, h3⟩
    · exact wpAny_loadName_local hk h1 h2 h3 (k _ r)
    · rcases h1 with h1 | h1
      · exact wpAny_loadName_cell hk h1 h2 h3 (k _ r)
      · exact wpAny_loadName_free hk h1 h2 h3 (k _ r) hc'
theorem eLoc_heap {n : Nat} {ρ : List V} {H : Hp} {v : V} {H' : Hp} (q : eLoc n ρ H = some (v, H')) : H' = H := by
  unfold eLoc at q
  split at q
  · cases q
  · cases q
  · cases q; rfl
theorem sref_aug {x : Str} {n : Nat} {op : AOp} {p pos : Pos} {e : Expr} {m : EM} (he : RefE G hd b sc e m) (hx : (x, n) ∈ sc.vars) (hc' : (x == ("__classdict__" : Str)) = false) (ho : op = .add ∨ op = .sub) :
    RefS G hd b sc (.AugAssign (.Name x p) (pyAug op) e pos) (sAug n op m) := by
  intro A env s π H ρ fl ρ' H' Q Er R X L q k kx
  refine bind2 q fun v H1 q1 q2 => ?_
  clear q
  have e1 := eLoc_heap q1
  subst e1
  refine bind2 q2 fun w H2 q3 q4 => ?_
  clear q2
  refine wpAny_AugAssign_Name (wp_load X.toEnvE hx hc' q1 fun v' r1 => ?_)
  refine he A env s π _ ρ _ _ _ _ R X.toEnvE L q3 fun w' π2 h2 t2 r2 S2 => ?_
  dsimp only at q4
  have r1' := r1.mono S2.pre
  split at q4
  · rename_i a c
    refine bind1 q4 fun i q5 q6 => ?_
    clear q4
    (replace k := KS.cast k q6; replace kx := KX.cast kx q6)
    cases r1'
    cases r2
    have fin : ∀ tk, wpAny (model G.prog G.w) A (storeName env x (.int i tk)) (fun _ => Q .next) Er { s with heap := h2, toks := t2 + 1 } := fun tk =>
      wp_store (s := { s with heap := h2, toks := t2 + 1 }) (X.step S2) S2.rel hx (.int i tk) fun h3 t3 S3 X3 => k _ _ _ _ .next ((S2.toS X.disj).trans S3) X3
    rcases ho with rfl | rfl
    · cases q5; exact P.iadd_int (fin _)
    · cases q5; exact P.isub_int (fin _)
  · rename_i m' n'
    split at q4
    · rename_i vs ws hm hn
      split at q4
      · rename_i hlt
        (replace k := KS.cast k q4; replace kx := KX.cast kx q4)
        cases r1' with | ref e1 => ?_
        cases r2 with | ref e2 => ?_
        refine x2_4 (S2.rel.list hm e1) fun ws1 n1 l1 rr1 z1 _ => ?_
        refine x2_4 (S2.rel.list hn e2) fun ws2 n2 l2 rr2 z2 _ => ?_
        have hx2 := IsL.same l1 (fun x => x ++ ws2.toArray)
        have hz : vs.length + ws.length < 100000 := hlt.2
        refine wp_iadd_list l1 l2 (by simp only [List.size_toArray]; lia) ?_
        have S3 : Step G (frs A) π2 h2 π2 (H2.set m' (.list (vs ++ ws))) _ := .upd S2.rel e1 (Heap.SameBut.update ..) (let ⟨_, q⟩ := hx2; ⟨_, q⟩) hm (.inl ⟨vs, rfl⟩) (.list (ws := ws1 ++ ws2) e1 (by simpa using hx2) (rr1.append rr2)) (by simp only [olen, List.length_append]; unfold szl; lia) nofun
        exact wp_store (s := { s with heap := _, toks := t2 }) ((X.step S2).step S3) S3.rel hx (.ref e1) fun h3 t3 S4 X3 => k _ _ _ _ .next (((S2.trans S3).toS X.disj).trans S4) X3
      · cases q4
    · cases q4
  · cases q4
theorem sref_augsub {o i e : Expr} {mo mi me : EM} {p pos : Pos} (ho : RefE G hd b sc o mo) (hi : RefE G hd b sc i mi) (he : RefE G hd b sc e me)
    (hs : ∀ ov iv new, augStore i ov iv new = (do holding [new, ov, iv] (setItem ov iv new); release [new, ov, iv] []; pure .next)) :
    RefS G hd b sc (.AugAssign (.Subscript o i p) .Add e pos) (sAugSub mo mi me) := by
  intro A env s π H ρ fl ρ' H' Q Er R X L q k kx
  refine bind2 q fun x H1 q1 q2 => ?_
  clear q
  refine bind2 q2 fun y H2 q3 q4 => ?_
  clear q2
  refine bind1 q4 fun v q5 q6 => ?_
  clear q4
  refine bind2 q6 fun z H3 q7 q8 => ?_
  clear q6
  dsimp only at q8
  split at q8
  · rename_i n a c
    refine bind1 q8 fun H4 q9 q10 => ?_
    clear q8
    (replace k := KS.cast k q10; replace kx := KX.cast kx q10)
    refine wpAny_AugAssign_SubscriptAny (ho A env s π H ρ _ _ _ _ R X.toEnvE L q1 fun x' π1 h1 t1 r1 S1 => ?_) hs
    refine hi A env _ π1 H1 ρ _ _ _ _ R (X.step S1).toEnvE S1.rel q3 fun y' π2 h2 t2 r2 S2 => ?_
    have key := wp_getItem (A := A) (Er := Er) (s := { s with heap := h2, toks := t2 })
      (Q := fun old s₃ => wpAny (model G.prog G.w) A (eval e env) (fun v s₄ => wpAny (model G.prog G.w) A (inplaceOp .Add old v) (fun new s₅ => wpAny (model G.prog G.w) A (setItem x' y' new) (fun x => Q Flow.next) Er s₅) Er s₄) Er s₃)
      S2.rel (r1.mono S2.pre) r2 q5 (fun v' tk rv => by
        refine he A env _ π2 H2 ρ _ _ _ _ R ((X.step S1).step S2).toEnvE S2.rel q7 fun z' π3 h3 t3 r3 S3 => ?_
        cases rv with | int _ tv => ?_
        cases r3 with | int _ tz => ?_
        refine P.iadd_int ?_
        refine wp_setItem (A := A) (s := { s with heap := h3, toks := t3 + 1 }) S3.rel ((r1.mono S2.pre).mono S3.pre) (r2.mono S3.pre) (.int (a + c) t3) q9 fun h4 t4 S4 => ?_
        have S := ((S1.trans S2).trans S3).trans S4
        exact k _ _ _ _ .next (S.toS X.disj) (X.step S))
    refine x5_5 key fun a' j tt T id hx' hy' g1 g2 g3 => ?_
    clear key
    exact g3
  · cases q8
theorem sref_call {x : Str} {f : Addr} {es : List Expr} {ms : List EM} {m : FM} {p pos pos' : Pos} (hm : RefF G hd b f m) (h : RefEs G hd b sc es ms)
    (hx : sc.scope.names.lookup x = some .globalImplicit) (hv : nsIn G.K mainGlobals x = some (some (.ref f))) (hd' : (x == ("__debug__" : Str)) = false) (hf : isFn G.K (.ref f) = true) (hff : ∃ oc od fd sl, G.K.lookup f = some ⟨oc, od, .func fd, sl⟩)
    (hs : ∀ env, swapsWith (.Call (.Name x p) es [] pos) none pos'.line env = pure false) :
    RefS G hd b sc (.Expr (.Call (.Name x p) es [] pos) pos') (sCall m ms) := by
  intro A env s π H ρ fl ρ' H' Q Er R X L q k kx
  refine bind2 q fun vs H1 q1 q2 => ?_
  clear q
  dsimp only at q2
  refine wpAny_Expr_any (Call_Name rfl (name_global X.toEnvE L hx hv hd' (wp_callWith h hf hff R X.toEnvE L q1 fun vs' π1 h1 t1 r1 S1 => ?_))) X.notMain (hs env)
  split at q2
  · rename_i w H2 hw
    (replace k := KS.cast k q2; replace kx := KX.cast kx q2)
    refine hm A _ π1 H1 vs vs' _ _ _ R (X.step S1).fok S1.rel r1 hw (fun u v' π2 h2 t2 e ru S2 => ?_) fun c e π2 h2 t2 e' _ _ => by cases e'
    exact k _ _ _ _ .next ((S1.trans S2).toS X.disj) (X.step (S1.trans S2))
  · rename_i c H2 hw
    (replace k := KS.cast k q2; replace kx := KX.cast kx q2)
    refine hm A _ π1 H1 vs vs' _ _ _ R (X.step S1).fok S1.rel r1 hw (fun u v' π2 h2 t2 e ru S2 => by cases e) fun c' e π2 h2 t2 e' F S2 => ?_
    cases e'
    exact kx _ _ _ _ _ rfl (F.back (S1.toS X.disj) (S1.pre.trans S2.pre)) ((S1.trans S2).toS X.disj) (X.step (S1.trans S2))
  · cases q2
theorem sref_meth {o : Expr} {mo : EM} {c : Nat} {name : Str} {f : Addr} {es : List Expr} {ms : List EM} {m : FM} {apos pos pos' : Pos} (hm : RefF G hd b f m) (ho : RefE G hd b sc o mo) (h : RefEs G hd b sc es ms) (C : ClsOk G c)
    (hname : name ∉ G.flds c) (hfi : findIn G.K (.ref (G.cls c)) name = some (some (.ref f))) (hf : isFn G.K (.ref f) = true) (hff : ∃ oc od fd sl, G.K.lookup f = some ⟨oc, od, .func fd, sl⟩) (hform : MForm o name apos es pos)
    (hs : ∀ env, swapsWith (.Call (.Attribute o name apos) es [] pos) none pos'.line env = pure false) :
    RefS G hd b sc (.Expr (.Call (.Attribute o name apos) es [] pos) pos') (sMeth c m mo ms) := by
  intro A env s π H ρ fl ρ' H' Q Er R X L q k kx
  refine bind2 q fun x H1 q1 q2 => ?_
  clear q
  dsimp only at q2
  split at q2
  · rename_i hi
    refine x2_2 (isInst_some hi) fun n fs o11 hn => ?_
    subst o11
    refine bind2 q2 fun vs H2 q3 q4 => ?_
    clear q2
    dsimp only at q4
    refine x1_1 (hform env) fun pl hpl => ?_
    refine wpAny_Expr_any (MethodCall_ (pl := pl) (ho A env s π H ρ _ _ _ _ R X.toEnvE L q1 fun x' π1 h1 t1 r1 S1 => ?_) hpl) X.notMain (hs env)
    refine wp_method S1.rel C r1 hn hname hfi hf ?_
    refine wp_callWith h hf hff R (X.step S1).toEnvE S1.rel q3 fun vs' π2 h2 t2 r2 S2 => ?_
    split at q4
    · rename_i w H3 hw
      (replace k := KS.cast k q4; replace kx := KX.cast kx q4)
      refine hm A _ π2 H2 (_ :: vs) (x' :: vs') _ _ _ R ((X.step S1).step S2).fok S2.rel (.cons (r1.mono S2.pre) r2) hw (fun u v' π3 h3 t3 e ru S3 => ?_) fun c e π3 h3 t3 e' _ _ => by cases e'
      have S := (S1.trans S2).trans S3
      exact k _ _ _ _ .next (S.toS X.disj) (X.step S)
    · rename_i c' H3 hw
      (replace k := KS.cast k q4; replace kx := KX.cast kx q4)
      refine hm A _ π2 H2 (_ :: vs) (x' :: vs') _ _ _ R ((X.step S1).step S2).fok S2.rel (.cons (r1.mono S2.pre) r2) hw (fun u v' π3 h3 t3 e ru S3 => by cases e) fun c'' e π3 h3 t3 e' F S3 => ?_
      cases e'
      have S := (S1.trans S2).trans S3
      exact kx _ _ _ _ _ rfl (F.back ((S1.trans S2).toS X.disj) S.pre) (S.toS X.disj) (X.step S)
    · cases q4
  · cases q2
inductive Targets (sc : Sc) : List Expr → List Nat → Prop where
  | nil : Targets sc [] []
  | cons {x : Str} {n : Nat} {p : Pos} {es ns} : (x, n) ∈ sc.vars → Targets sc es ns → Targets sc (.Name x p :: es) (n :: ns)
theorem targets_each {es : List Expr} {ns : List Nat} (h : Targets sc es ns) (env : Env) : (assignEach es env).length = ns.length ∧ (assignEach es env).findIdx? (·.1) = none ∧ ((assignEach es env).map (·.2)).length = ns.length := by
  induction h with
  | nil => exact ⟨rfl, rfl, rfl⟩
  | @cons x n p es ns _ _ ih =>
    have : assignEach (.Name x p :: es) env = (false, assign (.Name x p) env) :: assignEach es env := rfl
    rw [this]
    refine x0_3 ih fun i1 i2 i3 => ?_
    clear ih
    refine ⟨by simp [i1], ?_, by simp [i1]⟩
    rw [List.findIdx?_cons]
    simp [i2]
theorem wp_stores {A : Around} {env : Env} {es : List Expr} {ns : List Nat} (h : Targets sc es ns) : ∀ {s : Shared} {π : List Addr} {ρ ρ' : List V} {H : Hp} {vs : List V} {ws : List Value} {Q : Unit → Shared → Prop} {Er : Value → Shared → Prop},
    EnvS G sc A env s.heap π ρ → Rel G π H s.heap → VRs G.B π vs ws → setAll ns vs ρ = some ρ' →
    (∀ h' tk', StepS G (foot env) (frs A) π s.heap π H h' → EnvS G sc A env h' π ρ' → Q () { s with heap := h', toks := tk' }) →
    wpAny (model G.prog G.w) A (assignInOrder ((assignEach es env).map (·.2)) ws) Q Er s := by
  induction h with
  | nil =>
    intro s π ρ ρ' H vs ws Q Er X L r q k
    cases r with
    | nil => cases q; exact wpAny_assignInOrder_none (k s.heap s.toks (.refl L) X)
    | cons _ _ => cases q
  | @cons x n p es ns hx _ ih =>
    intro s π ρ ρ' H vs ws Q Er X L r q k
    cases r with
    | nil => cases q
    | cons r1 r2 =>
      refine wpAny_assignInOrder_more ?_
      refine wpAny_assign_Name (wp_store X L hx r1 fun h1 t1 S1 X1 => ?_)
      exact ih X1 S1.rel r2 q fun h2 t2 S2 X2 => k _ _ (S1.trans S2) X2
theorem sref_unpack {es : List Expr} {ns : List Nat} {kk : Nat} {tp pos : Pos} {e : Expr} {m : EM} (he : RefE G false b sc e m) (h : Targets sc es ns) (h1 : ∀ env : Env, env.scope = sc.scope → swapsWithSole [.Tuple es kk tp] e pos.line env = pure false)
    (h2 : ∀ env : Env, env.scope = sc.scope → swappedStores [.Tuple es kk tp] e env = pure none) :
    RefS G false b sc (.Assign [.Tuple es kk tp] e pos) (sUnpack ns m) := by
  intro A env s π H ρ fl ρ' H' Q Er R X L q k kx
  refine bind2 q fun v H1 q1 q2 => ?_
  clear q
  dsimp only at q2
  split at q2
  · rename_i n
    split at q2
    · rename_i vs hn
      refine bind1 q2 fun ρ1 q3 q4 => ?_
      clear q2
      (replace k := KS.cast k q4; replace kx := KX.cast kx q4)
      refine Assign_Tuple (he A env s π H ρ _ _ _ _ R X.toEnvE L q1 fun v' π1 h1 t1 r1 S1 => ?_) (h1 env X.scope) (h2 env X.scope)
      cases r1 with | ref er => ?_
      rename_i a
      cases S1.rel.obj _ _ hn with | tup e1 l r' => ?_
      rename_i ws
      rw [er] at e1; cases e1
      refine x0_3 (targets_each h env) fun g1 g2 g3 => ?_
      have hlen : ∀ {ns : List Nat} {vs : List V} {ρ ρ' : List V}, setAll ns vs ρ = some ρ' → ns.length = vs.length := by
        intro ns
        induction ns with
        | nil => intro vs ρ ρ' q; cases vs with | nil => rfl | cons _ _ => cases q
        | cons n ns ih => intro vs ρ ρ' q; cases vs with | nil => cases q | cons v vs => simp [ih q]
      refine assign_Tuple_tuple R.none l (by rw [g1, hlen q3, r'.length]; simp) g2 fun h2 hs2 => ?_
      have S2 : Step G (frs A) π1 h1 π1 _ h2 := .ext S1.rel fun b o e => hs2 b o (Nat.ne_of_lt (Heap.lt_size e)) e
      refine wp_stores (s := { s with heap := h2, toks := t1 }) h ((X.step S1).step S2) S2.rel (by simpa using r') q3 fun h3 t3 S3 X3 => ?_
      exact k _ _ _ _ .next (((S1.trans S2).toS X.disj).trans S3) X3
    · cases q2
  · cases q2
end Mine
end
section
open PySem PySem.W PyProof.Rows
set_option Elab.async false
set_option linter.unusedVariables false
namespace Mine
variable {G : Gd} {hd : Bool} {b : Nat} {sc : Sc}
noncomputable def PKeep (h₀ : Heap) (π : List Addr) (fr : List Addr) (h h' : Heap) : Prop :=
  ∀ b o, h.get? b = some o → ((∃ o₀, h₀.get? b = some o₀) ∨ b ∈ π) → (∃ sl, h'.get? b = some { o with slots := sl }) ∧ (b ∉ fr → h'.get? b = some o)
theorem PKeep.refl {h₀ : Heap} {π fr : List Addr} {h : Heap} : PKeep h₀ π fr h h := fun b o e _ => ⟨⟨o.slots, e⟩, fun _ => e⟩
theorem PKeep.trans {h₀ : Heap} {π fr : List Addr} {h h' h'' : Heap} (x : PKeep h₀ π fr h h') (y : PKeep h₀ π fr h' h'') : PKeep h₀ π fr h h'' := fun b o e k => by
  refine x0_2 (x b o e k) fun o1 x2 => ?_
  refine x1_1 o1 fun sl e1 => ?_
  clear o1
  refine x0_2 (y b _ e1 k) fun o2 _ => ?_
  refine x1_1 o2 fun sl' e2 => ?_
  clear o2
  exact ⟨⟨sl', e2⟩, fun hf => (y b o (x2 hf) k).2 hf⟩
structure At (G : Gd) (sc : Sc) (A : Around) (env : Env) (h₀ : Heap) (π : List Addr) (h : Heap) (π' : List Addr) (H' : Hp) (ρ' : List V) : Prop where
  step : StepS G (foot env) (frs A) π h₀ π' H' h
  env : EnvS G sc A env h π' ρ'
theorem At.priv {A : Around} {env : Env} {h₀ h h' : Heap} {π π' : List Addr} {H H' : Hp} {ρ ρ' : List V} (L₀ : Rel G π H h₀) (X₀ : EnvS G sc A env h₀ π ρ) (x : At G sc A env h₀ π h π' H' ρ') (k : PKeep h₀ π' (frs A) h h') : At G sc A env h₀ π h' π' H' ρ' := by
  obtain ⟨S, X⟩ := x
  refine x1_3 (X.frames) fun l hl hfun hnot => ?_
  have hfr : ∀ b ∈ frs A, b ∉ π' := by unfold frs; rw [hl]; exact hnot
  have hfrB : ∀ b ∈ frs A, G.B.get? b = none := by
    unfold frs; rw [hl]
    exact fun b hb => (hfun.mem hb).1
  have kfoot : ∀ b ∈ foot env, ∀ o, h.get? b = some o → ∃ sl, h'.get? b = some { o with slots := sl } := fun b hb o e => (k b o e (.inl (X₀.foots b hb).2.2)).1
  have kπ : ∀ b ∈ π', ∀ o, h.get? b = some o → h'.get? b = some o := fun b hb o e => (k b o e (.inr hb)).2 fun q => hfr b q hb
  have kB : G.B.StaysIn h' := fun b o e => by
    refine (k b o (S.rel.stays b o e) (.inl ⟨o, L₀.stays b o e⟩)).2 fun q => ?_
    rw [hfrB b q] at e; cases e
  have rel' : Rel G π' H' h' := ⟨kB, S.rel.len, S.rel.nodup, S.rel.new, fun a ha => let ⟨o, e⟩ := S.rel.here a ha; ⟨o, kπ a ha o e⟩, fun n o e => (S.rel.obj n o e).mono (List.prefix_refl _) kπ, S.rel.aux, S.rel.size⟩
  refine ⟨⟨S.pre, rel', ⟨fun b o e hb => ?_, fun b o e hb hf => ?_⟩, S.fresh, fun a ha e => ?_⟩, ⟨⟨X.scope, X.kind, X.glob, X.blt, ⟨l, hl, ?_, hnot⟩, ?_, fun b hb => ?_, X.cellsE⟩, ?_, X.frame, X.top, ?_, X.apart, X.above, X.kinds, X.names⟩⟩
  · refine x1_1 (S.keep.slots b o e hb) fun sl e1 => ?_
    exact (k b _ e1 (.inl ⟨o, e⟩)).1
  · exact (k b o (S.keep.exact b o e hb hf) (.inl ⟨o, e⟩)).2 hf
  · refine x1_1 (S.stays a ha e) fun o e1 => ?_
    refine x1_1 (kfoot a ha o e1) fun sl e2 => ?_
    exact ⟨_, e2⟩
  · -- the frames
    refine x1_3 (X₀.frames) fun l₀ hl₀ hfun₀ _ => ?_
    rw [hl] at hl₀; cases hl₀
    have go : ∀ {l : List Env}, h₀.FunFrames G.B l → h.FunFrames G.B l → h'.FunFrames G.B l := by
      intro l
      induction l with
      | nil => intro _ _; trivial
      | cons e r ih =>
        rintro ⟨_, ⟨L', o', hf', _, ho', _⟩, hr'⟩ ⟨hk, ⟨L, o, hf, hn, ho, hd⟩, hr⟩
        rw [hf] at hf'; cases hf'
        refine x0_2 (k L' o ho (.inl ⟨o', ho'⟩)) fun o3 _ => ?_
        refine x1_1 o3 fun sl e1 => ?_
        clear o3
        exact ⟨hk, ⟨L', _, hf, hn, e1, hd⟩, ih hr' hr⟩
    exact go hfun₀ hfun
  · intro y j hy v hv hu
    refine x1_2 (X.vars y j hy v hv hu) fun v' r rd => ?_
    refine ⟨v', r, ?_⟩
    rcases rd with ⟨h1, m, h2, h3⟩ | ⟨h1, c, h2, h3⟩
    · exact .inl ⟨h1, m, Ns.slots h2 fun o e => kfoot _ List.mem_cons_self o e, h3⟩
    · exact .inr ⟨h1, c, h2, IsCell.slots h3 fun o e => kfoot _ (foot_cell h2) o e⟩
  · refine x0_3 (X.foots b hb) fun h1 h2 o4 => ?_
    refine x1_1 o4 fun o e => ?_
    clear o4
    refine x1_1 (kfoot b hb o e) fun sl e' => ?_
    exact ⟨h1, h2, _, e'⟩
  · refine x1_1 (X.ns) fun m hm => ?_
    exact ⟨m, Ns.slots hm fun o e => kfoot _ List.mem_cons_self o e⟩
  · intro y c hc
    refine x1_1 (X.cellsOk y c hc) fun v hv => ?_
    exact ⟨v, IsCell.slots hv fun o e => kfoot _ (foot_cell hc) o e⟩
theorem wp_entry {M : Model} {A : Around} {s : Shared} {env : Env} {outer : List Env} {L e : Addr} {oe : Obj} {vs : Array Value} {B : Heap} {head : Value} {hadNext : Bool} {Q : Unit → Shared → Prop} {Er : Value → Shared → Prop}
    (hfr : A.frames = some (env :: outer)) (hl : s.heap.FunFrames B (env :: outer)) (hf : env.frame = some L) (he : s.heap.get? e = some oe) (hd : oe.data = .fields vs) (hsz : 1 < vs.size)
    (h : ∀ h' T oT ts oe' vs', s.heap.get? T = none → h'.get? e = some oe' → oe'.cls = oe.cls → oe'.data = .fields vs' → vs'[1]? = some (.ref T) → T ≠ e → h'.get? T = some oT → oT.data = .fields ts → ts[3]? = some (rawInt L) →
      (∀ b o, b ≠ e → s.heap.get? b = some o → (∃ sl, h'.get? b = some { o with slots := sl }) ∧ (b ∉ frs A → h'.get? b = some o)) → Q () { s with heap := h' }) :
    wpAny M A (do let a ← frameOf env; let pl ← entryPlaceOf L hadNext; let b ← EntryCells.newEntry head a .none (rawInt L) .none pl; setField (.ref e) 1 b) Q Er s := by
  have hene : e ∉ (env :: outer).filterMap (·.frame) := fun hm => by
    refine x0_2 (hl.mem hm) fun _ o5 => ?_
    refine x1_2 o5 fun o ho hnf => ?_
    clear o5
    rw [he] at ho; injection ho with ho; subst ho; exact hnf vs hd
  refine wpAny_bind (wpAny_frameOf_fun hfr hl hf fun h₁ hs₁ => ?_)
  refine wpAny_bind (wpAny_entryPlaceOf fun pl hpl => ?_)
  unfold EntryCells.newEntry newFields
  refine wpAny_bind (wpAny_newObj_type ?_ (hpl.sizeOk5 _ _ _ _ _))
  have he₁ : h₁.get? e = some oe := (hs₁.2.1 e hene).trans he
  generalize hT : ({ cls := .type "traceback", dict := none, data := .fields ([head, .ref L, .none, rawInt L, .none] ++ (if pl.isEmpty then List.replicate 6 Value.none else pl)).toArray } : Obj) = oT
  have hTd : oT.data = .fields ([head, .ref L, .none, rawInt L, .none] ++ (if pl.isEmpty then List.replicate 6 Value.none else pl)).toArray := by rw [← hT]
  have he₂ := Heap.get?_push_of_some (h := h₁) oT he₁
  refine wpAny_setField he₂ hd hsz ?_
  have hTe : h₁.objs.size ≠ e := Nat.ne_of_gt (Heap.lt_size he₁)
  have hd₃ := Obj.data_mapFields hd (·.setIfInBounds 1 (Value.ref h₁.objs.size))
  have he₃ := Heap.get?_update_self (Obj.mapFields (·.setIfInBounds 1 (Value.ref h₁.objs.size))) he₂ (Obj.isFreed_of_fields hd₃)
  have hT₃ : ((h₁.push oT).update e (Obj.mapFields (·.setIfInBounds 1 (Value.ref h₁.objs.size)))).get? h₁.objs.size = some oT :=
    (Heap.get?_update_other (h₁.push oT) _ (Ne.symm hTe)).trans (Heap.get?_push_size h₁ (Obj.isFreed_of_fields hTd))
  refine h _ h₁.objs.size oT _ _ _ (by rw [← hs₁.1.symm]; exact get_fresh _) he₃ (Obj.cls_mapFields _ _) hd₃ (by simp [hsz]) hTe hT₃ hTd (by simp) fun b o hbe hb => ?_
  have key : ∀ x, h₁.get? b = some x → ((h₁.push oT).update e (Obj.mapFields (·.setIfInBounds 1 (Value.ref h₁.objs.size)))).get? b = some x := fun x hx => by
    rw [Heap.get?_update_other _ _ (Ne.symm hbe)]
    exact Heap.get?_push_of_some _ hx
  refine ⟨?_, fun hf' => key o ((hs₁.2.1 b ?_).trans hb)⟩
  · refine x1_1 (hs₁.2.2 b o hb) fun sl e1 => ?_
    exact ⟨sl, key _ e1⟩
  · unfold frs at hf'
    rw [hfr] at hf'; exact hf'
theorem wp_note {M : Model} {A : Around} {s : Shared} {env : Env} {outer : List Env} {L e : Addr} {B : Heap} {Q : Unit → Shared → Prop} {Er : Value → Shared → Prop} {h₀ : Heap} {π : List Addr} {c : Nat}
    (hfr : A.frames = some (env :: outer)) (hl : s.heap.FunFrames B (env :: outer)) (hf : env.frame = some L) (F : Fly G c e π h₀ s.heap) (hold : ∀ b ∈ frs A, ∃ o, h₀.get? b = some o) (hst : ∀ a, ((∃ o, h₀.get? a = some o) ∨ a ∈ π) → ∃ o, s.heap.get? a = some o)
    (h : ∀ h', PKeep h₀ π (frs A) s.heap h' → Fly G c e π h₀ h' → (∃ oe vs T oT ts, h'.get? e = some oe ∧ oe.data = .fields vs ∧ vs[1]? = some (.ref T) ∧ T ≠ e ∧ h'.get? T = some oT ∧ oT.data = .fields ts ∧ ts[3]? = some (rawInt L) ∧ h₀.get? T = none ∧ T ∉ π) → Q () { s with heap := h' }) :
    wpAny M A (noteFrame (.ref e) env) Q Er s := by
  obtain ⟨hn, ho, oe, vs, he, hc, hd, hv⟩ := F
  unfold noteFrame
  simp only [hf]
  have he0 : ∀ b, ((∃ o₀, h₀.get? b = some o₀) ∨ b ∈ π) → b ≠ e := fun b k q => by
    subst q
    rcases k with ⟨o, k⟩ | k
    · rw [hn] at k; cases k
    · exact ho k
  have nw : ∀ a, s.heap.get? a = none → h₀.get? a = none ∧ a ∉ π := fun a e => by
    refine ⟨?_, fun q => ?_⟩
    · cases q : h₀.get? a with
      | none => rfl
      | some o => obtain ⟨o', e'⟩ := hst a (.inl ⟨o, q⟩); rw [e] at e'; cases e'
    · obtain ⟨o', e'⟩ := hst a (.inr q); rw [e] at e'; cases e'
  rcases hv with hv | ⟨T, oT, ts, x, hv, hTe, hTn, hTo, hT, hTd, hx⟩
  · refine wpAny_bind (wpAny_field he hd hv ?_)
    rw [if_neg (by decide)]
    refine wp_entry hfr hl hf he hd (Array.getElem?_eq_some_iff.mp hv).1 fun h' T' oT' ts' oe' vs' a0 a1 a2 a3 a4 a5 a6 a7 a8 k => ?_
    have hTn := nw T' a0
    refine h h' (fun b o eb kb => k b o (he0 b kb) eb) ⟨hn, ho, oe', vs', a1, a2.trans hc, a3, .inr ⟨T', oT', ts', _, a4, a5, hTn.1, hTn.2, a6, a7, a8⟩⟩ ⟨oe', vs', T', oT', ts', a1, a3, a4, a5, a6, a7, a8, hTn.1, hTn.2⟩
  · refine wpAny_bind (wpAny_field he hd hv ?_)
    rw [if_pos (by simp)]
    refine wpAny_bind (wpAny_field hT hTd hx ?_)
    split
    · rename_i hxL
      have hxL' : x = rawInt L := by simpa using hxL
      exact wpAny_pure (h s.heap .refl ⟨hn, ho, oe, vs, he, hc, hd, .inr ⟨T, oT, ts, x, hv, hTe, hTn, hTo, hT, hTd, hx⟩⟩ ⟨oe, vs, T, oT, ts, he, hd, hv, hTe, hT, hTd, hxL' ▸ hx, hTn, hTo⟩)
    · have hTsz := (Array.getElem?_eq_some_iff.mp hx).1
      refine wpAny_bind (wpAny_setField hT hTd hTsz ?_)
      have other : ∀ b, b ≠ T → (s.heap.update T (Obj.mapFields (·.setIfInBounds 3 Value.none))).get? b = s.heap.get? b := fun b hb => Heap.get?_update_other _ _ (Ne.symm hb)
      have hTnf : ∀ b ∈ (env :: outer).filterMap (·.frame), b ≠ T := fun b hb q => by
        obtain ⟨_, o, ho', hnf⟩ := hl.mem hb
        rw [q, hT] at ho'; cases ho'
        exact hnf _ hTd
      have hl2 : (s.heap.update T (Obj.mapFields (·.setIfInBounds 3 Value.none))).FunFrames B (env :: outer) :=
        hl.of_keeps fun b o hb hnf => ⟨o, (other b fun q => by rw [q, hT] at hb; cases hb; exact hnf _ hTd).trans hb, rfl⟩
      refine wp_entry (s := { s with heap := _ }) hfr hl2 hf ((other e (Ne.symm hTe)).trans he) hd (Array.getElem?_eq_some_iff.mp hv).1 fun h' T' oT' ts' oe' vs' a0 a1 a2 a3 a4 a5 a6 a7 a8 k => ?_
      have hT0 : ∀ b, ((∃ o₀, h₀.get? b = some o₀) ∨ b ∈ π) → b ≠ T := fun b kb q => by
        rw [q] at kb
        rcases kb with ⟨o, kb⟩ | kb
        · rw [hTn] at kb; cases kb
        · exact hTo kb
      have a0' : s.heap.get? T' = none := by
        by_cases q : T' = T
        · subst q
          rw [Heap.get?_update_self _ hT (Obj.isFreed_of_fields (Obj.data_mapFields hTd _))] at a0; cases a0
        · rw [← other T' q]; exact a0
      have hTn' := nw T' a0'
      refine h h' (fun b o eb kb => k b o (he0 b kb) ((other b (hT0 b kb)).trans eb)) ⟨hn, ho, oe', vs', a1, a2.trans hc, a3, .inr ⟨T', oT', ts', _, a4, a5, hTn'.1, hTn'.2, a6, a7, a8⟩⟩ ⟨oe', vs', T', oT', ts', a1, a3, a4, a5, a6, a7, a8, hTn'.1, hTn'.2⟩
theorem wp_flight {M : Model} {A : Around} {s : Shared} {e : Addr} {c : Nat} {f : Option Addr} {Q : Unit → Shared → Prop} {Er : Value → Shared → Prop} {h₀ : Heap} {π : List Addr} (F : Fly G c e π h₀ s.heap)
    (h : ∀ h', PKeep h₀ π (frs A) s.heap h' → Fly G c e π h₀ h' → Q () { s with heap := h' }) : wpAny M A (setFlight (.ref e) f) Q Er s := by
  obtain ⟨hn, ho, oe, vs, he, hc, hd, hv⟩ := F
  unfold setFlight
  rcases hv with hv | ⟨T, oT, ts, x, hv, hTe, hTn, hTo, hT, hTd, hx⟩
  · refine wpAny_bind (wpAny_field he hd hv ?_)
    rw [if_neg (by decide)]
    exact wpAny_pure (h s.heap .refl ⟨hn, ho, oe, vs, he, hc, hd, .inl hv⟩)
  · refine wpAny_bind (wpAny_field he hd hv ?_)
    rw [if_pos (by simp)]
    have hTsz := (Array.getElem?_eq_some_iff.mp hx).1
    have other : ∀ b (f : Obj → Obj), b ≠ T → (s.heap.update T f).get? b = s.heap.get? b := fun b f hb => Heap.get?_update_other _ _ (Ne.symm hb)
    have hT0 : ∀ b, ((∃ o₀, h₀.get? b = some o₀) ∨ b ∈ π) → b ≠ T := fun b k q => by
      subst q
      rcases k with ⟨o, k⟩ | k
      · rw [hTn] at k; cases k
      · exact hTo k
    refine wpAny_setField hT hTd hTsz (h _ (fun b o eb kb => ⟨⟨o.slots, (other b _ (hT0 b kb)).trans eb⟩, fun _ => (other b _ (hT0 b kb)).trans eb⟩) ⟨hn, ho, oe, vs, (other e _ (Ne.symm hTe)).trans he, hc, hd, .inr ⟨T, _, _, _, hv, hTe, hTn, hTo,
      Heap.get?_update_self _ hT (Obj.isFreed_of_fields (Obj.data_mapFields hTd _)), Obj.data_mapFields hTd _, by rw [Array.getElem?_setIfInBounds_self_of_lt hTsz]⟩⟩)
end Mine
end
section
open PySem PySem.W PyProof.Rows
set_option Elab.async false
set_option linter.unusedVariables false
namespace Mine
variable {G : Gd} {hd : Bool} {b : Nat} {sc : Sc}
noncomputable def rsize (lo hi st : Int) : Int := if st = 1 then (if lo < hi then hi - lo else 0) else (if hi < lo then lo - hi else 0)
theorem rangeSize_eq {lo hi st : Int} (h : st = 1 ∨ st = -1) : Builtin.Range.rangeSize lo hi st = rsize lo hi st := by
  unfold Builtin.Range.rangeSize rsize
  rcases h with rfl | rfl
  · rw [if_pos (by decide), if_pos rfl]; split <;> simp
  · by_cases h : hi < lo <;> simp [h]
inductive ItR (π : List Addr) (h : Heap) (I : Addr) : It → Nat → Prop where
  | rng {lo hi st : Int} {i : Nat} {x left : Int} : st = 1 ∨ st = -1 → x = lo + st * i → left = rsize lo hi st - i → IsRangeIter h I x left st → ItR π h I (.rng lo hi st) i
  | lst {n : Nat} {a : Addr} {i : Nat} : π[n]? = some a → h.IsListIter I a i → ItR π h I (.lst n) i
  | tpl {n : Nat} {a : Addr} {i : Nat} : π[n]? = some a → h.IsTupleIter I a i → ItR π h I (.tpl n) i
theorem ItR.keep {π π' : List Addr} {h h' : Heap} {I : Addr} {it : It} {i : Nat} (x : ItR π h I it i) (p : π <+: π') (k : ∀ o, h.get? I = some o → h'.get? I = some o) : ItR π' h' I it i := by
  cases x with
  | rng a b c d => exact .rng a b c (k _ d)
  | lst a d => exact .lst (prefix_get p a) (let ⟨o, e, r⟩ := d; ⟨o, k _ e, r⟩)
  | tpl a d => exact .tpl (prefix_get p a) (let ⟨o, e, r⟩ := d; ⟨o, k _ e, r⟩)
theorem ItR.here {π : List Addr} {h : Heap} {I : Addr} {it : It} {i : Nat} (x : ItR π h I it i) : ∃ o, h.get? I = some o := by
  cases x with
  | rng _ _ _ d => exact ⟨_, d⟩
  | lst _ d => exact let ⟨o, e, _⟩ := d; ⟨o, e⟩
  | tpl _ d => exact let ⟨o, e, _⟩ := d; ⟨o, e⟩
theorem wp_next {A : Around} {s : Shared} {π : List Addr} {H : Hp} {I : Addr} {it : It} {i : Nat} {r : Option V} {Q : Option Value → Shared → Prop} {Er : Value → Shared → Prop} (hh : A.handled = none) (L : Rel G π H s.heap) (x : ItR π s.heap I it i) (e : nextV it i H = some r)
    (ks : ∀ v v' h' tk', r = some v → VR G.B π v v' → ItR π h' I it (i + 1) → Heap.SameBut I s.heap h' → Q (some v') { s with heap := h', toks := tk' })
    (kn : ∀ h', r = none → Heap.ExtBut I s.heap h' → Q none { s with heap := h' }) : wpAny (model G.prog G.w) A (pyNext (.ref I)) Q Er s := by
  cases x with
  | @rng lo hi st _ xx left hst hx hl hi' =>
    simp only [nextV] at e
    rcases hst with rfl | rfl
    · simp only [if_true] at e
      split at e
      · rename_i hlt
        cases e
        have hpos : 0 < left := by rw [hl]; unfold rsize; simp only [if_true]; split <;> lia
        refine wpAny_pyNext_range_item hi' hpos fun h' it' hs => ?_
        have hx' : xx = lo + i := by lia
        subst hx'
        exact ks _ _ h' _ rfl (.int _ _) (.rng (.inl rfl) (by simp; lia) (by rw [hl]; simp; lia) it') hs
      · rename_i hlt
        cases e
        have hneg : left ≤ 0 := by rw [hl]; unfold rsize; simp only [if_true]; split <;> lia
        exact wpAny_pyNext_range_end hh hi' hneg fun h' hs => kn h' rfl hs
    · rw [if_neg (by decide), if_pos rfl] at e
      split at e
      · rename_i hlt
        cases e
        have hpos : 0 < left := by rw [hl]; unfold rsize; rw [if_neg (by decide)]; split <;> lia
        refine wpAny_pyNext_range_item hi' hpos fun h' it' hs => ?_
        have hx' : xx = lo - i := by lia
        subst hx'
        exact ks _ _ h' _ rfl (.int _ _) (.rng (.inr rfl) (by simp; lia) (by rw [hl]; simp; lia) it') hs
      · rename_i hlt
        cases e
        have hneg : left ≤ 0 := by rw [hl]; unfold rsize; rw [if_neg (by decide)]; split <;> lia
        exact wpAny_pyNext_range_end hh hi' hneg fun h' hs => kn h' rfl hs
  | lst er hi' =>
    simp only [nextV] at e
    split at e
    · rename_i vs hn
      split at e
      · rename_i hlt
        cases e
        refine x2_4 (L.list hn er) fun ws m l r' hl _ => ?_
        have l' := plain_isList ⟨m, l⟩
        cases hv : vs[i]? with
        | none =>
          have : ws.toArray[i]? = none := by
            simp only [List.getElem?_toArray, List.getElem?_eq_none_iff] at hv ⊢; lia
          exact wpAny_pyNext_list_end hh hi' l' this fun h' hs => kn h' hv hs
        | some v =>
          refine x1_2 (r'.get hv) fun w' hw rw' => ?_
          refine wpAny_pyNext_list_item hi' l' (by simpa using hw) fun h' it' hs => ?_
          exact ks v w' h' s.toks hv rw' (.lst er it') hs
      · cases e
    · cases e
  | tpl er hi' =>
    simp only [nextV] at e
    split at e
    · rename_i vs hn
      split at e
      · rename_i hlt
        cases e
        refine x1_4 (L.tup hn er) fun ws l' r' hl _ => ?_
        cases hv : vs[i]? with
        | none =>
          have : ws.toArray[i]? = none := by
            simp only [List.getElem?_toArray, List.getElem?_eq_none_iff] at hv ⊢; lia
          exact wpAny_pyNext_tuple_end hh hi' l' this fun h' hs => kn h' hv hs
        | some v =>
          refine x1_2 (r'.get hv) fun w' hw rw' => ?_
          refine wpAny_pyNext_tuple_item hi' l' (by simpa using hw) fun h' it' hs => ?_
          exact ks v w' h' s.toks hv rw' (.tpl er it') hs
      · cases e
    · cases e
noncomputable def KI (G : Gd) (A : Around) (s : Shared) (π : List Addr) (it : It) (H' : Hp) (Q : Value → Shared → Prop) : Prop :=
  ∀ I π' h' tk', s.heap.get? I = none → I ∉ π' → Step G (frs A) π s.heap π' H' h' → ItR π' h' I it 0 → Q (.ref I) { s with heap := h', toks := tk' }
noncomputable def RefI (G : Gd) (hd : Bool) (b : Nat) (sc : Sc) (e : Expr) (m : IM) : Prop :=
  ∀ (A : Around) (env : Env) (s : Shared) (π : List Addr) (H : Hp) (ρ : List V) (it : It) (H' : Hp) (Q : Value → Shared → Prop) (Er : Value → Shared → Prop),
    Room hd b A → EnvE G sc A env s.heap π ρ → Rel G π H s.heap → m ρ H = some (it, H') →
    KI G A s π it H' Q →
    wpAny (model G.prog G.w) A (eval e env) (fun x s₁ => wpAny (model G.prog G.w) A (pyIter x) Q Er s₁) Er s
theorem KI.cast {A : Around} {s : Shared} {π : List Addr} {v w : It} {H' H'' : Hp} {Q : Value → Shared → Prop} (k : KI G A s π v H' Q) (h : some (w, H'') = some (v, H')) : KI G A s π w H'' Q := sp2 (P := fun v H' => KI G A s π v H' Q) k h
theorem Step.priv {fr : List Addr} {π π' : List Addr} {h h' h'' : Heap} {H' : Hp} (S : Step G fr π h π' H' h') (k : ∀ b o, h'.get? b = some o → h''.get? b = some o) : Step G fr π h π' H' h'' :=
  S.trans (.ext S.rel k)
theorem Step.back {fr : List Addr} {π π' : List Addr} {h h' : Heap} {H' : Hp} {a : Addr} (S : Step G fr π h π' H' h') (e : h'.get? a = none) : h.get? a = none ∧ a ∉ π' := by
  refine ⟨?_, fun q => by obtain ⟨o, e'⟩ := S.rel.here a q; rw [e] at e'; cases e'⟩
  cases q : h.get? a with
  | none => rfl
  | some o =>
    by_cases hp : a ∈ π
    · refine x1_1 (S.rel.here a (S.pre.subset hp)) fun o' e' => ?_
      rw [e] at e'; cases e'
    · refine x1_1 (S.keep.slots a o q hp) fun sl e' => ?_
      rw [e] at e'; cases e'
theorem iref_seq {e : Expr} {m : EM} (he : RefE G hd b sc e m) : RefI G hd b sc e (iSeq m) := by
  intro A env s π H ρ it H' Q Er R X L q k
  refine bind2 q fun v H1 q1 q2 => ?_
  clear q
  dsimp only at q2
  refine he A env s π H ρ _ _ _ _ R X L q1 fun v' π1 h1 t1 r1 S1 => ?_
  split at q2
  · rename_i n
    cases r1 with | ref er => ?_
    rename_i a
    have fin : ∀ (o : Obj) (hf : o.isFreed = false) (it' : It), it' = it → H1 = H' → (∀ h : Heap, h = h1.push o → ItR π1 h h1.objs.size it' 0) → Q (.ref h1.objs.size) { s with heap := h1.push o, toks := t1 } := fun o hf it' e1 e2 hi => by
      subst e1; subst e2
      have S2 := S1.priv (h'' := h1.push o) fun b o e => Heap.get?_push_of_some _ e
      refine x0_2 (S1.back (get_fresh h1)) fun f1 f2 => ?_
      exact k _ π1 _ _ f1 f2 S2 (hi _ rfl)
    split at q2
    · rename_i vs hn
      cases q2
      refine x2_2 (S1.rel.list hn er) fun ws m' l _ => ?_
      refine wpAny_pyIter_list (plain_isList ⟨m', l⟩) (fin _ rfl _ rfl rfl fun h e => ?_)
      subst e
      exact .lst er ⟨_, Heap.get?_push_size _ rfl, rfl, rfl⟩
    · rename_i vs hn
      cases q2
      refine x1_2 (S1.rel.tup hn er) fun ws l _ => ?_
      refine wpAny_pyIter_tuple l (fin _ rfl _ rfl rfl fun h e => ?_)
      subst e
      exact .tpl er ⟨_, Heap.get?_push_size _ rfl, rfl, rfl⟩
    · cases q2
  · cases q2
theorem small_of {lo hi st : Int} (h : st = 1 ∨ st = -1) (h1 : lo.natAbs < lim) (h2 : hi.natAbs < lim) : Builtin.Range.small lo hi st = true := by
  unfold lim at h1 h2
  unfold Builtin.Range.small
  rw [rangeSize_eq h]
  have hr : 0 ≤ rsize lo hi st ∧ rsize lo hi st < 1000000 := by
    unfold rsize
    split <;> split <;> lia
  generalize rsize lo hi st = r at hr
  unfold Builtin.Range.rangeFitsLong
  rcases h with rfl | rfl <;> simp <;> lia
theorem iter_range {A : Around} {s s₀ : Shared} {π π0 : List Addr} {H : Hp} {lo hi st : Int} {t u v : Tok} {Q : Value → Shared → Prop} {Er : Value → Shared → Prop} {fr : List Addr} (S : Step G fr π0 s₀.heap π H s.heap) (hst : st = 1 ∨ st = -1) (h1 : lo.natAbs < lim) (h2 : hi.natAbs < lim)
    (k : ∀ I h', s₀.heap.get? I = none → I ∉ π → Step G fr π0 s₀.heap π H h' → ItR π h' I (.rng lo hi st) 0 → Q (.ref I) { s with heap := h' }) :
    wpAny (model G.prog G.w) A (pyIter (.ref s.heap.objs.size)) Q Er { s with heap := s.heap.push { cls := .type "range", data := .fields #[.int lo t, .int hi u, .int st v] } } := by
  have S1 := S.priv (h'' := s.heap.push { cls := .type "range", data := .fields #[.int lo t, .int hi u, .int st v] }) fun b o e => Heap.get?_push_of_some _ e
  refine wpAny_pyIter_range (Heap.get?_push_size _ rfl) (small_of hst h1 h2) ?_
  refine x0_2 (S1.back (get_fresh _)) fun f1 f2 => ?_
  refine k _ _ f1 f2 (S1.priv fun b o e => Heap.get?_push_of_some _ e) (.rng hst (by simp) ?_ (Heap.get?_push_size _ rfl))
  rw [rangeSize_eq hst]; simp
structure BName (G : Gd) (sc : Sc) (x : Str) : Prop where
  here : sc.scope.names.lookup x = some .globalImplicit
  free : nsIn G.K mainGlobals x = some none
theorem boot_range : bootBuiltins (Str.ofString "range") = some (.type "range") := by first | rfl | decide +kernel
theorem wp_callType {A : Around} {env : Env} {s : Shared} {π : List Addr} {H H' : Hp} {ρ : List V} {x : Str} {T : String} {es : List Expr} {ms : List EM} {vs : List V} {p pos : Pos} {Q : Value → Shared → Prop} {Er : Value → Shared → Prop}
    (N : BName G sc x) (hb : bootBuiltins x = some (.type T)) (hn : x ≠ "__name__") (hd' : (x == ("__debug__" : Str)) = false) (hE : RefEs G hd b sc es ms) (hne : es ≠ []) (R : Room hd b A) (X : EnvE G sc A env s.heap π ρ) (L : Rel G π H s.heap) (q : evs ms ρ H = some (vs, H'))
    (k : ∀ vs' π' h' tk', VRs G.B π' vs vs' → Step G (frs A) π s.heap π' H' h' → wpAny (model G.prog G.w) A (call (.type T) vs') Q Er { s with heap := h', toks := tk' }) :
    wpAny (model G.prog G.w) A (eval (.Call (.Name x p) es [] pos) env) Q Er s := by
  refine Call_Name rfl (name_builtin X L N.here N.free hb hn hd' ?_)
  cases hE with
  | nil => exact absurd rfl hne
  | cons h1 h2 h3 => exact callWith_type1 (ref_spliced (.cons h1 h2 h3) R X L q fun vs' π1 h1 t1 r1 S1 => k _ _ _ _ r1 S1) (h2 env) (star_none h3 env pos)
theorem iref_range1 {e : Expr} {m : EM} {p pos : Pos} (N : BName G sc "range") (hE : RefEs G hd b sc [e] [m]) : RefI G hd b sc (.Call (.Name "range" p) [e] [] pos) (iRange1 m) := by
  intro A env s π H ρ it H' Q Er R X L q k
  refine bind2 q fun v H1 q1 q2 => ?_
  clear q
  dsimp only at q2
  split at q2
  · rename_i hi
    split at q2
    · rename_i hlt
      replace k := KI.cast k q2
      refine wp_callType N boot_range (by decide) (by decide) hE (by simp) R X L (vs := [.int hi]) (by simp only [evs, q1]; rfl) fun vs' π1 h1 t1 r1 S1 => ?_
      cases r1 with | cons ra rb => ?_
      cases rb
      cases ra with | int _ tk => ?_
      exact call_range_1 (iter_range (s := { s with heap := h1, toks := t1 + 1 + 1 }) S1 (.inl rfl) (by decide) hlt fun I h' f1 f2 S2 i2 => k I _ _ _ f1 f2 S2 i2)
    · cases q2
  · cases q2
theorem iref_range2 {e e' : Expr} {m m' : EM} {p pos : Pos} (N : BName G sc "range") (hE : RefEs G hd b sc [e, e'] [m, m']) : RefI G hd b sc (.Call (.Name "range" p) [e, e'] [] pos) (iRange2 m m') := by
  intro A env s π H ρ it H' Q Er R X L q k
  refine bind2 q fun v H1 q1 q2 => ?_
  clear q
  refine bind2 q2 fun w H2 q3 q4 => ?_
  clear q2
  dsimp only at q4 q3
  split at q4
  · rename_i lo hi
    split at q4
    · rename_i hlt
      replace k := KI.cast k q4
      refine wp_callType N boot_range (by decide) (by decide) hE (by simp) R X L (vs := [.int lo, .int hi]) (by simp only [evs, q1, Option.bind_eq_bind, Option.bind_some, q3]; rfl) fun vs' π1 h1 t1 r1 S1 => ?_
      cases r1 with | cons ra rb => ?_
      cases rb with | cons rb rc => ?_
      cases rc
      cases ra with | int _ tk => ?_
      cases rb with | int _ tk' => ?_
      exact call_range_2 (iter_range (s := { s with heap := h1, toks := t1 + 1 }) S1 (.inl rfl) hlt.1 hlt.2 fun I h' f1 f2 S2 i2 => k I _ _ _ f1 f2 S2 i2)
    · cases q4
  · cases q4
theorem iref_rangeDn {e e' e'' : Expr} {m m' : EM} {p pos : Pos} (N : BName G sc "range") (hE : RefEs G hd b sc [e, e', e''] [m, m', eNeg (eInt 1)]) : RefI G hd b sc (.Call (.Name "range" p) [e, e', e''] [] pos) (iRangeDn m m') := by
  intro A env s π H ρ it H' Q Er R X L q k
  refine bind2 q fun v H1 q1 q2 => ?_
  clear q
  refine bind2 q2 fun w H2 q3 q4 => ?_
  clear q2
  dsimp only at q4 q3
  split at q4
  · rename_i lo hi
    split at q4
    · rename_i hlt
      replace k := KI.cast k q4
      refine wp_callType N boot_range (by decide) (by decide) hE (by simp) R X L (vs := [.int lo, .int hi, .int (-1)]) (by simp only [evs, q1, Option.bind_eq_bind, Option.bind_some, q3, eNeg, eInt]; rfl) fun vs' π1 h1 t1 r1 S1 => ?_
      cases r1 with | cons ra rb => ?_
      cases rb with | cons rb rc => ?_
      cases rc with | cons rc rd => ?_
      cases rd
      cases ra with | int _ tk => ?_
      cases rb with | int _ tk' => ?_
      cases rc with | int _ tk'' => ?_
      have h1' := hlt.1
      have h2' := hlt.2
      unfold lim at h1' h2'
      exact call_range_3 (by decide) (iter_range (s := { s with heap := h1, toks := t1 }) S1 (.inr rfl) hlt.1 hlt.2 fun I h' f1 f2 S2 i2 => k I _ _ _ f1 f2 S2 i2) (.inl (PyProof.noPylong_small (by decide)))
    · cases q4
  · cases q4
end Mine
end
section
open PySem PySem.W PyProof.Rows
set_option Elab.async false
set_option linter.unusedVariables false
namespace Mine
variable {G : Gd} {hd : Bool} {b : Nat} {sc : Sc}
theorem At.start {A : Around} {env : Env} {h : Heap} {π : List Addr} {H : Hp} {ρ : List V} (L : Rel G π H h) (X : EnvS G sc A env h π ρ) : At G sc A env h π h π H ρ := ⟨.refl L, X⟩
theorem At.andS {A : Around} {env : Env} {h₀ h h' : Heap} {π π' π'' : List Addr} {H' H'' : Hp} {ρ' ρ'' : List V} (x : At G sc A env h₀ π h π' H' ρ') (S : StepS G (foot env) (frs A) π' h π'' H'' h') (X : EnvS G sc A env h' π'' ρ'') : At G sc A env h₀ π h' π'' H'' ρ'' := ⟨x.step.trans S, X⟩
theorem At.andE {A : Around} {env : Env} {h₀ h h' : Heap} {π π' π'' : List Addr} {H' H'' : Hp} {ρ' : List V} (x : At G sc A env h₀ π h π' H' ρ') (S : Step G (frs A) π' h π'' H'' h') : At G sc A env h₀ π h' π'' H'' ρ' := ⟨x.step.trans (S.toS x.env.disj), x.env.step S⟩
theorem At.rel {A : Around} {env : Env} {h₀ h : Heap} {π π' : List Addr} {H' : Hp} {ρ' : List V} (x : At G sc A env h₀ π h π' H' ρ') : Rel G π' H' h := x.step.rel
theorem EnvE.frs_here {A : Around} {env : Env} {h : Heap} {π : List Addr} {ρ : List V} (X : EnvE G sc A env h π ρ) : ∀ a ∈ frs A, ∃ o, h.get? a = some o := by
  refine x1_3 (X.frames) fun l hl hf _ => ?_
  unfold frs
  rw [hl]
  exact fun a ha => let ⟨o, e, _⟩ := (hf.mem ha).2; ⟨o, e⟩
theorem At.here {A : Around} {env : Env} {h₀ h : Heap} {π π' : List Addr} {H' : Hp} {ρ' : List V} (x : At G sc A env h₀ π h π' H' ρ') (a : Addr) (k : (∃ o, h₀.get? a = some o) ∨ a ∈ π') : ∃ o, h.get? a = some o := by
  rcases k with ⟨o, e⟩ | k
  · cases q : h.get? a with
    | some o => exact ⟨o, rfl⟩
    | none =>
      by_cases hp : a ∈ π
      · refine x1_1 (x.rel.here a (x.step.pre.subset hp)) fun o' e' => ?_
        rw [q] at e'; cases e'
      · have := x.step.back q hp
        rw [e] at this; cases this
  · exact x.rel.here a k
theorem At.fly {A : Around} {env : Env} {s s' : Shared} {π π' : List Addr} {H H' : Hp} {ρ ρ' : List V} {c : Nat} {e : Addr} {Er : Value → Shared → Prop} (L₀ : Rel G π H s.heap) (X₀ : EnvS G sc A env s.heap π ρ) (x : At G sc A env s.heap π s'.heap π' H' ρ') (F : Fly G c e π' s.heap s'.heap)
    (k : ∀ h', Fly G c e π' s.heap h' → At G sc A env s.heap π h' π' H' ρ' → Er (.ref e) { s' with heap := h' }) :
    notedBy (model G.prog G.w) A env (fun x s' => cameBackBy (model G.prog G.w) A env Er x s') (.ref e) s' := by
  refine x1_1 (X₀.top) fun outer hA => ?_
  refine x1_3 (x.env.frames) fun l hl hfun _ => ?_
  rw [hA] at hl; cases hl
  refine wp_note (c := c) hA hfun X₀.frame F X₀.toEnvE.frs_here (fun a ha => x.here a ha) fun h1 k1 F1 tr => ?_
  refine x5_9 tr fun oe vs T oT ts a1 a2 a3 a4 a5 a6 a7 a8 a9 => ?_
  clear tr
  unfold cameBackBy
  refine wpAny_bind (wpAny_field a1 a2 a3 ?_)
  rw [if_neg (by simp)]
  refine wp_flight (s := { s' with heap := h1 }) F1 fun h2 k2 F2 => ?_
  exact k h2 F2 (x.priv L₀ X₀ (k1.trans k2))
theorem sref_for {x : Str} {n : Nat} {p pos : Pos} {iter : Expr} {mi : IM} {body : List Stmt} {mb : SM} (hi : RefI G false b sc iter mi) (hx : (x, n) ∈ sc.vars) (hb : RefB G false b sc body mb) (hf : ∀ env v, foldedSetIterable iter env v = pure v) :
    RefS G false b sc (.For (.Name x p) iter body [] pos) (sFor n mi mb) := by
  intro A env s π H ρ fl ρf Hf Q Er R X L q k kx
  refine bind2 q fun it H1 q1 q2 => ?_
  clear q
  refine wpAny_For (hi A env s π H ρ it H1 _ _ R X.toEnvE L q1 fun I π1 h1 t1 hI hIπ S1 it1 => ?_) (hf env)
  have hIfoot : I ∉ foot env := fun hm => by obtain ⟨_, _, o, e⟩ := X.foots I hm; rw [hI] at e; cases e
  have hIfr : I ∉ frs A := fun hm => by obtain ⟨o, e⟩ := X.toEnvE.frs_here I hm; rw [hI] at e; cases e
  have only : ∀ {h h' : Heap} {π' : List Addr}, I ∉ π' → (∀ b o, b ≠ I → h.get? b = some o → h'.get? b = some o) → PKeep s.heap π' (frs A) h h' := fun {h h' π'} hn ke b o e kb => by
    have : b ≠ I := fun w => by
      subst w
      rcases kb with ⟨o', kb⟩ | kb
      · rw [hI] at kb; cases kb
      · exact hn kb
    exact ⟨⟨o.slots, ke b o this e⟩, fun _ => ke b o this e⟩
  let Inv : Nat → Shared → Prop := fun f s' => ∃ i π' H' h' ρ' tk', s' = { s with heap := h', toks := tk' } ∧ At G sc A env s.heap π h' π' H' ρ' ∧ ItR π' h' I it i ∧ I ∉ π' ∧ forL n it mb f i ρ' H' = some (fl, ρf, Hf)
  refine codeAny_forLoop Inv (fun f s' hInv => ?_) fuel ⟨0, π1, H1, h1, ρ, t1, rfl, (At.start L X).andE S1, it1, hIπ, q2⟩
  refine x6_5 hInv fun i π' H' h' ρ' tk' o2 x' itr hn qf => ?_
  clear hInv
  subst o2
  cases f with
  | zero => cases qf
  | succ f =>
    simp only [forL] at qf
    cases hnx : nextV it i H' with
    | none => rw [hnx] at qf; cases qf
    | some r =>
      rw [hnx] at qf
      refine wp_next R.none x'.rel itr hnx (fun v v' h2 t2 hr rv it2 hs => ?_) fun h2 hr hs => ?_
      · subst hr
        dsimp only at qf
        refine bind3 qf fun fl1 ρ1 H2 q3 q4 => ?_
        clear qf
        have x2 := x'.priv L X (only hn fun b o hb e => (hs.2 b hb).trans e)
        refine wpAny_assign_Name (wp_store (s := { s with heap := h2, toks := t2 }) x2.env x2.rel hx rv fun h3 t3 S3 X3 => ?_)
        have x3 := x2.andS S3 X3
        have hI3 : ∀ o, h2.get? I = some o → h3.get? I = some o := fun o e => S3.keep.exact I o e (fun w => (List.mem_append.mp w).elim hIfoot hn) hIfr
        have it3 := it2.keep (List.prefix_refl _) hI3
        have hI4 : ∀ {h' : Heap} {π'' : List Addr} {H'' : Hp}, StepS G (foot env) (frs A) π' h3 π'' H'' h' → ItR π'' h' I it (i + 1) ∧ I ∉ π'' := fun S => by
          refine ⟨it3.keep S.pre fun o e => S.keep.exact I o e (fun w => (List.mem_append.mp w).elim hIfoot hn) hIfr, fun w => ?_⟩
          have := S.fresh I w hn
          refine x1_1 (it3.here) fun o e => ?_
          rw [this] at e; cases e
        refine hb A env { s with heap := h3, toks := t3 } π' H' _ fl1 ρ1 H2 _ _ R X3 S3.rel q3 (fun fl' π4 h4 t4 rf S4 X4 => ?_) fun c e π4 h4 t4 e4 F S4 X4 => ?_
        · have x4 := x3.andS S4 X4
          cases rf with
          | next => exact ⟨f, Nat.lt_succ_self f, i + 1, π4, H2, h4, ρ1, t4, rfl, x4, (hI4 S4).1, (hI4 S4).2, q4⟩
          | cont => exact ⟨f, Nat.lt_succ_self f, i + 1, π4, H2, h4, ρ1, t4, rfl, x4, (hI4 S4).1, (hI4 S4).2, q4⟩
          | brk => cases q4; exact k _ _ _ _ .next x4.step x4.env
          | ret r => cases q4; exact k _ _ _ _ (.ret r) x4.step x4.env
        · subst e4
          (replace k := KS.cast k q4; replace kx := KX.cast kx q4)
          have x4 := x3.andS S4 X4
          exact At.fly (s := s) (s' := { s with heap := h4, toks := t4 }) L X x4 (F.back x3.step x4.step.pre) fun h5 F5 x5 => kx _ _ _ _ _ rfl F5 x5.step x5.env
      · subst hr
        cases qf
        have x2 := x'.priv L X (only hn fun b o hb e => hs b o hb e)
        exact wpAny_execs_nil (k _ _ _ _ .next x2.step x2.env)
end Mine
end
section
open PySem PySem.W PyProof.Rows
set_option Elab.async false
set_option linter.unusedVariables false
namespace Mine
variable {G : Gd} {hd : Bool} {b : Nat} {sc : Sc}
theorem sref_while {t : Expr} {mt : TM} {body : List Stmt} {mb : SM} {pos : Pos} (ht : RefT G hd b sc t mt) (hb : RefB G hd b sc body mb) : RefS G hd b sc (.While t body [] pos) (sWhile mt mb) := by
  intro A env s π H ρ fl ρf Hf Q Er R X L q k kx
  refine wpAny_While ?_
  let Inv : Nat → Shared → Prop := fun f s' => ∃ π' H' h' ρ' tk', s' = { s with heap := h', toks := tk' } ∧ At G sc A env s.heap π h' π' H' ρ' ∧ whileL mt mb f ρ' H' = some (fl, ρf, Hf)
  refine codeAny_whileLoop Inv (fun f s' hInv => ?_) fuel ⟨π, H, s.heap, ρ, s.toks, rfl, .start L X, q⟩
  refine x5_3 hInv fun π' H' h' ρ' tk' o1 x' qf => ?_
  clear hInv
  subst o1
  cases f with
  | zero => cases qf
  | succ f =>
    simp only [whileL] at qf
    refine bind2 qf fun c H1 q1 q2 => ?_
    clear qf
    refine ht A env { s with heap := h', toks := tk' } π' H' ρ' c H1 _ _ R x'.env.toEnvE x'.rel q1 fun π1 h1 t1 S1 => ?_
    have x1 := x'.andE S1
    cases c with
    | false =>
      simp only [Bool.false_eq_true, if_false] at q2 ⊢
      (replace k := KS.cast k q2; replace kx := KX.cast kx q2)
      exact wpAny_execs_nil (k _ _ _ _ .next x1.step x1.env)
    | true =>
      simp only [if_true] at q2 ⊢
      refine bind3 q2 fun fl1 ρ1 H2 q3 q4 => ?_
      clear q2
      refine hb A env { s with heap := h1, toks := t1 } π1 H1 ρ' fl1 ρ1 H2 _ _ R x1.env x1.rel q3 (fun fl' π4 h4 t4 rf S4 X4 => ?_) fun c e π4 h4 t4 e4 F S4 X4 => ?_
      · have x4 := x1.andS S4 X4
        cases rf with
        | next => exact ⟨f, Nat.lt_succ_self f, π4, H2, h4, ρ1, t4, rfl, x4, q4⟩
        | cont => exact ⟨f, Nat.lt_succ_self f, π4, H2, h4, ρ1, t4, rfl, x4, q4⟩
        | brk => cases q4; exact k _ _ _ _ .next x4.step x4.env
        | ret r => cases q4; exact k _ _ _ _ (.ret r) x4.step x4.env
      · subst e4
        cases q4
noncomputable def closL (cells : List (Str × Addr)) : List (Str × NameKind) → List (Str × Addr) → List (Str × Addr)
  | [], acc => acc
  | (n, k) :: r, acc => if k == .free then closL cells r ((n, (cells.lookup n).getD 0) :: acc) else closL cells r acc
theorem closure_of {scope : Scope} {env : Env} (h : ∀ x, (x, NameKind.free) ∈ scope.names → ∃ c, env.cells.lookup x = some c) : closureFor scope env = pure (closL env.cells scope.names []) := by
  have key : ∀ (f : Str × NameKind → List (Str × Addr) → Sem (ForInStep (List (Str × Addr)))) (hf : ∀ n k cs, f (n, k) cs = if k == .free then (do let a ← cellOf env n; pure (.yield ((n, a) :: cs))) else pure (.yield cs)) (names : List (Str × NameKind)) (acc : List (Str × Addr)),
      (∀ x, (x, NameKind.free) ∈ names → ∃ c, env.cells.lookup x = some c) → forIn names acc f = (pure (closL env.cells names acc) : Sem _) := by
    intro f hf names
    induction names with
    | nil => intro acc _; rfl
    | cons p r ih =>
      obtain ⟨n, kk⟩ := p
      intro acc hh
      rw [List.forIn_cons, hf]
      simp only [closL]
      by_cases hk : (kk == NameKind.free) = true
      · rw [if_pos hk, if_pos hk]
        have hk' : kk = NameKind.free := by simpa using hk
        refine x1_1 (hh n (by rw [hk']; exact List.mem_cons_self)) fun c hc => ?_
        have : cellOf env n = pure c := by unfold cellOf; rw [hc]
        rw [this, hc]
        exact ih _ fun x hx => hh x (List.mem_cons_of_mem _ hx)
      · rw [if_neg hk, if_neg hk]
        exact ih _ fun x hx => hh x (List.mem_cons_of_mem _ hx)
  unfold closureFor
  have := key (fun x cs => match x with | (n, k) => if k == .free then (do let a ← cellOf env n; pure (.yield ((n, a) :: cs))) else pure (.yield cs)) (fun _ _ _ => rfl) scope.names [] h
  first
    | exact (congrArg (fun t => t >>= fun cs => pure cs) this)
    | (simp only [bind_pure]; exact this)
theorem closL_lookup {cells : List (Str × Addr)} {x : Str} {c : Addr} (hc : cells.lookup x = some c) : ∀ (names : List (Str × NameKind)) (acc : List (Str × Addr)), ((x, NameKind.free) ∈ names ∨ acc.lookup x = some c) → (closL cells names acc).lookup x = some c
  | [], acc, h => by
    rcases h with h | h
    · cases h
    · exact h
  | (n, k) :: r, acc, h => by
    simp only [closL]
    by_cases hk : (k == NameKind.free) = true
    · rw [if_pos hk]
      refine closL_lookup hc r _ ?_
      by_cases hx : x = n
      · right; subst hx
        rw [List.lookup_cons]; simp [hc]
      · rcases h with h | h
        · left
          rcases List.mem_cons.mp h with e | e
          · cases e; exact absurd rfl hx
          · exact e
        · right
          rw [List.lookup_cons]
          have : (x == n) = false := by simpa using hx
          rw [this]; exact h
    · rw [if_neg hk]
      refine closL_lookup hc r _ ?_
      rcases h with h | h
      · left
        rcases List.mem_cons.mp h with e | e
        · cases e; exact absurd rfl hk
        · exact e
      · exact .inr h
theorem closL_mem {cells : List (Str × Addr)} : ∀ (names : List (Str × NameKind)) (acc : List (Str × Addr)) (p : Str × Addr), (∀ x, (x, NameKind.free) ∈ names → ∃ c, cells.lookup x = some c) → p ∈ closL cells names acc → p ∈ acc ∨ cells.lookup p.1 = some p.2
  | [], acc, p, _, h => .inl h
  | (n, k) :: r, acc, p, hh, h => by
    simp only [closL] at h
    have hr : ∀ x, (x, NameKind.free) ∈ r → ∃ c, cells.lookup x = some c := fun x hx => hh x (List.mem_cons_of_mem _ hx)
    by_cases hk : (k == NameKind.free) = true
    · rw [if_pos hk] at h
      rcases closL_mem r _ p hr h with h | h
      · rcases List.mem_cons.mp h with e | e
        · right
          have hk' : k = NameKind.free := by simpa using hk
          refine x1_1 (hh n (by rw [hk']; exact List.mem_cons_self)) fun c hc => ?_
          subst e
          simp [hc]
        · exact .inl e
      · exact .inr h
    · rw [if_neg hk] at h
      exact closL_mem r _ p hr h
noncomputable def relabelS (cs fs : Scope) : Scope :=
  { cs with names := cs.names.map fun (n, k) => if (k == .free && fs.kind == .function && fs.names.lookup n == some .cell) then (n, .cell) else (n, k) }
theorem relabel_eq (cs : Scope) (env : Env) : relabel cs env = relabelS cs env.scope := rfl
theorem lookup_mem {α : Type} {x : Str} {v : α} {l : List (Str × α)} (h : l.lookup x = some v) : (x, v) ∈ l := PySem.mem_of_lookup h
theorem relabel_cell {cs fs : Scope} {x : Str} (hc : ∀ y ∈ cs.names, y.2 ≠ .cell) (h : (relabelS cs fs).names.lookup x = some .cell) : (x, NameKind.free) ∈ cs.names ∧ fs.names.lookup x = some .cell := by
  have := lookup_mem h
  refine x1_2 (List.mem_map.mp this) fun o4 hm he => ?_
  obtain ⟨n, k⟩ := o4
  dsimp only at he
  split at he
  · rename_i hk
    simp only [Bool.and_eq_true, beq_iff_eq] at hk
    cases he
    obtain ⟨⟨h1, _⟩, h3⟩ := hk
    subst h1
    exact ⟨hm, h3⟩
  · cases he
    exact absurd rfl (hc _ hm)
structure CompOk (sc : Sc) (cs : Scope) (x : Str) (slot : Nat) (vars : List (Str × Nat)) : Prop where
  kind : cs.kind = .function
  nocell : ∀ y ∈ cs.names, y.2 ≠ .cell
  locals : ∀ y ∈ cs.names, y.2 = .local → cs.names.lookup y.1 = some .local
  own : cs.names.lookup x = some .local
  free : ∀ y, (y, NameKind.free) ∈ cs.names → sc.scope.names.lookup y = some .cell
  apart : ∀ y k, (y, k) ∈ sc.vars → k ≠ slot
  vars : ∀ y k, (y, k) ∈ vars → (y = x ∧ k = slot) ∨ (y ≠ x ∧ (y, k) ∈ sc.vars ∧ (y, NameKind.free) ∈ cs.names ∧ (relabelS cs sc.scope).names.lookup y = some .cell)
theorem nth_pre {α : Type} {l : List α} {a : α} : (l ++ [a])[l.length]? = some a := by simp
theorem Step.adopt {fr : List Addr} {π π' : List Addr} {h h' : Heap} {H H' : Hp} {a : Addr} {o : O} (L : Rel G π H h) (S : Step G fr π h π' H' h') (hn : h.get? a = none) (ha : a ∉ π') (hh : ∃ o, h'.get? a = some o)
    (ho : OR G (π' ++ [a]) h' H'.length o) (hz : olen o ≤ szl) (hi : ∀ c fs, o ≠ .inst c fs) : Step G fr π h (π' ++ [a]) (H' ++ [o]) h' := by
  have k1 : ∀ b o, (h'.hide a).get? b = some o → h'.get? b = some o := fun b o e => Heap.of_hide e
  have k2 : ∀ b o, b ≠ a → h'.get? b = some o → (h'.hide a).get? b = some o := fun b o hb e => (Heap.hide_ne h' hb).trans e
  have na : ∀ {b o}, h.get? b = some o → b ≠ a := fun {b o} e q => by subst q; rw [hn] at e; cases e
  have R1 : Rel G π' H' (h'.hide a) := by
    refine ⟨fun b o e => k2 b o (na (L.stays b o e)) (S.rel.stays b o e), S.rel.len, S.rel.nodup, S.rel.new, fun b hb => ?_, fun n o e => (S.rel.obj n o e).mono (List.prefix_refl _) fun b hb o e => k2 b o (fun q => ha (q ▸ hb)) e, S.rel.aux, S.rel.size⟩
    refine x1_1 (S.rel.here b hb) fun o e => ?_
    exact ⟨o, k2 b o (fun q => ha (q ▸ hb)) e⟩
  have S1 : Step G fr π h π' H' (h'.hide a) := ⟨S.pre, R1, ⟨fun b o e hb => by
    refine x1_1 (S.keep.slots b o e hb) fun sl e' => ?_
    exact ⟨sl, k2 b _ (na e) e'⟩, fun b o e hb hf => k2 b o (na e) (S.keep.exact b o e hb hf)⟩, S.fresh⟩
  exact S1.trans (.push R1 k1 (Heap.hide_self h' a) hh ho hz fun c fs e => absurd e (hi c fs))
structure CompAt (G : Gd) (A : Around) (h₀ : Heap) (π : List Addr) (I C D : Addr) (it : It) (h : Heap) (π' : List Addr) (H' : Hp) (i : Nat) (acc : List V) : Prop where
  step : Step G (frs A) π h₀ π' H' h
  itr : ItR π' h I it i
  ns : ∃ m, h.Ns C m
  acc : ∃ ws : List Value, h.PlainList D ws.toArray ∧ VRs G.B π' acc ws
  notI : I ∉ π'
  notC : C ∉ π'
  notD : D ∉ π'
theorem Step.other {fr : List Addr} {π π' : List Addr} {h h' h'' : Heap} {H H' : Hp} {P : Addr} (L : Rel G π H h) (S : Step G fr π h π' H' h') (hP : h.get? P = none) (hn : P ∉ π') (ke : ∀ b o, b ≠ P → h'.get? b = some o → h''.get? b = some o) : Step G fr π h π' H' h'' := by
  have na : ∀ {b o}, h.get? b = some o → b ≠ P := fun {b o} e q => by subst q; rw [hP] at e; cases e
  have kπ : ∀ b ∈ π', ∀ o, h'.get? b = some o → h''.get? b = some o := fun b hb o e => ke b o (fun q => hn (q ▸ hb)) e
  exact ⟨S.pre, ⟨fun b o e => ke b o (na (L.stays b o e)) (S.rel.stays b o e), S.rel.len, S.rel.nodup, S.rel.new, fun a ha => let ⟨o, e⟩ := S.rel.here a ha; ⟨o, kπ a ha o e⟩, fun n o e => (S.rel.obj n o e).mono (List.prefix_refl _) kπ, S.rel.aux, S.rel.size⟩,
    ⟨fun b o e hb => let ⟨sl, e'⟩ := S.keep.slots b o e hb; ⟨sl, ke b _ (na e) e'⟩, fun b o e hb hf => ke b o (na e) (S.keep.exact b o e hb hf)⟩, S.fresh⟩
theorem CompAt.more {A : Around} {h₀ h h' : Heap} {π π' π'' : List Addr} {I C D : Addr} {it : It} {H' H'' : Hp} {i : Nat} {acc : List V} (x : CompAt G A h₀ π I C D it h π' H' i acc) (S : Step G (frs A) π' h π'' H'' h')
    (hI : I ∉ frs A) (hC : C ∉ frs A) (hD : D ∉ frs A) : CompAt G A h₀ π I C D it h' π'' H'' i acc := by
  have ex : ∀ P, P ∉ π' → P ∉ frs A → ∀ o, h.get? P = some o → h'.get? P = some o := fun P h1 h2 o e => S.keep.exact P o e h1 h2
  have fr : ∀ P, P ∉ π' → (∃ o, h.get? P = some o) → P ∉ π'' := fun P h1 ⟨o, e⟩ w => by
    have := S.fresh P w h1
    rw [e] at this; cases this
  refine x1_1 (x.ns) fun m hm => ?_
  refine x1_2 (x.acc) fun ws hl hr => ?_
  refine x3_2 hm fun oC esC epC hoC hrC => ?_
  clear hm
  refine x1_1 hl fun nD hoD => ?_
  clear hl
  exact ⟨x.step.trans S, x.itr.keep S.pre (ex I x.notI hI), ⟨m, oC, esC, epC, ex C x.notC hC _ hoC, hrC⟩, ⟨ws, ⟨nD, ex D x.notD hD _ hoD⟩, hr.mono S.pre⟩, fr I x.notI x.itr.here, fr C x.notC ⟨_, hoC⟩, fr D x.notD ⟨_, hoD⟩⟩
theorem comp_env {A : Around} {env : Env} {h : Heap} {π : List Addr} {ρ : List V} {cs : Scope} {x : Str} {slot : Nat} {vars : List (Str × Nat)} {C : Addr} {m : Str → Option Value} {v : V} {v' : Value} (X : EnvE G sc A env h π ρ) (K : CompOk sc cs x slot vars)
    (hC : C ∉ π) (hB : G.B.get? C = none) (hn : h.Ns C m) (hm : m x = some v') (r : VR G.B π v v') :
    EnvE G ⟨relabelS cs sc.scope, vars⟩ A (compEnvC cs (closL env.cells cs.names []) C env) h π (ρ.set slot v) := by
  have hfree : ∀ y, (y, NameKind.free) ∈ cs.names → ∃ c, env.cells.lookup y = some c := fun y hy => X.cellsE y (K.free y hy)
  have hsc : (compEnvC cs (closL env.cells cs.names []) C env).scope = relabelS cs sc.scope := by
    show relabel cs env = _
    rw [relabel_eq, X.scope]
  refine ⟨hsc, K.kind, X.glob, X.blt, X.frames, fun y k hy w hw hu => ?_, fun b hb => ?_, fun y hy => ?_⟩
  · rcases K.vars y k hy with ⟨rfl, rfl⟩ | ⟨hyx, h1, h2, h3⟩
    · rcases getElem?_set_eq hw with ⟨_, rfl⟩ | ⟨q, _⟩
      · refine ⟨v', r, .inl ⟨?_, m, hn, hm⟩⟩
        exact lookup_relabel_local K.own
      · exact absurd rfl q
    · rcases getElem?_set_eq hw with ⟨q, _⟩ | ⟨_, hw⟩
      · exact absurd q (K.apart y k h1)
      · refine x1_2 (X.vars y k h1 w hw hu) fun w' rw' rd => ?_
        refine ⟨w', rw', ?_⟩
        have hcell : env.kindOf y = some .cell := by unfold Env.kindOf; rw [X.scope]; exact K.free y h2
        rcases rd with ⟨q, _⟩ | ⟨_, c, hc, hv⟩
        · rw [hcell] at q; cases q
        · refine .inr ⟨.inl ?_, c, closL_lookup hc cs.names [] (.inl h2), hv⟩
          unfold Env.kindOf; rw [hsc]; exact h3
  · rcases List.mem_cons.mp hb with e | hb
    · have e' : b = C := e
      subst e'
      refine x3_2 hn fun o _ _ ho _ => ?_
      clear hn
      exact ⟨hC, hB, o, ho⟩
    · refine x1_2 (List.mem_map.mp hb) fun p hp o5 => ?_
      subst o5
      rcases closL_mem cs.names [] p hfree hp with q | q
      · cases q
      · exact X.foots _ (foot_cell q)
  · refine x0_2 (relabel_cell K.nocell hy) fun h1 h2 => ?_
    refine x1_1 (X.cellsE y h2) fun c hc => ?_
    exact ⟨c, closL_lookup hc cs.names [] (.inl h1)⟩
inductive RefC (G : Gd) (hd : Bool) (b : Nat) (sc : Sc) : List Expr → Option TM → Prop where
  | none : RefC G hd b sc [] none
  | one {e : Expr} {m : TM} : RefT G hd b sc e m → RefC G hd b sc [e] (some m)
theorem pyIter_self {A : Around} {s : Shared} {π : List Addr} {I : Addr} {it : It} {i : Nat} {Q : Value → Shared → Prop} {Er : Value → Shared → Prop} (x : ItR π s.heap I it i) (h : Q (.ref I) s) : wpAny (model G.prog G.w) A (pyIter (.ref I)) Q Er s := by
  cases x with
  | rng _ _ _ d => exact wpAny_pyIter_rangeiter d h
  | lst _ d => exact wpAny_pyIter_listiter d h
  | tpl _ d => exact wpAny_pyIter_tupleiter d h
theorem wp_comp {A : Around} {env : Env} {s : Shared} {π : List Addr} {H H1 Hf : Hp} {ρ : List V} {cs : Scope} {x : Str} {slot : Nat} {vars : List (Str × Nat)} {px cpos pos : Pos} {iter elt : Expr} {ifs : List Expr} {mi : IM} {mc : Option TM} {me : EM} {it : It} {accf : List V} {use : Option (Value → Sem Unit)} {Q : Value → Shared → Prop} {Er : Value → Shared → Prop}
    (K : CompOk sc cs x slot vars) (hi : RefI G false b sc iter mi) (hc : RefC G false b ⟨relabelS cs sc.scope, vars⟩ ifs mc) (he : RefE G false b ⟨relabelS cs sc.scope, vars⟩ elt me) (hs : ∀ v, foldedSetIterable iter env v = pure v)
    (R : Room false b A) (X : EnvE G sc A env s.heap π ρ) (L : Rel G π H s.heap) (q1 : mi ρ H = some (it, H1)) (q2 : compL slot it mc me ρ fuel 0 [] H1 = some (accf, Hf))
    (k : ∀ C D π' h' tk', s.heap.get? C = none → C ∉ π' ++ [D] → (∃ m, h'.Ns C m) → π'.length = Hf.length → Step G (frs A) π s.heap (π' ++ [D]) (Hf ++ [.list accf]) h' → compPost (model G.prog G.w) A Er use Q (.ref D) C (.ok .next) { s with heap := h', toks := tk' }) :
    wpAny (model G.prog G.w) A (comprehension (.ListComp elt [⟨.Name x px, iter, ifs, 0⟩] cs cpos) cs env pos (newList []) false (eval iter env) use) Q Er s := by
  have hfree : ∀ y, (y, NameKind.free) ∈ cs.names → ∃ c, env.cells.lookup y = some c := fun y hy => X.cellsE y (K.free y hy)
  have nfr : ∀ P, s.heap.get? P = none → P ∉ frs A := fun P hP hm => by obtain ⟨o, e⟩ := X.frs_here P hm; rw [hP] at e; cases e
  have nB : ∀ P, s.heap.get? P = none → G.B.get? P = none := fun P hP => by
    cases q : G.B.get? P with
    | none => rfl
    | some o => have := L.stays P o q; rw [hP] at this; cases this
  refine wpAny_comprehension_free rfl hs (closure_of hfree) K.kind K.locals (hi A env s π H ρ it H1 _ _ R X L q1 fun I π1 h1 t1 hI hIπ S1 it1 => ?_)
  refine wpAny_newObj_type ?_ (by show (([] : List Value).toArray).size ≤ sizeLine; simp)
  refine wpAny_newFunctionEnv K.nocell (by intro y hy; simp at hy) (fun h3 hns hsb => ?_) K.kind
  dsimp only at hns hsb ⊢
  refine x0_2 (S1.back (get_fresh h1)) fun hD hDπ => ?_
  generalize hh2 : h1.push { cls := .type "list", dict := none, data := .seq ([] : List Value).toArray } = h2 at hns hsb ⊢
  have S2 : Step G (frs A) π s.heap π1 H1 h2 := hh2 ▸ S1.priv fun b o e => Heap.get?_push_of_some _ e
  have hDl : h2.PlainList h1.objs.size ([] : List Value).toArray := hh2 ▸ ⟨0, Heap.get?_push_size _ rfl⟩
  have it2 : ItR π1 h2 I it 0 := it1.keep (List.prefix_refl _) fun o e => hh2 ▸ Heap.get?_push_of_some _ e
  refine x0_2 (S2.back (get_fresh h2)) fun hC hCπ => ?_
  have ne : ∀ {P o}, h2.get? P = some o → P ≠ h2.objs.size := fun {P o} e => Nat.ne_of_lt (Heap.lt_size e)
  have k23 : ∀ b o, h2.get? b = some o → h3.get? b = some o := fun b o e => hsb.extBut b o (ne e) (Heap.get?_push_of_some _ e)
  have S3 : Step G (frs A) π s.heap π1 H1 h3 := S2.priv k23
  have c3 : CompAt G A s.heap π I h2.objs.size h1.objs.size it h3 π1 H1 0 [] := ⟨S3, it2.keep (List.prefix_refl _) (k23 I), ⟨_, hns⟩, ⟨[], (let ⟨n, e⟩ := hDl; ⟨n, k23 _ _ e⟩), .nil⟩, hIπ, hCπ, hDπ⟩
  have hIC : I ≠ h2.objs.size := let ⟨o, e⟩ := it2.here; ne e
  have hDC : h1.objs.size ≠ h2.objs.size := let ⟨n, e⟩ := hDl; ne e
  have hID : I ≠ h1.objs.size := let ⟨o, e⟩ := it1.here; Nat.ne_of_lt (Heap.lt_size e)
  generalize h2.objs.size = C at *
  generalize h1.objs.size = D at *
  have loop : ∀ s₃ : Shared, s₃ = { s with heap := h3, toks := t1 + ([] : List (Str × Value)).length } →
      codeAny (model G.prog G.w) A (.compLoop (.ListComp elt [⟨.Name x px, iter, ifs, 0⟩] cs cpos) 0 (.ref I) (.ref D) (compEnvC cs (closL env.cells cs.names []) C env)) (compPost (model G.prog G.w) A Er use Q (.ref D) C) s₃ := by
    rintro s₃ rfl
    let Inv : Nat → Shared → Prop := fun f s' => ∃ i π' H' h' tk' acc, s' = { s with heap := h', toks := tk' } ∧ CompAt G A s.heap π I C D it h' π' H' i acc ∧ compL slot it mc me ρ f i acc H' = some (accf, Hf) ∧ acc.length + f ≤ fuel
    refine codeAny_compLoop_tests Inv (fun f s' hInv => ?_) fuel ⟨0, π1, H1, h3, _, [], rfl, c3, q2, by simp⟩
    refine x6_4 hInv fun i π' H' h' tk' acc o6 x' qf hlen => ?_
    clear hInv
    subst o6
    cases f with
    | zero => cases qf
    | succ f =>
      simp only [compL] at qf
      cases hnx : nextV it i H' with
      | none => rw [hnx] at qf; cases qf
      | some r =>
        rw [hnx] at qf
        refine wp_next R.none x'.step.rel x'.itr hnx (fun v v' h4 t4 hr rv it4 hs4 => ?_) fun h4 hr hs4 => ?_
        · subst hr
          dsimp only at qf
          refine x1_1 (x'.ns) fun m hm => ?_
          refine x1_2 (x'.acc) fun ws hl hr => ?_
          have ke : ∀ b o, b ≠ I → h'.get? b = some o → h4.get? b = some o := fun b o hb e => (hs4.2 b hb).trans e
          have S4 := x'.step.other L hI x'.notI ke
          have hm4 : h4.Ns C m := hm.sameBut hs4 (Ne.symm hIC)
          have hl4 : h4.PlainList D ws.toArray := let ⟨n, e⟩ := hl; ⟨n, ke D _ (Ne.symm hID) e⟩
          refine wpAny_assign_Name (wpAny_storeName_local (lookup_relabel_local K.own) hm4 (fun h5 hn5 hs5 => ?_) (by show ((relabel cs env).kind == _ || ((relabel cs env).kind == _ && _)) = false; rw [show (relabel cs env).kind = cs.kind from rfl, K.kind]; rfl))
          have ke5 : ∀ b o, b ≠ C → h4.get? b = some o → h5.get? b = some o := fun b o hb e => (hs5.2 b hb).trans e
          have S5 := S4.other L hC x'.notC ke5
          have x5 : CompAt G A s.heap π I C D it h5 π' H' (i + 1) acc := ⟨S5, it4.keep (List.prefix_refl _) fun o e => ke5 I o hIC e, ⟨_, hn5⟩, ⟨ws, (let ⟨n, e⟩ := hl4; ⟨n, ke5 D _ hDC e⟩), hr⟩, x'.notI, x'.notC, x'.notD⟩
          have X5 : EnvE G ⟨relabelS cs sc.scope, vars⟩ A (compEnvC cs (closL env.cells cs.names []) C env) h5 π' (ρ.set slot v) := comp_env (X.step S5) K x'.notC (nB C hC) hn5 (by simp) rv
          have rest : ∀ (h6 : Heap) (t6 : Nat) (π6 : List Addr) (t' : Bool) (H6 : Hp), Step G (frs A) π' h5 π6 H6 h6 → (if t' = true then (me (ρ.set slot v) H6).bind fun y => compL slot it mc me ρ f (i + 1) (acc ++ [y.1]) y.2 else compL slot it mc me ρ f (i + 1) acc H6) = some (accf, Hf) → ∀ Er',
              (if t' = true then wpAny (model G.prog G.w) A (eval elt (compEnvC cs (closL env.cells cs.names []) C env)) (fun x s₄ => wpAny (model G.prog G.w) A (call (.builtin "list.append") [.ref D, x]) (fun _ s₅ => ∃ m, m < f + 1 ∧ Inv m s₅) Er' s₄) Er' { s with heap := h6, toks := t6 }
               else ∃ m, m < f + 1 ∧ Inv m { s with heap := h6, toks := t6 }) := by
            intro h6 t6 π6 t' H6 S6 q6 Er'
            have x6 := x5.more S6 (nfr I hI) (nfr C hC) (nfr D hD)
            cases t' with
            | false =>
              simp only [Bool.false_eq_true, if_false] at q6 ⊢
              exact ⟨f, Nat.lt_succ_self f, i + 1, π6, H6, h6, t6, acc, rfl, x6, q6, by omega⟩
            | true =>
              simp only [if_true] at q6 ⊢
              refine bind2 q6 fun y H7 q7 q8 => ?_
              clear q6
              refine he A _ { s with heap := h6, toks := t6 } π6 H6 _ y H7 _ _ R (X5.step S6) S6.rel q7 fun y' π7 h7 t7 ry S7 => ?_
              have x7 := x6.more S7 (nfr I hI) (nfr C hC) (nfr D hD)
              refine x1_2 (x7.acc) fun ws7 hl7 hr7 => ?_
              have hw7 := hr7.length
              refine wpAny_list_append_plain hl7 (fun h8 hl8 hs8 => ?_) (by simp only [List.size_toArray, sizeLine]; unfold fuel at hlen; omega)
              have ke8 : ∀ b o, b ≠ D → h7.get? b = some o → h8.get? b = some o := fun b o hb e => (hs8.2 b hb).trans e
              refine x4_2 (x7.ns) fun m7 oC esC epC hoC hrC => ?_
              refine ⟨f, Nat.lt_succ_self f, i + 1, π7, H7, h8, t7, acc ++ [y], rfl, ⟨x7.step.other L hD x7.notD ke8, x7.itr.keep (List.prefix_refl _) fun o e => ke8 I o hID e, ⟨m7, oC, esC, epC, ke8 C _ (Ne.symm hDC) hoC, hrC⟩, ⟨ws7 ++ [y'], by simpa using hl8, hr7.append (.cons ry .nil)⟩, x7.notI, x7.notC, x7.notD⟩, q8, by simp; omega⟩
          cases hc with
          | none =>
            refine wpAny_tests_nil ?_
            exact rest h5 (t4 + 1) π' true H' (.refl S5.rel) (by simpa using qf) _
          | one ht =>
            refine bind2 qf fun t H2 q3 q4 => ?_
            clear qf
            dsimp only at q4
            refine wpAny_tests_one (ht A _ { s with heap := h5, toks := t4 + 1 } π' H' _ t H2 _ _ R X5 S5.rel q3 fun π6 h6 t6 S6 => ?_)
            exact rest h6 t6 π6 t H2 S6 q4 _
        · subst hr
          cases qf
          refine x1_1 (x'.ns) fun m hm => ?_
          refine x1_2 (x'.acc) fun ws hl hr => ?_
          have S4 := x'.step.other L hI x'.notI fun b o hb e => hs4 b o hb e
          have hl4 : h4.PlainList D ws.toArray := let ⟨n, e⟩ := hl; ⟨n, hs4 D _ (Ne.symm hID) e⟩
          have hm4 : h4.Ns C m := let ⟨o, es, ep, e, r⟩ := hm; ⟨o, es, ep, hs4 C o (Ne.symm hIC) e, r⟩
          have S5 : Step G (frs A) π s.heap (π' ++ [D]) (Hf ++ [.list accf]) h4 := S4.adopt L hD x'.notD (let ⟨n, e⟩ := hl4; ⟨_, e⟩) (.list (by rw [← S4.rel.len]; simp) hl4 (hr.mono (List.prefix_append _ _))) (by simp only [olen]; unfold fuel at hlen; unfold szl; omega) (by intro _ _ q; cases q)
          exact k C D π' h4 _ hC (fun w => by rcases List.mem_append.mp w with w | w; exact x'.notC w; exact hDC (List.mem_singleton.mp w).symm) ⟨m, hm4⟩ S4.rel.len S5
  exact codeAny_compStart_list (loop _ rfl) (pyIter_self (π := π1) c3.itr (loop _ rfl))
end Mine
end
section
open PySem PySem.W PyProof.Rows
set_option Elab.async false
set_option linter.unusedVariables false
namespace Mine
variable {G : Gd} {hd : Bool} {b : Nat} {sc : Sc}
theorem ref_comp {cs : Scope} {x : Str} {slot : Nat} {vars : List (Str × Nat)} {px pos : Pos} {iter elt : Expr} {ifs : List Expr} {mi : IM} {mc : Option TM} {me : EM}
    (K : CompOk sc cs x slot vars) (hi : RefI G false b sc iter mi) (hc : RefC G false b ⟨relabelS cs sc.scope, vars⟩ ifs mc) (he : RefE G false b ⟨relabelS cs sc.scope, vars⟩ elt me) (hs : ∀ (env : Env) v, foldedSetIterable iter env v = pure v) :
    RefE G false b sc (.ListComp elt [⟨.Name x px, iter, ifs, 0⟩] cs pos) (eComp slot mi mc me) := by
  intro A env s π H ρ v H' Q Er R X L q k
  refine bind2 q fun it H1 q1 q2 => ?_
  clear q
  refine bind2 q2 fun acc H2 q3 q4 => ?_
  clear q2
  replace k := KE.cast k q4
  rw [eval_ListComp]
  refine wp_comp K hi hc he (hs env) R X L q1 q3 fun C D π' h' tk' hC hCn hm hlen S => ?_
  refine x1_1 hm fun m hm => ?_
  refine ⟨m, hm, fun h'' hs' => ?_⟩
  exact k _ _ _ _ (.ref (by rw [← hlen]; exact nth_pre)) (S.other L hC hCn fun b o hb e => (hs'.2 b hb).trans e)
theorem wpAny_evalThenUse_ListComp {M : Model} {A : Around} {s : Shared} {env : Env} {elt : Expr} {gens : List Comprehension} {cs : Scope} {pos : Pos} {use : Value → Sem Unit} {Q : Unit → Shared → Prop} {Er : Value → Shared → Prop}
    (h : wpAny M A (comprehension (.ListComp elt gens cs pos) cs env (firstIterPos gens pos) (newList []) (firstAsync gens) (firstIter gens env) (some use)) (fun _ => Q ()) Er s) : wpAny M A (evalThenUse (.ListComp elt gens cs pos) env use) Q Er s := by
  rw [arm_evalThenUse_ListComp]
  exact wpAny_bind (wpAny_mono h (fun _ _ h' => wpAny_pure h') fun _ _ h' => h')
theorem sref_assign_comp {y : Str} {n : Nat} {p spos : Pos} {cs : Scope} {x : Str} {slot : Nat} {vars : List (Str × Nat)} {px pos : Pos} {iter elt : Expr} {ifs : List Expr} {mi : IM} {mc : Option TM} {me : EM}
    (K : CompOk sc cs x slot vars) (hi : RefI G false b sc iter mi) (hc : RefC G false b ⟨relabelS cs sc.scope, vars⟩ ifs mc) (he : RefE G false b ⟨relabelS cs sc.scope, vars⟩ elt me) (hs : ∀ (env : Env) v, foldedSetIterable iter env v = pure v)
    (hy : (y, n) ∈ sc.vars) (hsw : ∀ env : Env, env.scope = sc.scope → swapsWith (.ListComp elt [⟨.Name x px, iter, ifs, 0⟩] cs pos) (some (.Name y p)) spos.line env = pure true) :
    RefS G false b sc (.Assign [.Name y p] (.ListComp elt [⟨.Name x px, iter, ifs, 0⟩] cs pos) spos) (sAssign n (eComp slot mi mc me)) := by
  intro A env s π H ρ fl ρ' H' Q Er R X L q k kx
  refine bind2 q fun v H0 q0 q00 => ?_
  clear q
  (replace k := KS.cast k q00; replace kx := KX.cast kx q00)
  refine bind2 q0 fun it H1 q1 q2 => ?_
  clear q0
  refine bind2 q2 fun acc H2 q3 q4 => ?_
  clear q2
  cases q4
  rw [exec_Assign_Name_used _ _ _ _ (hsw env X.scope)]
  refine wpAny_bind (wpAny_standAt (wpAny_bind (wpAny_evalThenUse_ListComp ?_)))
  refine wp_comp K hi hc he (hs env) R X.toEnvE L q1 q3 fun C D π' h' tk' hC hCn hm hlen S => ?_
  refine x1_1 hm fun m hm => ?_
  refine wpAny_assign_Name (wp_store (s := { s with heap := h', toks := tk' }) (v := .ref H2.length) (X.step S) S.rel hy (.ref (by rw [← hlen]; exact nth_pre)) fun h2 t2 S2 X2 => ?_)
  have a2 : At G sc A env s.heap π h2 (π' ++ [D]) (H2 ++ [.list acc]) (ρ.set n (.ref H2.length)) := ⟨(S.toS X.disj).trans S2, X2⟩
  have hCf : C ∉ foot env := fun w => by obtain ⟨_, _, o, e⟩ := X.foots C w; rw [hC] at e; cases e
  have hCfr : C ∉ frs A := fun w => by obtain ⟨o, e⟩ := X.toEnvE.frs_here C w; rw [hC] at e; cases e
  have hm2 : h2.Ns C m := by
    refine x3_2 hm fun o es ep e r => ?_
    clear hm
    exact ⟨o, es, ep, S2.keep.exact C o e (fun w => by rcases List.mem_append.mp w with w | w; exact hCf w; exact hCn w) hCfr, r⟩
  refine ⟨m, hm2, fun h3 hs3 => wpAny_pure ?_⟩
  have a3 := a2.priv (h' := h3) L X fun b o e hb => by
    have hbC : b ≠ C := fun w => by
      subst w
      rcases hb with ⟨o', e'⟩ | hb
      · rw [hC] at e'; cases e'
      · exact hCn hb
    have := (hs3.2 b hbC).trans e
    exact ⟨⟨o.slots, this⟩, fun _ => this⟩
  exact k _ _ _ _ .next a3.step a3.env
end Mine
end
section
open PySem PySem.W PyProof.Rows
set_option Elab.async false
set_option linter.unusedVariables false
namespace Mine
variable {G : Gd} {hd : Bool} {b : Nat} {sc : Sc}
theorem boot_len : bootBuiltins (Str.ofString "len") = some (.builtin "len") := by first | rfl | decide +kernel
theorem boot_min : bootBuiltins (Str.ofString "min") = some (.builtin "min") := by first | rfl | decide +kernel
theorem boot_max : bootBuiltins (Str.ofString "max") = some (.builtin "max") := by first | rfl | decide +kernel
theorem boot_sum : bootBuiltins (Str.ofString "sum") = some (.builtin "sum") := by first | rfl | decide +kernel
theorem boot_sorted : bootBuiltins (Str.ofString "sorted") = some (.builtin "sorted") := by first | rfl | decide +kernel
theorem boot_list' : bootBuiltins (Str.ofString "list") = some (.type "list") := by first | rfl | decide +kernel
theorem wp_callB {A : Around} {env : Env} {s : Shared} {π : List Addr} {H H' : Hp} {ρ : List V} {x : Str} {T : String} {es : List Expr} {ms : List EM} {vs : List V} {p pos : Pos} {Q : Value → Shared → Prop} {Er : Value → Shared → Prop}
    (N : BName G sc x) (hb : bootBuiltins x = some (.builtin T)) (hn : x ≠ "__name__") (hd' : (x == ("__debug__" : Str)) = false) (hE : RefEs G hd b sc es ms) (hne : es ≠ []) (R : Room hd b A) (X : EnvE G sc A env s.heap π ρ) (L : Rel G π H s.heap) (q : evs ms ρ H = some (vs, H'))
    (k : ∀ vs' π' h' tk', VRs G.B π' vs vs' → Step G (frs A) π s.heap π' H' h' → wpAny (model G.prog G.w) A (call (.builtin T) vs') Q Er { s with heap := h', toks := tk' }) :
    wpAny (model G.prog G.w) A (eval (.Call (.Name x p) es [] pos) env) Q Er s := by
  refine Call_Name rfl (name_builtin X L N.here N.free hb hn hd' ?_)
  cases hE with
  | nil => exact absurd rfl hne
  | cons h1 h2 h3 => exact PyProof.Rows.callWith_builtin1 (ref_spliced (.cons h1 h2 h3) R X L q fun vs' π1 h1 t1 r1 S1 => k _ _ _ _ r1 S1) (h2 env) (star_none h3 env pos)
theorem intsAre_length {vs : List Value} {is : List Int} (x : IntsAre vs is) : vs.length = is.length := by
  induction x with
  | nil => rfl
  | cons _ _ _ ih => simp [ih]
theorem ref_len {e : Expr} {m : EM} {p pos : Pos} (N : BName G sc "len") (hE : RefEs G hd b sc [e] [m]) : RefE G hd b sc (.Call (.Name "len" p) [e] [] pos) (eLen m) := by
  intro A env s π H ρ v H' Q Er R X L q k
  refine bind2 q fun x H1 q1 q2 => ?_
  clear q
  refine bind1 q2 fun i q3 q4 => ?_
  clear q2
  replace k := KE.cast k q4
  refine wp_callB N boot_len (by decide) (by decide) hE (by simp) R X L (vs := [x]) (by simp only [evs, q1]; rfl) fun vs' π1 h1 t1 r1 S1 => ?_
  cases r1 with | cons ra rb => ?_
  cases rb
  unfold lenV at q3
  split at q3
  · rename_i is
    cases q3
    cases ra with | scr hl hi hlt => ?_
    rename_i a ws
    have hlen := intsAre_length hi
    refine Calls.call_len_list (items := ws.toArray) (let ⟨o, e, r⟩ := hl; ⟨o, S1.rel.stays _ _ e, r⟩) (by simp only [List.size_toArray, hlen]; unfold lim at hlt; lia) ?_
    simp only [List.size_toArray, hlen]
    exact k _ _ _ _ (.int _ _) S1
  · rename_i n
    cases ra with | ref er => ?_
    split at q3
    · rename_i vs hn
      cases q3
      refine x2_4 (S1.rel.list hn er) fun ws m' l _ hl hz => ?_
      refine Calls.call_len_list (items := ws.toArray) (plain_isList ⟨m', l⟩) (by simp only [List.size_toArray, ← hl]; lia) ?_
      simp only [List.size_toArray, ← hl]
      exact k _ _ _ _ (.int _ _) S1
    · rename_i vs hn
      cases q3
      refine x1_4 (S1.rel.tup hn er) fun ws l _ hl hz => ?_
      refine PyProof.Rows.len_tuple (items := ws.toArray) l (by simp only [List.size_toArray, ← hl]; lia) ?_
      simp only [List.size_toArray, ← hl]
      exact k _ _ _ _ (.int _ _) S1
    · cases q3
  · cases q3
theorem intsAre_items {vs : List Value} {is : List Int} (x : IntsAre vs is) : ∃ xs : Array (Int × Tok), vs.toArray = intItems xs ∧ xs.toList.map (·.1) = is := by
  induction x with
  | nil => exact ⟨#[], by simp [intItems], rfl⟩
  | @cons n t vs ns _ ih =>
    refine x1_2 ih fun xs h1 h2 => ?_
    clear ih
    refine ⟨((n, t) :: xs.toList).toArray, ?_, by simp [h2]⟩
    apply Array.toList_inj.mp
    have := congrArg Array.toList h1
    simp only [intItems, Array.toList_map] at this ⊢
    simpa using this
theorem numAt_of {xs : Array (Int × Tok)} {is : List Int} (h : xs.toList.map (·.1) = is) (j : Nat) : numAt xs j = (is[j]?).getD 0 := by
  subst h
  simp [numAt]
theorem preSum_of {f : Nat → Int} {is : List Int} (h : ∀ j, f j = (is[j]?).getD 0) : ∀ k, preSum f k = (is.take k).sum
  | 0 => rfl
  | k + 1 => by
    rw [preSum, preSum_of h k, h, List.take_add_one, List.sum_append]
    cases is[k]? <;> simp
theorem maxI_snoc (x : Int) : ∀ (l : List Int) (m : Int), maxI m (l ++ [x]) = if x > maxI m l then x else maxI m l
  | [], m => rfl
  | i :: l, m => by simp only [List.cons_append, maxI]; exact maxI_snoc x l _
theorem best_of {f : Nat → Int} {i : Int} {r : List Int} (h : ∀ j, f j = ((i :: r)[j]?).getD 0) : ∀ k, k ≤ r.length → f (argBest (fun a b => decide (f a > f b)) k) = maxI i (r.take k)
  | 0, _ => by simp [argBest, h, maxI]
  | k + 1, hk => by
    have ih := best_of h k (by lia)
    have hlt : k < r.length := hk
    have hx : f (k + 1) = r[k] := by rw [h]; simp [hlt]
    rw [List.take_add_one, List.getElem?_eq_getElem hlt]
    simp only [Option.toList_some, maxI_snoc, argBest]
    by_cases c : f (k + 1) > f (argBest (fun a b => decide (f a > f b)) k)
    · rw [if_pos (by simpa using c), hx, if_pos (by rw [← ih, ← hx]; exact c)]
    · rw [if_neg (by simpa using c), if_neg (by rw [← ih, ← hx]; exact c), ih]
theorem listAt_list {x : V} {H : Hp} {vs : List V} (h : listAt x H = some vs) : ∃ n, x = .ref n ∧ H[n]? = some (.list vs) := by
  unfold listAt at h
  split at h
  · rename_i n
    split at h
    · rename_i ws hn; cases h; exact ⟨n, rfl, hn⟩
    · cases h
  · cases h
theorem ref_max1 {e : Expr} {m : EM} {p pos : Pos} (N : BName G sc "max") (hE : RefEs G false b sc [e] [m]) : RefE G false b sc (.Call (.Name "max" p) [e] [] pos) (eMax1 m) := by
  intro A env s π H ρ v H' Q Er R X L q k
  refine bind2 q fun x H1 q1 q2 => ?_
  clear q
  refine bind1 q2 fun vs q3 q4 => ?_
  clear q2
  refine x1_2 (listAt_list q3) fun n e0 hn => ?_
  subst e0
  split at q4
  · rename_i i r hi
    replace k := KE.cast k q4
    refine wp_callB N boot_max (by decide) (by decide) hE (by simp) R X L (vs := [.ref n]) (by simp only [evs, q1]; rfl) fun vs' π1 h1 t1 r1 S1 => ?_
    cases r1 with | cons ra rb => ?_
    cases rb
    cases ra with | ref er => ?_
    refine x2_4 (S1.rel.list hn er) fun ws m' l rr hl hz => ?_
    refine x1_2 (intsAre_items (intsV_are rr hi)) fun xs hx1 hx2 => ?_
    have hsz : xs.size = r.length + 1 := by
      have := congrArg List.length hx2
      simpa using this
    refine max_intList R.none (by rw [← hx1]; exact plain_isList ⟨m', l⟩) (by lia) fun v' h' tk' hv kk => ?_
    refine x1_1 (intItems_at hv) fun t' o3 => ?_
    subst o3
    have hb := best_of (numAt_of hx2) (xs.size - 1) (by lia)
    rw [hb, List.take_of_length_le (by lia)]
    exact k _ _ _ _ (.int _ _) (S1.priv kk)
  · cases q4
theorem ref_sum {e : Expr} {m : EM} {p pos : Pos} (N : BName G sc "sum") (hE : RefEs G false b sc [e] [m]) : RefE G false b sc (.Call (.Name "sum" p) [e] [] pos) (eSum m) := by
  intro A env s π H ρ v H' Q Er R X L q k
  refine bind2 q fun x H1 q1 q2 => ?_
  clear q
  refine bind1 q2 fun vs q3 q4 => ?_
  clear q2
  refine x1_2 (listAt_list q3) fun n e0 hn => ?_
  subst e0
  split at q4
  · rename_i is hi
    replace k := KE.cast k q4
    refine wp_callB N boot_sum (by decide) (by decide) hE (by simp) R X L (vs := [.ref n]) (by simp only [evs, q1]; rfl) fun vs' π1 h1 t1 r1 S1 => ?_
    cases r1 with | cons ra rb => ?_
    cases rb
    cases ra with | ref er => ?_
    refine x2_4 (S1.rel.list hn er) fun ws m' l rr hl hz => ?_
    refine x1_2 (intsAre_items (intsV_are rr hi)) fun xs hx1 hx2 => ?_
    have hsz : xs.size = is.length := by
      have := congrArg List.length hx2
      simpa using this
    refine sum_intListG R.none (by rw [← hx1]; exact plain_isList ⟨m', l⟩) fun h' tk' t' kk => ?_
    rw [preSum_of (numAt_of hx2), List.take_of_length_le (by lia)]
    exact k _ _ _ _ (.int _ _) (S1.priv kk)
  · cases q4
theorem insI_perm (x : Int) : ∀ l, (insI x l).Perm (x :: l)
  | [] => .refl _
  | y :: r => by
    unfold insI
    split
    · exact .refl _
    · exact ((insI_perm x r).cons y).trans (.swap x y r)
theorem sortI_perm' : ∀ l, (sortI l).Perm l
  | [] => .refl _
  | x :: r => (insI_perm x (sortI r)).trans ((sortI_perm' r).cons x)
theorem insI_rises (x : Int) : ∀ l : List Int, l.Pairwise (· ≤ ·) → (insI x l).Pairwise (· ≤ ·)
  | [], _ => by simp [insI]
  | y :: r, h => by
    refine x0_2 (List.pairwise_cons.mp h) fun h1 h2 => ?_
    unfold insI
    split
    · rename_i hxy
      refine List.pairwise_cons.mpr ⟨fun z hz => ?_, h⟩
      rcases List.mem_cons.mp hz with rfl | hz
      · exact hxy
      · exact Int.le_trans hxy (h1 z hz)
    · rename_i hxy
      refine List.pairwise_cons.mpr ⟨fun z hz => ?_, insI_rises x r h2⟩
      rcases List.mem_cons.mp ((insI_perm x r).mem_iff.mp hz) with rfl | hz
      · lia
      · exact h1 z hz
theorem sortI_rises' : ∀ l, (sortI l).Pairwise (· ≤ ·)
  | [] => .nil
  | x :: r => insI_rises x _ (sortI_rises' r)
theorem vrs_ints {B : Heap} {π : List Addr} : ∀ {vs : List Value} {is : List Int}, IntsAre vs is → VRs B π (is.map .int) vs
  | _, _, .nil => .nil
  | _, _, .cons n t x => .cons (.int n t) (vrs_ints x)
theorem ref_sorted {e : Expr} {m : EM} {p pos : Pos} (N : BName G sc "sorted") (hE : RefEs G hd b sc [e] [m]) : RefE G hd b sc (.Call (.Name "sorted" p) [e] [] pos) (eSorted m) := by
  intro A env s π H ρ v H' Q Er R X L q k
  refine bind2 q fun x H1 q1 q2 => ?_
  clear q
  refine bind1 q2 fun vs q3 q4 => ?_
  clear q2
  refine x1_2 (listAt_list q3) fun n e0 hn => ?_
  subst e0
  split at q4
  · rename_i is hi
    split at q4
    · rename_i hlt
      replace k := KE.cast k q4
      refine wp_callB N boot_sorted (by decide) (by decide) hE (by simp) R X L (vs := [.ref n]) (by simp only [evs, q1]; rfl) fun vs' π1 h1 t1 r1 S1 => ?_
      cases r1 with | cons ra rb => ?_
      cases rb
      cases ra with | ref er => ?_
      refine x2_4 (S1.rel.list hn er) fun ws m' l rr hl hz => ?_
      have hI := intsV_are rr hi
      have hwl := intsAre_length hI
      refine sorted_ints (plain_isList ⟨m', l⟩) hI (by lia) fun out ns' hO hp hs => ?_
      have e1 : ns' = sortI is := List.Perm.eq_of_pairwise (fun _ _ _ _ a b => Int.le_antisymm a b) hs (sortI_rises' is) (hp.trans (sortI_perm' is).symm)
      subst e1
      refine x1_1 (sortedAll_at h1 ws out) fun c hat => ?_
      have hnew : h1.get? (h1.objs.size + 1) = none := by
        cases q : h1.get? (h1.objs.size + 1) with
        | none => rfl
        | some o => exact absurd (Heap.lt_size q) (Nat.not_lt.mpr (Nat.le_succ _))
      have hol : out.toList.length = (sortI is).length := intsAre_length hO
      have hpl := hp.length_eq
      refine k _ (π1 ++ [h1.objs.size + 1]) _ t1 (.new S1.rel.len) (S1.trans (.push S1.rel (fun b o e => sortedAll_old e) hnew ⟨_, hat⟩ (.list (ws := out.toList) (by rw [← S1.rel.len]; exact nth_pre) ⟨c, by rw [Array.toArray_toList]; exact hat⟩ (vrs_ints hO)) ?_ nofun))
      simp only [olen, List.length_map, szl]; lia
    · cases q4
  · cases q4
theorem ref_min2 {e e' : Expr} {m m' : EM} {p pos : Pos} (N : BName G sc "min") (hE : RefEs G false b sc [e, e'] [m, m']) : RefE G false b sc (.Call (.Name "min" p) [e, e'] [] pos) (eMin2 m m') := by
  intro A env s π H ρ v H' Q Er R X L q k
  refine bind2 q fun x H1 q1 q2 => ?_
  clear q
  refine bind2 q2 fun y H2 q3 q4 => ?_
  clear q2
  dsimp only at q3 q4
  split at q4
  · rename_i i j
    replace k := KE.cast k q4
    refine wp_callB N boot_min (by decide) (by decide) hE (by simp) R X L (vs := [.int i, .int j]) (by simp only [evs, q1, Option.bind_eq_bind, Option.bind_some, q3]; rfl) fun vs' π1 h1 t1 r1 S1 => ?_
    cases r1 with | cons ra rb => ?_
    cases rb with | cons rb rc => ?_
    cases rc
    cases ra with | int _ t => ?_
    cases rb with | int _ u => ?_
    refine min_two_ints R.none fun h' tk kk => ?_
    refine k _ _ _ _ ?_ (S1.priv kk)
    split
    · exact .int _ _
    · exact .int _ _
  · cases q4
theorem ref_max2 {e e' : Expr} {m m' : EM} {p pos : Pos} (N : BName G sc "max") (hE : RefEs G false b sc [e, e'] [m, m']) : RefE G false b sc (.Call (.Name "max" p) [e, e'] [] pos) (eMax2 m m') := by
  intro A env s π H ρ v H' Q Er R X L q k
  refine bind2 q fun x H1 q1 q2 => ?_
  clear q
  refine bind2 q2 fun y H2 q3 q4 => ?_
  clear q2
  dsimp only at q3 q4
  split at q4
  · rename_i i j
    replace k := KE.cast k q4
    refine wp_callB N boot_max (by decide) (by decide) hE (by simp) R X L (vs := [.int i, .int j]) (by simp only [evs, q1, Option.bind_eq_bind, Option.bind_some, q3]; rfl) fun vs' π1 h1 t1 r1 S1 => ?_
    cases r1 with | cons ra rb => ?_
    cases rb with | cons rb rc => ?_
    cases rc
    cases ra with | int _ t => ?_
    cases rb with | int _ u => ?_
    refine max_two_ints R.none fun h' tk kk => ?_
    refine k _ _ _ _ ?_ (S1.priv kk)
    split
    · exact .int _ _
    · exact .int _ _
  · cases q4
theorem All2.of_get {α β : Type} {R : α → β → Prop} : ∀ {as : List α} {bs : List β}, as.length = bs.length → (∀ (j : Nat) a b, as[j]? = some a → bs[j]? = some b → R a b) → All2 R as bs
  | [], [], _, _ => .nil
  | a :: as, b :: bs, hl, h => .cons (h 0 a b rfl rfl) (All2.of_get (by simpa using hl) fun j x y hx hy => h (j + 1) x y (by simpa using hx) (by simpa using hy))
  | [], _ :: _, hl, _ => by cases hl
  | _ :: _, [], hl, _ => by cases hl
theorem rangeL_items {B : Heap} {π : List Addr} {lo hi : Int} {acc : Array Value} (h : ItemsOf (fun i v => ∃ t, v = .int (lo + (i : Int) * 1) t) acc (hi - lo).toNat) : VRs B π (rangeL lo hi) acc.toList := by
  refine All2.of_get (by simp [rangeL, h.1]) fun j a b ha hb => ?_
  refine x1_1 (h.2 j b (by simpa using hb)) fun t o10 => ?_
  subst o10
  unfold rangeL at ha
  rw [List.getElem?_map] at ha
  refine x1_2 (Option.map_eq_some_iff.mp ha) fun i hi' o11 => ?_
  subst o11
  have : i = j := by
    rw [List.getElem?_range] at hi' <;> first | (injection hi' with q; exact q.symm) | skip
    have := (List.getElem?_eq_some_iff.mp hi').1
    simpa using this
  subst this
  rw [Int.mul_one]
  exact .int _ _
theorem ref_listRange {e e' : Expr} {m m' : EM} {p p' pos pos' : Pos} (N : BName G sc "list") (N' : BName G sc "range") (hE : RefEs G false b sc [e, e'] [m, m']) :
    RefE G false b sc (.Call (.Name "list" p) [.Call (.Name "range" p') [e, e'] [] pos'] [] pos) (eListRange m m') := by
  intro A env s π H ρ v H' Q Er R X L q k
  refine bind2 q fun x H1 q1 q2 => ?_
  clear q
  refine bind2 q2 fun y H2 q3 q4 => ?_
  clear q2
  dsimp only at q3 q4
  split at q4
  · rename_i lo hi
    split at q4
    · rename_i hlt
      replace k := KE.cast k q4
      refine Call_Name rfl (name_builtin X L N.here N.free boot_list' (by decide) (by decide) ?_)
      refine callWith_type1 (Calls.spliced_cons ?_) rfl rfl
      refine wp_callType N' boot_range (by decide) (by decide) hE (by simp) R X L (vs := [.int lo, .int hi]) (by simp only [evs, q1, Option.bind_eq_bind, Option.bind_some, q3]; rfl) fun vs' π1 h1 t1 r1 S1 => ?_
      cases r1 with | cons ra rb => ?_
      cases rb with | cons rb rc => ?_
      cases rc
      cases ra with | int _ t => ?_
      cases rb with | int _ u => ?_
      refine call_range_2 (Calls.spliced_nil ?_)
      have S2 := S1.priv (h'' := h1.push { cls := .type "range", data := .fields #[.int lo t, .int hi u, .int 1 t1] }) fun b o e => Heap.get?_push_of_some _ e
      have hs := small_of (lo := lo) (hi := hi) (.inl rfl) hlt.1 hlt.2
      have hsz := rangeSize_eq (lo := lo) (hi := hi) (st := 1) (.inl rfl)
      have hn : (rsize lo hi 1) = (((hi - lo).toNat : Nat) : Int) := by unfold rsize; simp only [if_true]; split <;> lia
      have hb : (hi - lo).toNat ≤ 300000 := by have := hlt.1; have := hlt.2; unfold lim at *; lia
      refine call_list_range (n := (hi - lo).toNat) R.none (Heap.get?_push_size h1 (o := { cls := .type "range", data := .fields #[.int lo t, .int hi u, .int 1 t1] }) rfl) hs (hsz.trans hn) (Nat.le_trans hb (by decide)) fun h' tk acc c kk hat hit => ?_
      have hfr := get_fresh (h1.push { cls := .type "range", data := .fields #[.int lo t, .int hi u, .int 1 t1] })
      refine k _ (π1 ++ [_]) _ tk (.new S2.rel.len) (S2.trans (.push S2.rel kk hfr ⟨_, hat⟩ (.list (ws := acc.toList) (by rw [← S2.rel.len]; exact nth_pre) ⟨c, by rw [Array.toArray_toList]; exact hat⟩ ?_) ?_ nofun))
      · exact rangeL_items hit
      · simp only [olen, rangeL, List.length_map, List.length_range, szl]; lia
    · cases q4
  · cases q4
end Mine
end
section
open PySem PySem.W PyProof.Rows
set_option Elab.async false
set_option linter.unusedVariables false
namespace Mine
variable {G : Gd} {hd : Bool} {b : Nat} {sc : Sc}
theorem ref_append {o e : Expr} {mo me : EM} {apos pos : Pos} (ho : RefE G hd b sc o mo) (he : RefE G hd b sc e me) (hst : ∀ env, starEach [e] env = (false, eval e env) :: starEach [] env) (hform : MForm o (Str.ofString "append") apos [e] pos) :
    RefE G hd b sc (.Call (.Attribute o (Str.ofString "append") apos) [e] [] pos) (eAppend mo me) := by
  intro A env s π H ρ v H' Q Er R X L q k
  refine bind2 q fun x H1 q1 q2 => ?_
  clear q
  dsimp only at q2
  split at q2
  · rename_i n
    split at q2
    · rename_i vs0 hn0
      refine bind2 q2 fun y H2 q3 q4 => ?_
      clear q2
      dsimp only at q4
      split at q4
      · rename_i vs hn
        split at q4
        · rename_i hlt
          replace k := KE.cast k q4
          refine x1_1 (hform env) fun pl hpl => ?_
          refine MethodCall_ (pl := pl) (ho A env s π H ρ _ _ _ _ R X L q1 fun x' π1 h1 t1 r1 S1 => ?_) hpl
          cases r1 with | ref er => ?_
          rename_i a
          refine x2_2 (S1.rel.list hn0 er) fun ws0 m0 l0 _ => ?_
          refine Calls.getMethod_list_append l0 rfl rfl ?_
          dsimp only
          rw [hst]
          show wpAny _ A (callWith pos _ _ [(false, eval e env)] []) Q Er _
          refine P.append_list ?_
          refine he A env { s with heap := h1, toks := t1 } π1 H1 ρ y H2 _ _ R (X.step S1) S1.rel q3 fun y' π2 h2 t2 r2 S2 => ?_
          refine x2_4 (S2.rel.list hn (prefix_get S2.pre er)) fun ws m l rr hl hz => ?_
          refine ⟨ws.toArray, m, by simp only [List.size_toArray, ← hl, sizeLine]; unfold lim at hlt; omega, l, ?_⟩
          have hx := IsL.same l (·.push y')
          refine k _ _ _ _ .none ((S1.trans S2).trans (.upd S2.rel (prefix_get S2.pre er) (Heap.SameBut.update ..) (let ⟨_, q⟩ := hx; ⟨_, q⟩) hn (.inl ⟨vs, rfl⟩) (.list (ws := ws ++ [y']) (prefix_get S2.pre er) ?_ (rr.append (.cons r2 .nil))) ?_ nofun))
          · simpa using hx
          · simp only [olen, List.length_append, List.length_cons, List.length_nil]; unfold lim at hlt; unfold szl; omega
        · cases q4
      · cases q4
    · cases q2
  · cases q2
theorem ref_pop {o : Expr} {mo : EM} {apos pos : Pos} (ho : RefE G hd b sc o mo) (hform : MForm o (Str.ofString "pop") apos [] pos) :
    RefE G hd b sc (.Call (.Attribute o (Str.ofString "pop") apos) [] [] pos) (ePop mo) := by
  intro A env s π H ρ v H' Q Er R X L q k
  refine bind2 q fun x H1 q1 q2 => ?_
  clear q
  dsimp only at q2
  split at q2
  · rename_i n
    split at q2
    · rename_i vs hn
      split at q2
      · rename_i w hw
        replace k := KE.cast k q2
        refine x1_1 (hform env) fun pl hpl => ?_
        refine MethodCall_ (pl := pl) (ho A env s π H ρ _ _ _ _ R X L q1 fun x' π1 h1 t1 r1 S1 => ?_) hpl
        cases r1 with | ref er => ?_
        rename_i a
        refine x2_4 (S1.rel.list hn er) fun ws m l rr hl hz => ?_
        refine getMethod_builtin (T := "list") ⟨_, l, rfl⟩ PySem.F.plainAttrs_list PySem.F.slot_list_pop PySem.F.type_list_pop (fun b e => by cases e; exact ⟨_, l, rfl⟩) ?_
        dsimp only
        show wpAny _ A (callWith pos _ _ [] []) Q Er _
        refine x1_2 (rr.getLast? hw) fun w' hw' rw' => ?_
        have hx := IsL.same l (fun xs => xs.eraseIdxIfInBounds (ws.toArray.size - 1))
        refine P.pop_list l (y := w') ?_ ?_ (by simp only [List.size_toArray, ← hl, sizeLine]; omega)
        · rw [List.getLast?_eq_getElem?] at hw'
          simpa using hw'
        · refine k _ _ _ t1 rw' (S1.trans (.upd S1.rel er (Heap.SameBut.update ..) (let ⟨_, q⟩ := hx; ⟨_, q⟩) hn (.inl ⟨vs, rfl⟩) (.list (ws := ws.dropLast) er ?_ rr.dropLast) ?_ nofun))
          · have e0 : ws.toArray.eraseIdxIfInBounds (ws.toArray.size - 1) = ws.dropLast.toArray := by
              apply Array.toList_inj.mp
              simp [Array.eraseIdxIfInBounds, List.dropLast_eq_take]
              split
              · rfl
              · show ws = _
                rw [List.take_of_length_le (by omega)]
            rw [e0] at hx; exact hx
          · simp only [olen, List.length_dropLast]; unfold szl; omega
      · cases q2
    · cases q2
  · cases q2
theorem ref_get {o e e' : Expr} {mo me me' : EM} {apos pos : Pos} (ho : RefE G hd b sc o mo) (he : RefE G hd b sc e me) (he' : RefE G hd b sc e' me') (hst : ∀ env, starEach [e, e'] env = [(false, eval e env), (false, eval e' env)]) (hform : MForm o (Str.ofString "get") apos [e, e'] pos) :
    RefE G hd b sc (.Call (.Attribute o (Str.ofString "get") apos) [e, e'] [] pos) (eGet mo me me') := by
  intro A env s π H ρ v H' Q Er R X L q k
  refine bind2 q fun x H1 q1 q2 => ?_
  clear q
  dsimp only at q2
  split at q2
  · rename_i n
    split at q2
    · rename_i es0 hn0
      refine bind2 q2 fun y H2 q3 q4 => ?_
      clear q2
      refine bind2 q4 fun z H3 q5 q6 => ?_
      clear q4
      dsimp only at q5 q6
      split at q6
      · rename_i _ i es hn
        replace k := KE.cast k q6
        refine x1_1 (hform env) fun pl hpl => ?_
        refine MethodCall_ (pl := pl) (ho A env s π H ρ _ _ _ _ R X L q1 fun x' π1 h1 t1 r1 S1 => ?_) hpl
        cases r1 with | ref er => ?_
        rename_i a
        cases S1.rel.obj _ _ hn0 with | dict e0 im hsys dl rr => ?_
        rw [er] at e0; cases e0
        refine getMethod_builtin (T := "dict") im.typeIs PySem.F.plainAttrs_dict PySem.F.slot_dict_get PySem.F.type_dict_get im.mapOf.noDict ?_
        dsimp only
        rw [hst]
        show wpAny _ A (callWith pos _ _ [(false, eval e env), (false, eval e' env)] []) Q Er _
        refine wpAny_dict_get2 (knd := intKind G.prog G.w) hsys ?_
        refine he A env { s with heap := h1, toks := t1 } π1 H1 ρ _ H2 _ _ R (X.step S1) S1.rel q3 fun y' π2 h2 t2 r2 S2 => ?_
        refine he' A env { s with heap := h2, toks := t2 } π2 H2 ρ _ _ _ _ R ((X.step S1).step S2) S2.rel q5 fun z' π3 h3 t3 r3 S3 => ?_
        cases S3.rel.obj _ _ hn with | dict e0 im' hsys' dl' rr' => ?_
        rename_i kvs' 
        rw [prefix_get S3.pre (prefix_get S2.pre er)] at e0; cases e0
        cases r2 with | int _ tk => ?_
        refine ⟨i, valueAt kvs', by simp [intKind, Value.isInt], im'.mapOf, ?_⟩
        refine k _ _ _ _ ?_ ((S1.trans S2).trans S3)
        have := rr' i
        generalize valueAt kvs' i = u at this ⊢
        generalize getD i es = u' at this ⊢
        cases this with
        | none => exact r3
        | some r => exact r
      · cases q6
    · cases q2
  · cases q2
end Mine
end
section
open PySem PySem.W PyProof.Rows
set_option Elab.async false
set_option linter.unusedVariables false
namespace Mine
variable {G : Gd} {hd : Bool} {b : Nat} {sc : Sc}
structure FnOk (G : Gd) (f : Addr) (fd : FuncData) (sc : Sc) (ps : List Str) (body : List Stmt) : Prop where
  here : ∃ oc od sl, G.K.lookup f = some ⟨oc, od, .func fd, sl⟩
  code : ∃ c oc od vs sl t, fd.code = .ref c ∧ G.K.lookup c = some ⟨oc, od, .fields vs, sl⟩ ∧ vs[1]? = some (.str fd.qualname t)
  body : fd.body = .stmts body
  bind : ∀ vals, vals.length = ps.length → bindArgs fd ⟨vals, []⟩ = pure (ps.zip vals)
  clo : fd.closure = []
  scope : fd.scope = sc.scope
  glob : fd.globals = mainGlobals
  blt : fd.builtins = builtinsNs
  co : fd.scope.isCoroutine = false
  gen : fd.scope.isGenerator = false
  kind : fd.scope.kind = .function
  kinds : ∀ x k, (x, k) ∈ sc.vars → sc.scope.names.lookup x = some .local ∨ sc.scope.names.lookup x = some .cell
  params : ∀ x k, (x, k) ∈ sc.vars → k < ps.length → ps[k]? = some x
  pvars : ∀ x ∈ ps, ∃ k, (x, k) ∈ sc.vars
  nodup : ps.Nodup
  names : ∀ x k y j, (x, k) ∈ sc.vars → (y, j) ∈ sc.vars → (k = j ↔ x = y)
  once : (fd.scope.names.map (·.1)).Nodup
theorem lookup_of_nodup {α : Type} : ∀ {l : List (Str × α)} {x : Str} {a : α}, (l.map (·.1)).Nodup → (x, a) ∈ l → l.lookup x = some a
  | (y, c) :: r, x, a, hn, h => by
    simp only [List.map_cons, List.nodup_cons] at hn
    rw [List.lookup_cons]
    rcases List.mem_cons.mp h with e | h
    · cases e; simp
    · have : (x == y) = false := by
        simp only [beq_eq_false_iff_ne, ne_eq]
        intro q
        exact hn.1 (q ▸ List.mem_map.mpr ⟨(x, a), h, rfl⟩)
      rw [this]; exact lookup_of_nodup hn.2 h
theorem cellsFrom_nodup : ∀ (names : List (Str × NameKind)) (n : Nat) (acc : List (Str × Addr)), (names.map (·.1)).Nodup → (acc.map (·.1)).Nodup → (∀ x ∈ names.map (·.1), x ∉ acc.map (·.1)) → ((cellsFrom n names acc).map (·.1)).Nodup
  | [], _, _, _, h, _ => h
  | (name, kind) :: r, n, acc, h1, h2, h3 => by
    simp only [List.map_cons, List.nodup_cons] at h1
    unfold cellsFrom
    split
    · refine cellsFrom_nodup r _ _ h1.2 ?_ fun x hx => ?_
      · simp only [List.map_cons, List.nodup_cons]
        exact ⟨h3 name (by simp), h2⟩
      · simp only [List.map_cons, List.mem_cons, not_or]
        exact ⟨fun q => h1.1 (q ▸ hx), h3 x (by simp only [List.map_cons]; exact List.mem_cons_of_mem _ hx)⟩
    · exact cellsFrom_nodup r _ _ h1.2 h2 fun x hx => h3 x (by simp only [List.map_cons]; exact List.mem_cons_of_mem _ hx)
theorem bindL_other {kindOf : Str → Option NameKind} {x : Str} : ∀ (bs : List (Str × Value)) (m : Str → Option Value), x ∉ bs.map (·.1) → bindL kindOf bs m x = m x
  | [], _, _ => rfl
  | (n, v) :: r, m, h => by
    simp only [List.map_cons, List.mem_cons, not_or] at h
    rw [bindL, bindL_other r _ h.2]
    split
    · simp [h.1]
    · rfl
theorem bindC_other {kindOf : Str → Option NameKind} {x : Str} : ∀ (bs : List (Str × Value)) (m : Str → Option Value), x ∉ bs.map (·.1) → bindC kindOf bs m x = m x
  | [], _, _ => rfl
  | (n, v) :: r, m, h => by
    simp only [List.map_cons, List.mem_cons, not_or] at h
    rw [bindC, bindC_other r _ h.2]
    split
    · rfl
    · simp [h.1]
theorem bindL_at {kindOf : Str → Option NameKind} {x : Str} {v : Value} (hk : kindOf x = some .local) : ∀ (bs : List (Str × Value)) (m : Str → Option Value), (bs.map (·.1)).Nodup → (x, v) ∈ bs → bindL kindOf bs m x = some v
  | (n, w) :: r, m, hn, h => by
    simp only [List.map_cons, List.nodup_cons] at hn
    rcases List.mem_cons.mp h with e | h
    · cases e
      rw [bindL, bindL_other r _ hn.1, if_pos hk]; simp
    · rw [bindL]; exact bindL_at hk r _ hn.2 h
theorem bindC_at {kindOf : Str → Option NameKind} {x : Str} {v : Value} (hk : kindOf x ≠ some .local) : ∀ (bs : List (Str × Value)) (m : Str → Option Value), (bs.map (·.1)).Nodup → (x, v) ∈ bs → bindC kindOf bs m x = some v
  | (n, w) :: r, m, hn, h => by
    simp only [List.map_cons, List.nodup_cons] at hn
    rcases List.mem_cons.mp h with e | h
    · cases e
      rw [bindC, bindC_other r _ hn.1, if_neg hk]; simp
    · rw [bindC]; exact bindC_at hk r _ hn.2 h
theorem cellsFrom_some {y : Str} : ∀ (names : List (Str × NameKind)) (n : Nat) (acc : List (Str × Addr)), (names.lookup y = some .cell ∨ ∃ c, acc.lookup y = some c) → ∃ c, (cellsFrom n names acc).lookup y = some c
  | [], _, _, h => by
    rcases h with h | h
    · cases h
    · exact h
  | (name, kind) :: r, n, acc, h => by
    unfold cellsFrom
    split
    · rename_i hk
      refine cellsFrom_some r _ _ ?_
      by_cases hy : y = name
      · subst hy; exact .inr ⟨n, by rw [List.lookup_cons]; simp⟩
      · have e : (y == name) = false := by simp [hy]
        rcases h with h | ⟨c, h⟩
        · rw [List.lookup_cons, e] at h; exact .inl h
        · exact .inr ⟨c, by rw [List.lookup_cons, e]; exact h⟩
    · rename_i hk
      refine cellsFrom_some r _ _ ?_
      rcases h with h | h
      · rw [List.lookup_cons] at h
        split at h
        · cases h; exact absurd rfl hk
        · exact .inl h
      · exact .inr h
theorem deeper_room {A : Around} {env : Env} (R : Room hd (b + 1) A) : Room hd b (A.deeper env) :=
  ⟨R.1, by have := R.2.1; show A.depth + 1 + b < _; lia, by have := R.2.2; show A.units + 3 + 20 * b + 100 < _; lia⟩
theorem mkF_some {k n : Nat} {m : SM} {vs : List V} {H H' : Hp} {r : FR} (q : mkF k n m vs H = some (r, H')) : vs.length = k ∧ ∃ fl ρ', m (vs ++ List.replicate (n - k) .undef) H = some (fl, ρ', H') ∧
    ((fl = .next ∧ r = .ret .none) ∨ (∃ v, fl = .ret v ∧ r = .ret v) ∨ ∃ c, fl = .exc c ∧ r = .exc c) := by
  unfold mkF at q
  split at q
  · rename_i hl
    refine ⟨hl, ?_⟩
    refine bind3 q fun fl ρ' H1 q1 q2 => ?_
    clear q
    dsimp only at q2
    cases fl with
    | next => cases q2; exact ⟨_, _, q1, .inl ⟨rfl, rfl⟩⟩
    | brk => cases q2
    | cont => cases q2
    | ret v => cases q2; exact ⟨_, _, q1, .inr (.inl ⟨_, rfl, rfl⟩)⟩
    | exc c => cases q2; exact ⟨_, _, q1, .inr (.inr ⟨_, rfl, rfl⟩)⟩
  · cases q
theorem RefF.of {f : Addr} {fd : FuncData} {ps : List Str} {n : Nat} {body : List Stmt} {m : SM} (F : FnOk G f fd sc ps body) (hB : RefB G hd b sc body m) : RefF G hd (b + 1) f (mkF ps.length n m) := by
  intro A s π H vs vs' r H' R hR hfr L hvs q kv kx
  refine x0_2 (mkF_some q) fun hlen o2 => ?_
  refine x2_2 o2 fun fl ρ' q1 hfl => ?_
  clear o2
  refine x3_1 (F.here) fun oc od sl hK => ?_
  refine x6_3 (F.code) fun c oc' od' cvs sl' t hcode hKc hq => ?_
  have hlen' : vs'.length = ps.length := by rw [← hvs.length, hlen]
  have hz : (ps.zip vs').map (·.1) = ps := by rw [List.map_fst_zip]; lia
  have hsz : ∀ a ∈ π, a < s.heap.objs.size := fun a ha => let ⟨o, e⟩ := L.here a ha; Heap.lt_size e
  have hBsz : ∀ a o, G.B.get? a = some o → a < s.heap.objs.size := fun a o e => Heap.lt_size (L.stays a o e)
  refine x1_3 hfr fun l hA hfun hnot => ?_
  clear hfr
  have hkinds : ∀ x ∈ ps, fd.scope.names.lookup x = some .local ∨ fd.scope.names.lookup x = some .cell := fun x hx => by
    refine x1_1 (F.pvars x hx) fun k hk => ?_
    rw [F.scope]; exact F.kinds x k hk
  refine codeAny_call_cells (fd := fd) (binds := ps.zip vs') (by have := hR.2.1; lia) (L.stays _ _ (G.X _ _ hK)) rfl (G.T.nolimit.keeps L.stays) ⟨c, _, cvs, t, hcode, L.stays _ _ (G.X _ _ hKc), rfl, hq⟩ F.body (F.bind vs' hlen') F.clo ?_ (fun s₁ IC => ?_) F.co F.gen F.kind
  · intro x hx
    have hx' : x.1 ∈ ps := by rw [← hz]; exact List.mem_map.mpr ⟨x, hx, rfl⟩
    rcases hkinds x.1 hx' with h | h
    · exact .inl h
    · refine x1_1 (cellsFrom_some fd.scope.names (s.heap.objs.size + 1) [] (.inl h)) fun cc hc => ?_
      exact .inr ⟨h, by rw [hc]; rfl⟩
  · generalize henv : callEnvC fd s.heap.objs.size f = env at IC ⊢
    have e1 : env.locals = s.heap.objs.size := by rw [← henv]; rfl
    have e2 : env.scope = sc.scope := by rw [← henv]; exact F.scope
    have e3 : env.frame = some env.locals := by rw [← henv]; rfl
    have e4 : env.globals = mainGlobals := by rw [← henv]; exact F.glob
    have e5 : env.builtins = builtinsNs := by rw [← henv]; exact F.blt
    have e6 : env.cells = cellsFrom (s.heap.objs.size + 1) fd.scope.names [] := by rw [← henv]; rfl
    have hko : ∀ x, env.kindOf x = sc.scope.names.lookup x := fun x => by unfold Env.kindOf; rw [e2]
    refine x2_1 (IC.toInCall.same) fun h1 t1 o3 => ?_
    subst o3
    have keep := IC.toInCall.keep
    have hns := IC.toInCall.ns
    have S0 : Step G (frs A) π s.heap π H h1 := .ext L keep
    have hfoot : ∀ a ∈ foot env, s.heap.objs.size ≤ a ∧ ∃ o, h1.get? a = some o := fun a ha => by
      rcases List.mem_cons.mp ha with rfl | ha
      · refine x3_2 hns fun o _ _ e _ => ?_
        clear hns
        exact ⟨Nat.le_of_eq e1.symm, o, e⟩
      · refine x1_2 (List.mem_map.mp ha) fun p hp o4 => ?_
        subst o4
        have hlt := IC.above p.1 p.2 hp
        refine ⟨Nat.le_of_lt (e1 ▸ hlt), ?_⟩
        have hnd : (env.cells.map (·.1)).Nodup := by rw [e6]; exact cellsFrom_nodup _ _ _ F.once .nil (by simp)
        refine x1_2 (IC.cell p.1 p.2 (lookup_of_nodup hnd hp)) fun o e _ => ?_
        exact ⟨o, e⟩
    have hfootn : ∀ a ∈ foot env, s.heap.get? a = none := fun a ha => by
      cases q : s.heap.get? a with
      | none => rfl
      | some o => exact absurd (Heap.lt_size q) (Nat.not_lt.mpr (hfoot a ha).1)
    have hfootπ : ∀ a ∈ foot env, a ∉ π := fun a ha hm => by
      refine x1_1 (L.here a hm) fun o e => ?_
      rw [hfootn a ha] at e; cases e
    have hfootB : ∀ a ∈ foot env, G.B.get? a = none := fun a ha => by
      cases q : G.B.get? a with
      | none => rfl
      | some o => have := L.stays a o q; rw [hfootn a ha] at this; cases this
    have hloc : env.locals ∈ foot env := List.mem_cons_self
    have hf1 : h1.FunFrames G.B (env :: l) := Heap.FunFrames.cons (by rw [e2, ← F.scope, F.kind]; decide) e3 hns (hfootB _ hloc) (hfun.of_keeps fun b o e _ => ⟨o, keep b o e, rfl⟩)
    have hA1 : (A.deeper env).frames = some (env :: l) := Around.frames_deeper hA
    have hfrs : frs (A.deeper env) = env.locals :: frs A := by unfold frs; rw [hA1, hA]; simp [e3]
    have X : EnvS G sc (A.deeper env) env h1 π (vs ++ List.replicate (n - ps.length) .undef) := by
      refine ⟨⟨e2, by rw [← F.scope]; exact F.kind, e4, e5, ⟨env :: l, hA1, hf1, fun b hb => ?_⟩, fun x k hx v hv hu => ?_, fun b hb => ⟨hfootπ b hb, hfootB b hb, (hfoot b hb).2⟩, fun y hy => ?_⟩, ⟨_, hns⟩, e3, ⟨l, hA1⟩, fun x c hc => ⟨_, IC.cell x c hc⟩, IC.apart, IC.above, fun x k hx => ?_, F.names⟩
      · rw [List.filterMap_cons, e3] at hb
        rcases List.mem_cons.mp hb with rfl | hb
        · exact hfootπ _ hloc
        · exact hnot b hb
      · by_cases hk : k < ps.length
        · rw [List.getElem?_append_left (by lia)] at hv
          refine x1_2 (hvs.get hv) fun v' hv' rv => ?_
          have hpx := F.params x k hx hk
          have hmem : (x, v') ∈ ps.zip vs' := by
            refine List.mem_of_getElem? (i := k) ?_
            rw [List.getElem?_zip_eq_some]; exact ⟨hpx, hv'⟩
          refine ⟨v', rv, ?_⟩
          rcases F.kinds x k hx with h | h
          · exact .inl ⟨(hko x).trans h, _, hns, bindL_at ((hko x).trans h) _ _ (by rw [hz]; exact F.nodup) hmem⟩
          · refine x1_1 (cellsFrom_some fd.scope.names (s.heap.objs.size + 1) [] (.inl (by rw [F.scope]; exact h))) fun cc hc => ?_
            rw [← e6] at hc
            refine .inr ⟨.inl ((hko x).trans h), cc, hc, ?_⟩
            have := IC.cell x cc hc
            rw [bindC_at (by rw [hko, h]; intro q; cases q) _ _ (by rw [hz]; exact F.nodup) hmem] at this
            exact this
        · rw [List.getElem?_append_right (by lia)] at hv
          have := List.mem_of_getElem? hv
          exact absurd (List.mem_replicate.mp this).2 hu
      · rw [e6]
        exact cellsFrom_some _ _ _ (.inl (by rw [F.scope]; exact hy))
      · rcases F.kinds x k hx with h | h
        · exact .inl ((hko x).trans h)
        · refine .inr ⟨(hko x).trans h, ?_⟩
          rw [e6]
          exact cellsFrom_some _ _ _ (.inl (by rw [F.scope]; exact h))
    have out : ∀ {π2 : List Addr} {H2 : Hp} {h2 : Heap}, StepS G (foot env) (frs (A.deeper env)) π h1 π2 H2 h2 → Step G (frs A) π s.heap π2 H2 h2 := fun {π2 H2 h2} S => by
      refine ⟨S.pre, S.rel, ⟨fun b o e hb => ?_, fun b o e hb hf => ?_⟩, fun a ha hn => ?_⟩
      · refine S.keep.slots b o (keep b o e) fun w => ?_
        rcases List.mem_append.mp w with w | w
        · rw [hfootn b w] at e; cases e
        · exact hb w
      · refine S.keep.exact b o (keep b o e) (fun w => ?_) fun w => ?_
        · rcases List.mem_append.mp w with w | w
          · rw [hfootn b w] at e; cases e
          · exact hb w
        · rw [hfrs] at w
          rcases List.mem_cons.mp w with w | w
          · rw [w, hfootn _ hloc] at e; cases e
          · exact hf w
      · have := S.fresh a ha hn
        cases q : s.heap.get? a with
        | none => rfl
        | some o => rw [keep a o q] at this; cases this
    refine hB (A.deeper env) env { s with heap := h1, toks := t1 } π H _ fl ρ' H' _ _ (deeper_room hR) X S0.rel (by rw [← hlen] at q1 ⊢; exact q1) (fun fl' π2 h2 t2 rf S2 X2 => ?_) fun c e π2 h2 t2 e1 F2 S2 X2 => ?_
    · rcases hfl with ⟨rfl, rfl⟩ | ⟨v, rfl, rfl⟩ | ⟨c, rfl, rfl⟩
      · cases rf
        exact kv _ _ _ _ _ rfl .none (out S2)
      · cases rf with | ret rv => ?_
        exact kv _ _ _ _ _ rfl rv (out S2)
      · cases rf
    · subst e1
      rcases hfl with ⟨q', _⟩ | ⟨v, q', _⟩ | ⟨c', q', rfl⟩
      · cases q'
      · cases q'
      · cases q'
        have a2 : At G sc (A.deeper env) env h1 π h2 π2 H' ρ' := ⟨S2, X2⟩
        unfold leaving
        refine x1_3 (X2.frames) fun l2 hl2 hfun2 _ => ?_
        rw [hA1] at hl2; cases hl2
        refine wpAny_bind (wp_note (s := { s with heap := h2, toks := t2 }) (c := c) hA1 hfun2 e3 F2 X.toEnvE.frs_here (fun a ha => a2.here a ha) fun h3 k3 F3 _ => ?_)
        refine wp_flight (s := { s with heap := h3, toks := t2 }) F3 fun h4 k4 F4 => ?_
        have a4 := a2.priv S0.rel X (k3.trans k4)
        refine kx c e π2 h4 t2 rfl ?_ (out a4.step)
        obtain ⟨f1, f2, f3⟩ := F4
        have back : ∀ a, h1.get? a = none → s.heap.get? a = none := fun a e => by
          cases q : s.heap.get? a with
          | none => rfl
          | some o => rw [keep a o q] at e; cases e
        refine x2_4 f3 fun oe ws g1 g2 g3 g4 => ?_
        clear f3
        refine ⟨back _ f1, f2, oe, ws, g1, g2, g3, ?_⟩
        rcases g4 with g4 | ⟨T, oT, ts, x, k1, k2, k3, k4, k5⟩
        · exact .inl g4
        · exact .inr ⟨T, oT, ts, x, k1, k2, back _ k3, k4, k5⟩
end Mine
end
section
open PySem PySem.W PyProof.Rows
set_option Elab.async false
set_option linter.unusedVariables false
set_option maxRecDepth 100000
namespace Mine
variable {G : Gd} {hd : Bool} {b : Nat} {sc : Sc}
section
variable {prog : Program} {w : World} {A : Around} {E : Value → Shared → Prop} {R : Result → Shared → Prop} {h : Heap} {g : Array GenState} {d : Drawn} {t : Nat} {os : OsState}
variable {nm q : Str} {C N : Addr} {bs bm : List Value} {hdct : Bool} {sn : List Str} {sub : List Value} {ab : Bool} {col : Option Bool} {dd : Option Addr} {k0 k1 k2 k3 k5 : Option Value}
structure Tail (bm : List Value) : Prop where
  exc : bm.contains (.type "Exception") = true
  base : bm.contains (.type "BaseException") = true
  attr : bm.contains (.type "AttributeError") = false
  name : bm.contains (.type "NameError") = false
theorem check_new {M : Model} {rest : List Value} {Q : Unit → Shared → Prop} (T : Tail bm) (hC : h.get? C = some (excClassObj nm q C N bs bm hdct sn sub ab col dd k0 k1 k2 k3 k5 "Exception.__new__"))
    (hq : Q () ⟨h, g, d, t, os⟩) : wpAny M A (checkBuiltinCall "Exception.__new__" ⟨.ref C :: rest, []⟩) Q E ⟨h, g, d, t, os⟩ := by
  have hcont : (Value.ref C :: bm).contains (.type "Exception") = true := by rw [List.contains_cons, T.exc, Bool.or_true]
  have Fn := F.excBase_Exception
  have hstar := Fn.noStar
  simp only [checkBuiltinCall, Fn.newKind, Fn.newSplit, Fn.newRow]
  repeat (first | refine wpAny_loadPart_at hC ?_ | (refine wpAny_isSubtype_exc hC ?_; rw [hcont]) | refine wpAny_staticBase_exc hC ?_ | refine wpAny_madeBy_exc hC ?_ | simp only [bne_self_eq_false, Bool.false_eq_true, if_false] | wp_step)
  exact hq
theorem exc_new {rest : List Value} (T : Tail bm) (hC : h.get? C = some (excClassObj nm q C N bs bm hdct sn sub ab col dd k0 k1 k2 k3 k5 "Exception.__new__"))
    (hq : R (.ok (.ret (.ref (h.objs.size + 1)))) ⟨(h.push { cls := .type "tuple", data := .seq rest.toArray }).push
      { cls := .ref C, data := .fields #[.ref h.objs.size, .none, .none, .none, .bool false, .none] }, g, d, t, os⟩) (hrest : rest.length ≤ sizeLine) :
    codeAny (model prog w) A (.builtin "Exception.__new__" ⟨.ref C :: rest, []⟩) R ⟨h, g, d, t, os⟩ := by
  have Fn := F.excBase_Exception
  have hends := Fn.ends
  have hcB : (Value.ref C :: bm).contains (.type "Exception") = true := by rw [List.contains_cons, T.exc, Bool.or_true]
  have hcA : (Value.ref C :: bm).contains (.type "AttributeError") = false := by rw [List.contains_cons, T.attr]; rfl
  have hcN : (Value.ref C :: bm).contains (.type "NameError") = false := by rw [List.contains_cons, T.name]; rfl
  refine codeAny_builtinAt Fn.entry ?_
  unfold Builtin.«BaseException.__new__»
  refine PySem.wpAt_bind ?_
  show PySem.wpAt _ _ _ (stack >>= _) _ _ _
  refine PySem.wpAt_bind (PySem.wpAt_stack fun p below => PySem.wpAt_of_wpAny ?_)
  wp_walk
  refine PySem.wpAt_of_wpAny ?_
  rw [Fn.owner]
  repeat (first | with_reducible refine wpAny_madeHere_exc Fn.canon hC ?_ | with_reducible refine wpAny_loadPart_at hC ?_ | (with_reducible refine wpAny_isSubtype_exc hC ?_; first | rw [hcB] | rw [hcA] | rw [hcN]) | wp_step)
  show R _ _
  rw [Heap.size_push]
  exact hq
theorem type_call_exc {rest : List Value} {fI : Addr} {Q : Fin → Shared → Prop} (T : Tail bm) (hC : h.get? C = some (excClassObj nm q C N bs bm hdct sn sub ab col dd k0 k1 k2 k3 k5 "Exception.__new__"))
    (hi : Looks (model prog w) h (typeLookup (.ref C) "__init__") (some (.ref fI))) (hb : ∀ self, Looks (model prog w) h (bindSpecial (.ref fI) self) (.ref fI, [self]))
    (hq : ∀ h' e, Heap.MadeExcOf h h' e (.ref C) rest →
      wpAny (model prog w) A (call (.ref fI) (.ref e :: rest)) (fun r s' => r = .none ∧ Q (.done (.ret (.ref e))) s') E ⟨h', g, d, t, os⟩) (hrest : rest.length ≤ sizeLine) :
    wpAny (model prog w) A (Builtin.«type.__call__» ⟨.ref C :: rest, []⟩) Q E ⟨h, g, d, t, os⟩ := by
  have Fn := F.excBase_Exception
  repeat (first | with_reducible refine wpAny_loadPart_at hC ?_ | with_reducible refine wpAny_madeBy_exc hC ?_ | wp_step)
  refine codeAny_call_builtin_code (Code.quiet_builtin _ Fn.quiet) (check_new T hC ?_)
  refine exc_new T hC ?_ hrest
  show wpAny _ _ _ _ _ _
  have kk : ∀ b o, h.get? b = some o → ((h.push { cls := .type "tuple", data := .seq rest.toArray }).push { cls := .ref C, data := .fields #[.ref h.objs.size, .none, .none, .none, .bool false, .none] }).get? b = some o :=
    fun b o e => Heap.get?_push_of_some _ (Heap.get?_push_of_some _ e)
  have hC₁ := kk _ _ hC
  have hget : ((h.push { cls := .type "tuple", data := .seq rest.toArray }).push
      { cls := .ref C, data := .fields #[.ref h.objs.size, .none, .none, .none, .bool false, .none] }).get? (h.objs.size + 1) = some
      { cls := .ref C, data := .fields #[.ref h.objs.size, .none, .none, .none, .bool false, .none] } := by heap_get
  have hcC : (Value.ref C :: bm).contains (.ref C) = true := by simp
  unfold isInstance
  repeat (first | with_reducible refine wpAny_loadPart_at hget ?_ | (with_reducible refine wpAny_isSubtype_exc hC₁ ?_; rw [hcC]) | wp_step)
  show wpAny _ _ (typeLookup (.ref C) _) _ _ _
  refine (hi.keeps kk).here ?_
  refine wpAny_holding (wpAny_bind ?_)
  refine ((hb _).keeps kk).here ?_
  refine wpAny_bind (wpAny_mono (hq _ (h.objs.size + 1) ⟨kk, Heap.get?_none_of_le (Nat.le_succ _), h.objs.size, hget, Heap.get?_none_of_le (Nat.le_refl _), ?_⟩) (fun r s' hr => ?_) fun _ _ x => x)
  · exact Heap.get?_push_of_some _ (Heap.get?_push_at rfl rfl)
  · refine x0_2 hr fun o1 hQ => ?_
    clear hr
    subst o1
    wp_walk
    exact hQ
theorem call_exc {rest : List Value} {fI : Addr} {Q : Value → Shared → Prop} (T : Tail bm) (hC : h.get? C = some (excClassObj nm q C N bs bm hdct sn sub ab col dd k0 k1 k2 k3 k5 "Exception.__new__"))
    (hi : Looks (model prog w) h (typeLookup (.ref C) "__init__") (some (.ref fI))) (hb : ∀ self, Looks (model prog w) h (bindSpecial (.ref fI) self) (.ref fI, [self]))
    (hq : ∀ h' e, Heap.MadeExcOf h h' e (.ref C) rest →
      wpAny (model prog w) (A.under (.builtin "type.__call__" ⟨.ref C :: rest, []⟩)) (call (.ref fI) (.ref e :: rest)) (fun r s' => r = .none ∧ Q (.ref e) s') E ⟨h', g, d, t, os⟩) (hrest : rest.length ≤ sizeLine) :
    wpAny (model prog w) A (call (.ref C) rest) Q E ⟨h, g, d, t, os⟩ := by
  have f1 := tc_lookup
  have f2 := tc_bind (.ref C)
  have hT : (⟨h, g, d, t, os⟩ : Shared).TypeIs (.ref C) "type" := ⟨_, hC, rfl⟩
  refine wpAny_call (codeAny_of_tree ?_)
  show wpAny _ _ (callAny (.ref C) _) _ _ _
  repeat (any_goals (first | assumption | with_reducible refine wpAny_loadPart_at hC ?_ | wp_step))
  refine ⟨rfl, ?_⟩
  refine codeAny_call_builtin_at (Code.quiet_builtin _ (by decide +kernel)) entry_typeCall (wpAny_check_type_call_sub hC (type_call_exc T hC hi hb (fun h' e hm => ?_) hrest))
  exact hq h' e hm
end
end Mine
end
section
open PySem PySem.W PyProof.Rows Builtin Builtin.ObjectAttr
set_option Elab.async false
set_option linter.unusedVariables false
set_option maxRecDepth 100000
namespace Mine
variable {G : Gd} {hd : Bool} {b : Nat} {sc : Sc}
structure Stores (K : Frag) (C : Addr) (name : Str) : Prop where
  cls : ∃ cd, clsIn K C = some cd ∧ cd.mro.isEmpty = false ∧ cd.mro.contains (.type "object") = true ∧ cd.hasDict = true ∧ ∀ self, refuseLoop self "__setattr__" cd.mro = pure ()
  set : findIn K (.ref C) "__setattr__" = some (some (.builtin "object.__setattr__"))
  free : findIn K (.ref C) name = some none
section
variable {prog : Program} {w : World} {A : Around} {K : Frag} {C x : Addr} {s : Shared} {R : Result → Shared → Prop}
theorem osa_gen {ox : Obj} {od : Option Obj} {name : Str} {tk : Tok} {v : Value} (X : K.In s.heap) (I : InstAt s.heap x ox C od) (S : Stores K C name)
    (h : ∀ b, wpAny (model prog w) A.in1 (storeInOwnDict (.ref x) (.ref C) (.str name tk) name v b)
      (fun fin s' => match fin with | .done f => R (.ok f) s' | .again c' => c'.quiet = true ∧ codeAny (model prog w) A c' R s') (fun e s' => R (.error e) s') s) :
    codeAny (model prog w) A (.call (.builtin "object.__setattr__") ⟨[.ref x, .str name tk, v], []⟩) R s := by
  have SF := PySem.F.store_object
  refine x1_5 (S.cls) fun cd hc ne ho hdd hp => ?_
  have sub : Looks (model prog w) s.heap (isInstance (.ref x) (.type "object")) true := I.type.andThen (looks_mroIn X (by unfold mroIn; rw [hc, Option.bind_some, if_neg (by rw [ne]; decide), ho]))
  refine codeAny_call_builtin SF.slot.plain SF.entry (@check_slot (model prog w) _ _ s "object.__setattr__" "object" "__setattr__" (.ref x) [.str name tk, v] [] _ SF.kind SF.split sub (SF.args (.ref x) (.str name tk) v) ?_)
  have hm : Looks (model prog w) s.heap (mroOf (.ref C)) cd.mro := (looks_clsIn X hc).andThen .now
  rw [osa_eq, refuse_eq]
  refine wpAny_bind (wpAny_bind (I.type.here (wpAny_bind (hm.here ?_))))
  rw [hp]
  refine wpAny_pure (wpAny_bind (I.type.here (wpAny_bind ((looks_findIn X S.free).here (wpAny_bind ?_)))))
  exact wpAny_pure (h _)
theorem set_first {E : Value → Shared → Prop} {ox : Obj} {name : Str} {v : Value} {Q : Unit → Shared → Prop} (X : K.In s.heap) (hx : s.heap.get? x = some ox) (hcls : ox.cls = .ref C) (hn : notCls ox = true) (hd : ox.dict = none) (S : Stores K C name)
    (h : ∀ h' tk', (∀ b o, b ≠ x → s.heap.get? b = some o → h'.get? b = some o) → (∃ dx, h'.get? x = some { ox with dict := some dx }) → Q () { s with heap := h', toks := tk' }) :
    wpAny (model prog w) A (setAttr (.ref x) name v) Q E s := by
  have I : InstAt s.heap x ox C none := ⟨hx, hcls, hn, by rw [hd]; trivial⟩
  refine set_plain X I S.set (osa_gen (s := { s with toks := s.toks + 1 }) X I S fun b => ?_)
  refine x1_5 (S.cls) fun cd hc ne ho hdd hp => ?_
  obtain ⟨oc, odi, oda, osl⟩ := ox
  dsimp only at hcls hd
  subst hcls hd
  refine wpAny_bind (wpAny_pure (wpAny_bind (wpAny_bind (wpAny_loadPart hx (wpAny_bind (looks_clsIn X hc _ _ _ _ (fun _ _ e => e) ?_))))))
  rw [hdd]
  have hnc : ∀ c, oda ≠ .cls c := fun c q => by subst q; cases hn
  rw [if_neg (by simp)]
  show wpAny _ _ (if (!true || !typeHasDict (.ref C)) = true then _ else _) _ _ _
  rw [if_neg (by simp [typeHasDict])]
  dsimp only
  split
  · rename_i c; exact absurd rfl (hnc c)
  have hx₁ : (s.heap.push { cls := .type "dict", data := .dict #[] }).get? x = some ⟨.ref C, none, oda, osl⟩ := Heap.get?_push_of_some _ hx
  have hxs : x ≠ s.heap.objs.size := Nat.ne_of_lt (Heap.lt_size hx)
  have hfr : Obj.isFreed ⟨.ref C, some s.heap.objs.size, oda, osl⟩ = false := by
    have := (Heap.get?_some_iff.mp hx).2
    cases oda <;> first | rfl | exact this
  refine wpAny_bind (wpAny_alloc (wpAny_bind (wpAny_update hx₁ (wpAny_pure ?_))))
  have hgd : ((s.heap.push { cls := .type "dict", data := .dict #[] }).update x fun o => { cls := o.cls, dict := some s.heap.objs.size, data := o.data, slots := o.slots }).get? s.heap.objs.size
      = some { cls := .type "dict", data := .dict #[] } :=
    (Heap.get?_update_ne _ _ _ _ hxs.symm).trans (Heap.get?_push_at rfl rfl)
  have hnd : ((s.heap.push { cls := .type "dict", data := .dict #[] }).update x fun o => { cls := o.cls, dict := some s.heap.objs.size, data := o.data, slots := o.slots }).Ns s.heap.objs.size (fun _ => none) :=
    ⟨_, #[], _, hgd, rfl, fun e he => absurd he (by simp), fun _ => rfl⟩
  show wpAny _ _ (storeInDict s.heap.objs.size (.str name _) name v) _ _ _
  unfold storeInDict newKeyGuard
  refine wpAny_bind (wpAny_pure (wpAny_bind (wpAny_nsSet1 (Heap.Ns1.of_empty hnd) fun h' hn' hs => ?_)))
  refine x3_3 (hn'.count (Within.cons name v Within.nil)) fun oD esD epD hoD hdD hcD => ?_
  refine wpAny_bind (wpAny_lookBehind hoD (by rw [hdD]; exact pastItsLine_dict (Nat.le_trans hcD (by rw [List.length_cons, List.length_nil, sizeLine_eq]; omega))) ?_)
  refine wpAny_pure (h h' _ (fun b o hb e => ?_) ⟨s.heap.objs.size, ?_⟩)
  · exact (hs.2 b (Nat.ne_of_lt (Heap.lt_size e))).trans ((Heap.get?_update_ne _ _ _ _ hb).trans (Heap.get?_push_of_some _ e))
  · exact (hs.2 x hxs).trans (Heap.get?_update_self _ hx₁ hfr)
end
end Mine
end
section
open PySem PySem.W PyProof.Rows Builtin Builtin.ObjectAttr
set_option Elab.async false
set_option linter.unusedVariables false
set_option maxRecDepth 100000
namespace Mine
variable {G : Gd} {hd : Bool} {b : Nat} {sc : Sc}
theorem putL_new {name : Str} {hsh : Int} {key v : Value} : ∀ {es : List DictEntry}, (∀ e ∈ es, e.key.isStr name = false) → putL name hsh key v es = es ++ [⟨hsh, key, v⟩]
  | [], _ => rfl
  | e :: r, h => by
    unfold putL
    rw [if_neg (by rw [h e List.mem_cons_self]; decide), putL_new fun x hx => h x (List.mem_cons_of_mem _ hx)]; rfl
theorem flds_length {ns : List Str} {es : List DictEntry} {ws : List Value} (x : Flds ns es ws) : es.length = ns.length ∧ ws.length = ns.length := by
  induction x with
  | nil => exact ⟨rfl, rfl⟩
  | cons _ _ _ _ ih => simp [ih]
theorem flds_snoc {ns : List Str} {es : List DictEntry} {ws : List Value} (x : Flds ns es ws) (n : Str) (hh : Int) (t : Tok) (v : Value) : Flds (ns ++ [n]) (es ++ [⟨hh, .str n t, v⟩]) (ws ++ [v]) := by
  induction x with
  | nil => exact .cons _ _ _ .nil
  | cons _ _ _ _ ih => exact .cons _ _ _ ih
theorem flds_keys {ns : List Str} {es : List DictEntry} {ws : List Value} (x : Flds ns es ws) {n : Str} (hn : n ∉ ns) : ∀ e ∈ es, e.key.isStr n = false := by
  induction x with
  | nil => intro e he; simp at he
  | @cons m ns es vs hh t v _ ih =>
    intro e he
    rcases List.mem_cons.mp he with rfl | he
    · exact isStr_ne t fun q => hn (q ▸ List.mem_cons_self)
    · exact ih (fun q => hn (List.mem_cons_of_mem _ q)) e he
section
variable {prog : Program} {w : World} {A : Around} {K : Frag} {C x dx : Addr} {s : Shared}
theorem set_next {E : Value → Shared → Prop} {ox : Obj} {es : List DictEntry} {n : Nat} {name : Str} {v : Value} {Q : Unit → Shared → Prop} (X : K.In s.heap) (hx : s.heap.get? x = some ox) (hcls : ox.cls = .ref C) (hn : notCls ox = true) (hd : ox.dict = some dx)
    (D : s.heap.get? dx = some (dictOf es n)) (hk : ∀ e ∈ es, e.key.isStr name = false) (hr : es.any (·.refKey) = false) (hz : es.length ≤ 100) (S : Stores K C name)
    (h : ∀ h' tk' hh t n', Heap.SameBut dx s.heap h' → h'.get? dx = some (dictOf (es ++ [⟨hh, .str name t, v⟩]) n') → Q () { s with heap := h', toks := tk' }) :
    wpAny (model prog w) A (setAttr (.ref x) name v) Q E s := by
  have I : InstAt s.heap x ox C (some (dictOf es n)) := ⟨hx, hcls, hn, by rw [hd]; exact D⟩
  refine set_plain X I S.set (osa_gen (s := { s with toks := s.toks + 1 }) X I S fun b => ?_)
  refine x1_5 (S.cls) fun cd hc ne ho hdd hp => ?_
  obtain ⟨oc, odi, oda, osl⟩ := ox
  dsimp only at hcls hd
  subst hcls hd
  refine wpAny_bind (wpAny_pure (wpAny_bind (wpAny_bind (wpAny_loadPart hx (wpAny_bind (looks_clsIn X hc _ _ _ _ (fun _ _ e => e) ?_))))))
  rw [hdd]
  refine wpAny_pure (a := some dx) (wpAny_bind (wpAny_pure (wpAny_bind ?_)))
  unfold nsSet
  refine wpAny_bind (wpAny_bind (wpAny_askSetting (wpAny_pure (wpAny_bind (wpAny_mkText (wpAny_bind (wpAny_loadPart D ?_)))))))
  dsimp only
  have c : (!es.toArray.any (·.key.isStr name) && es.toArray.any (·.refKey)) = false := by
    rw [List.any_toArray, List.any_toArray, hr, Bool.and_false]
  rw [aRefKeyMayBeTheName_at, c]
  refine wpAny_updatePart D ?_
  have e1 : Obj.putName name (PyData.keyHash w.params name) (.str name (s.toks + 1)) v (dictOf es n) = dictOf (es ++ [⟨PyData.keyHash w.params name, .str name (s.toks + 1), v⟩]) (putN name es n) := by
    rw [putName_dict, putL_new hk]
  have D' : (s.heap.update dx (Obj.putName name (PyData.keyHash w.params name) (.str name (s.toks + 1)) v)).get? dx = some (dictOf (es ++ [⟨PyData.keyHash w.params name, .str name (s.toks + 1), v⟩]) (putN name es n)) := by
    rw [← e1]
    exact Heap.get?_update_self _ D (by rw [e1]; rfl)
  refine wpAny_bind (wpAny_lookBehind D' (by exact pastItsLine_dict (by rw [List.size_toArray, List.length_append, sizeLine_eq]; simp only [List.length_cons, List.length_nil]; lia)) ?_)
  exact wpAny_pure (h _ _ _ _ _ (Heap.SameBut.update ..) D')
end
theorem Step.updInst {fr : List Addr} {π : List Addr} {h h' : Heap} {H : Hp} {n : Nat} {dx : Addr} {c : Nat} {fs fs' : List V} (R : Rel G π H h) (hn : π[n]? = some dx) (hs : Heap.SameBut dx h h') (hh : ∃ o, h'.get? dx = some o) (hold : H[n + 1]? = some (.inst c fs))
    (ho : OR G π h' (n + 1) (.inst c fs')) : Step G fr π h π (H.set (n + 1) (.inst c fs')) h' where
  pre := List.prefix_refl _
  rel := by
    have haux := R.aux _ _ _ hold
    have hlt := (List.getElem?_eq_some_iff.mp hold).1
    have ne : ∀ b, b ≠ dx → ∀ o, h.get? b = some o → h'.get? b = some o := fun b hb o e => (hs.2 b hb).trans e
    refine ⟨fun b o e => ne b (fun q => ?_) _ (R.stays b o e), by simp [R.len], R.nodup, R.new, ?_, ?_, ?_, ?_⟩
    · have := R.new dx (mem_of_get hn); rw [← q, e] at this; cases this
    · intro x hx
      by_cases q : x = dx
      · rw [q]; exact hh
      · obtain ⟨o, e⟩ := R.here x hx; exact ⟨o, ne x q _ e⟩
    · intro m p e
      by_cases q : m = n + 1
      · subst q
        rw [List.getElem?_set_self hlt] at e
        cases e; exact ho
      · rw [List.getElem?_set_ne (Ne.symm q)] at e
        have key : ∀ {i : Nat} {b : Addr}, π[i]? = some b → i ≠ n → b ≠ dx := fun {i b} e1 hi hb => by
          subst hb
          exact hi (nodup_inj R.nodup e1 hn)
        have no : ∀ {o : O}, H[m]? = some o → o ≠ .aux → m ≠ n := fun {o} e1 h2 w => by
          subst w; rw [haux] at e1; exact h2 (Option.some.inj e1).symm
        cases R.obj m p e with
        | list e1 l r => exact .list e1 (let ⟨k, x⟩ := l; ⟨k, ne _ (key e1 (no e (by intro w; cases w))) _ x⟩) r
        | tup e1 l r => exact .tup e1 (let ⟨o, x, y⟩ := l; ⟨o, ne _ (key e1 (no e (by intro w; cases w))) _ x, y⟩) r
        | aux => exact .aux
        | @inst _ _ _ _ _ _ _ _ k e0 e1 e2 a1 a2 a3 a4 a5 f r =>
          exact .inst e0 e1 e2 (ne _ (key e1 (no e (by intro w; cases w))) _ a1) a2 a3 a4 (ne _ (key e2 fun w => q (by lia)) _ a5) f r
        | dict e1 im hs' l r =>
          obtain ⟨ob, x1, x2⟩ := Heap.dictOf_iff.mp im
          exact .dict e1 (Heap.dictOf_iff.mpr ⟨ob, ne _ (key e1 (no e (by intro w; cases w))) _ x1, x2⟩) hs' l r
    · intro m c' fs'' e
      by_cases q : m = n
      · subst q
        rw [List.getElem?_set_ne (by lia)]; exact haux
      · rw [List.getElem?_set_ne (by lia)] at e
        have := R.aux m c' fs'' e
        by_cases w : m = n + 1
        · subst w; rw [hold] at this; cases this
        · rw [List.getElem?_set_ne (Ne.symm w)]; exact this
    · intro m p e
      by_cases q : m = n + 1
      · subst q
        rw [List.getElem?_set_self hlt] at e
        cases e; simp [olen]
      · rw [List.getElem?_set_ne (Ne.symm q)] at e
        exact R.size m p e
  keep := by
    have hm : dx ∈ π := mem_of_get hn
    have ne : ∀ b, b ∉ π → ∀ o, h.get? b = some o → h'.get? b = some o := fun b hb o e => (hs.2 b fun q => hb (q ▸ hm)).trans e
    exact ⟨fun b o e hb => ⟨o.slots, ne b hb o e⟩, fun b o e hb _ => ne b hb o e⟩
  fresh := fun _ ha hn => absurd ha hn
theorem sref_setAttr {o e : Expr} {mo me : EM} {c k : Nat} {name : Str} {p pos : Pos} (ho : RefE G hd b sc o mo) (he : RefE G hd b sc e me) (C : ClsOk G c) (hname : (G.flds c)[k]? = some name) (hz : (G.flds c).length ≤ 50) (S : Stores G.K (G.cls c) name)
    (hs : ∀ env : Env, env.scope = sc.scope → swapsWith e (some (.Attribute o name p)) pos.line env = pure false) :
    RefS G hd b sc (.Assign [.Attribute o name p] e pos) (sSetAttr c k mo me) := by
  intro A env s π H ρ fl ρ' H' Q Er R X L q kk kx
  refine bind2 q fun v H1 q1 q2 => ?_
  clear q
  refine bind2 q2 fun x H2 q3 q4 => ?_
  clear q2
  dsimp only at q4
  split at q4
  · rename_i n
    split at q4
    · rename_i c' fs hn
      split at q4
      · rename_i hck
        refine x0_2 hck fun o3 hlen => ?_
        clear hck
        subst o3
        cases q4
        refine plainObj_wpAny_Assign_Attribute (he A env s π H ρ _ _ _ _ R X.toEnvE L q1 fun v' π1 h1 t1 r1 S1 => ?_) (hs env X.scope)
        refine ho A env { s with heap := h1, toks := t1 } π1 H1 ρ _ _ _ _ R (X.step S1).toEnvE S1.rel q3 fun x' π2 h2 t2 r2 S2 => ?_
        cases r2 with | ref er => ?_
        cases S2.rel.obj _ _ hn with | inst e0 e1 e2 a1 a2 a3 a4 a5 f r => ?_
        rename_i a a' dx ox es ws k' m
        rw [er] at e1; cases e1
        subst e0
        refine x0_2 (flds_length f) fun l1 l2 => ?_
        have hkl := (List.getElem?_eq_some_iff.mp hname).1
        have hnot : name ∉ (G.flds c').take fs.length := fun w => by
          refine x1_1 (List.mem_iff_getElem?.mp w) fun i hi => ?_
          have hil := (List.getElem?_eq_some_iff.mp hi).1
          rw [List.length_take] at hil
          rw [List.getElem?_take_of_lt (by lia)] at hi
          have := nodup_inj C.nodup hi hname
          lia
        refine set_next (s := { s with heap := h2, toks := t2 }) (G.X.keeps S2.rel.stays) a1 a2 a3 a4 a5 (flds_keys f hnot) (flds_none f hnot).2 (by rw [l1, List.length_take]; lia) S fun h3 t3 hh tt n' sb D3 => ?_
        have hne : dx ≠ a := fun w => by
          subst w
          rw [a1] at a5; cases a5
          exact absurd a2 (by intro q; cases q)
        have S3 : Step G (frs A) π2 h2 π2 (H2.set (m + 1) (.inst c' (fs ++ [v]))) h3 := .updInst S2.rel e2 sb ⟨_, D3⟩ hn
          (.inst rfl er e2 ((sb.2 a (Ne.symm hne)).trans a1) a2 a3 a4 D3 (by
            have := flds_snoc f name hh tt v'
            have e3 : (G.flds c').take (fs ++ [v]).length = (G.flds c').take fs.length ++ [name] := by
              rw [List.length_append, List.length_cons, List.length_nil, Nat.zero_add, List.take_add_one, hlen, hname]; rfl
            rw [e3]; exact this) (r.append (.cons (r1.mono S2.pre) .nil)))
        have S := (S1.trans S2).trans S3
        exact kk _ _ _ _ .next (S.toS X.disj) (X.step S)
      · cases q4
    · cases q4
  · cases q4
end Mine
end
section
open PySem PySem.W PyProof.Rows Builtin Builtin.ObjectAttr
set_option Elab.async false
set_option linter.unusedVariables false
set_option maxRecDepth 100000
namespace Mine
variable {G : Gd} {hd : Bool} {b : Nat} {sc : Sc}
theorem under_room {A : Around} {C : Addr} {vals : List Value} (R : Room hd (b + 1) A) : Room hd b (A.under (.builtin "type.__call__" ⟨.ref C :: vals, []⟩)) :=
  ⟨R.1, by have := R.2.1; show A.depth + 1 + b < _; omega, by have := R.2.2; show A.units + 1 + 20 * b + 100 < _; omega⟩
theorem ref_new {x : Str} {fI : Addr} {c : Nat} {es : List Expr} {ms : List EM} {m : FM} {p pos : Pos} (hm : RefF G hd b fI m) (h : RefEs G hd (b + 1) sc es ms) (hne : es ≠ [])
    (hx : sc.scope.names.lookup x = some .globalImplicit) (hv : nsIn G.K mainGlobals x = some (some (.ref (G.cls c)))) (hd' : (x == ("__debug__" : Str)) = false)
    (mk : makesIn G.K (G.cls c) = true) (hi : findIn G.K (.ref (G.cls c)) "__init__" = some (some (.ref fI))) (ht : typeIn G.K (.ref fI) = some (.type "function")) (hk : keepIn G.K (.ref (G.cls c)) = true) :
    RefE G hd (b + 1) sc (.Call (.Name x p) es [] pos) (eNew c m ms) := by
  intro A env s π H ρ v H' Q Er R X L q k
  refine bind2 q fun vs H1 q1 q2 => ?_
  clear q
  dsimp only at q2
  split at q2
  · rename_i H2 hw
    cases q2
    refine Call_Name rfl (name_global X L hx hv hd' ?_)
    cases h with
    | nil => exact absurd rfl hne
    | cons g1 g2 g3 =>
      refine callWith_K G.X hk (ref_spliced (.cons g1 g2 g3) R X L q1 fun vs' π1 h1 t1 r1 S1 => ⟨G.X.keeps S1.rel.stays, ?_⟩) (g2 env) (star_none g3 env pos)
      have XK := G.X.keeps S1.rel.stays
      refine wpAny_call (make_core (makes_of XK mk) (looks_findIn XK hi) (fun self => bind_fn XK self ht) (.inl rfl) ?_)
      have k1 : ∀ b o, h1.get? b = some o → ((h1.push emptyDict).push (instObj (G.cls c) h1.objs.size)).get? b = some o := fun b o e => Heap.get?_push_of_some _ (Heap.get?_push_of_some _ e)
      have S2 : Step G (frs A) π1 h1 (π1 ++ [h1.objs.size]) (H1 ++ [.aux]) (h1.push emptyDict) := .push S1.rel (fun b o e => Heap.get?_push_of_some _ e) (get_fresh _) ⟨_, Heap.get?_push_size h1 rfl⟩ .aux (by simp [olen]) nofun
      have hdx : ((h1.push emptyDict).push (instObj (G.cls c) h1.objs.size)).get? h1.objs.size = some emptyDict := Heap.get?_push_of_some _ (Heap.get?_push_size h1 rfl)
      have hxx : ((h1.push emptyDict).push (instObj (G.cls c) h1.objs.size)).get? (h1.push emptyDict).objs.size = some (instObj (G.cls c) h1.objs.size) := Heap.get?_push_size _ rfl
      have hl1 : π1.length = H1.length := S1.rel.len
      have S3 : Step G (frs A) (π1 ++ [h1.objs.size]) (h1.push emptyDict) (π1 ++ [h1.objs.size] ++ [(h1.push emptyDict).objs.size]) (H1 ++ [.aux] ++ [.inst c []]) ((h1.push emptyDict).push (instObj (G.cls c) h1.objs.size)) :=
        .push S2.rel (fun b o e => Heap.get?_push_of_some _ e) (get_fresh _) ⟨_, hxx⟩
          (.inst (es := []) (ws := []) (m := H1.length) (by simp) (by rw [← S2.rel.len]; exact nth_pre) (by rw [← hl1, List.append_assoc, List.getElem?_append_right (Nat.le_refl _)]; simp) hxx rfl rfl rfl hdx (by simpa using Flds.nil) .nil) (by simp [olen])
          (by intro c' fs' e; cases e; exact ⟨H1.length, by simp, by simp⟩)
      have S := (S1.trans S2).trans S3
      have hsz : (h1.push emptyDict).objs.size = h1.objs.size + 1 := Heap.size_push ..
      have rx : VR G.B (π1 ++ [h1.objs.size] ++ [(h1.push emptyDict).objs.size]) (.ref (H1.length + 1)) (.ref (h1.objs.size + 1)) := by
        refine .ref ?_
        rw [← hsz, show H1.length + 1 = (π1 ++ [h1.objs.size]).length by simp [hl1]]
        exact nth_pre
      have hw' : m (.ref (H1.length + 1) :: vs) (H1 ++ [.aux] ++ [.inst c []]) = some (.ret .none, H') := by simpa using hw
      have hfr : FramesOk G (A.under (.builtin "type.__call__" ⟨.ref (G.cls c) :: ([] ++ vs'), []⟩)) ((h1.push emptyDict).push (instObj (G.cls c) h1.objs.size)) (π1 ++ [h1.objs.size] ++ [(h1.push emptyDict).objs.size]) := (X.step S).fok
      refine hm _ ⟨_, _, _, _, _⟩ _ _ (.ref (H1.length + 1) :: vs) (.ref (h1.objs.size + 1) :: vs') _ _ _ (under_room R) hfr S.rel (.cons rx (r1.mono (S2.pre.trans S3.pre))) hw' (fun u v' π4 h4 t4 e ru S4 => ?_) fun c e π4 h4 t4 e' _ _ => by cases e'
      cases e
      cases ru
      exact ⟨rfl, k _ _ _ _ (rx.mono S4.pre) (S.trans S4)⟩
  · cases q2
end Mine
end
section
open PySem PySem.W PyProof.Rows Builtin Builtin.ObjectAttr
set_option Elab.async false
set_option linter.unusedVariables false
set_option maxRecDepth 100000
namespace Mine
variable {G : Gd} {hd : Bool} {b : Nat} {sc : Sc}
theorem boot_Exception : bootBuiltins (Str.ofString "Exception") = some (.type "Exception") := by first | rfl | decide +kernel
section
variable {prog : Program} {w : World} {A : Around} {E : Value → Shared → Prop} {s : Shared} {K : Frag}
theorem get_init {pl : Sem Bool} {Q : Value × List Value → Shared → Prop} (X : K.In s.heap) (ht : typeOf (.type "Exception") = pure (.type "type")) (hs : Manifest.isStub "Exception" = false)
    (e : findCls K (.type "Exception") (.type "type") "__init__" = some (.val (.builtin "Exception.__init__"))) (h : Q (.builtin "Exception.__init__", []) { s with toks := s.toks + 1 }) :
    wpAny (model prog w) A (getMethod (.type "Exception") "__init__" pl) Q E s := by
  have hstub : opaqueClassAbove (.type "Exception") = pure none := by unfold opaqueClassAbove; dsimp only; rw [hs]; rfl
  have L0 : Looks (model prog w) s.heap (typeOf (.type "Exception")) (.type "type") := Looks.of_pure ht
  have hg : findIn K (.type "type") "__getattribute__" = some (some (.builtin "type.__getattribute__")) := type_tga
  unfold getMethod specialOf
  refine wpAny_bind (wpAny_bind (L0.here ((looks_findIn X hg).here ?_)))
  dsimp only
  rw [if_pos canon_tga]
  refine wpAny_bind (wpAny_mono (Q := fun v => Q (v, [])) (E := E) ?_ (fun _ _ z => wpAny_pure z) fun _ _ z => z)
  have LO : Looks (model prog w) s.heap (opaqueClassAbove (.type "Exception")) none := Looks.of_pure hstub
  refine cls_open X LO L0 hg (looks_hook X (r := none) (by rfl)) (by show subIn K _ _ = _; rfl) e
    (wpAny_pure (by show wpAny _ _ (handedOut _) _ _ _; rw [handedOut_of rfl]; exact wpAny_pure h))
theorem base_init {e t0 : Addr} {ob : Obj} {vs : Array Value} {v : Value} {Q : Fin → Shared → Prop} (he : s.heap.get? e = some ob) (hd : ob.data = .fields vs) (h0 : vs[0]? = some (.ref t0))
    (h : Q (.done (.ret .none)) { s with heap := (s.heap.push { cls := .type "tuple", data := .seq #[v] }).update e (Obj.mapFields (·.setIfInBounds 0 (.ref s.heap.objs.size))) }) :
    wpAny (model prog w) A (Builtin.«BaseException.__init__» ⟨[.ref e, v], []⟩) Q E s := by
  unfold Builtin.«BaseException.__init__»
  dsimp only
  rw [if_neg (by simp)]
  unfold newTuple Builtin.BaseException.bexcPut
  have hsz : 0 < vs.size := (Array.getElem?_eq_some_iff.mp h0).1
  have he₁ := Heap.get?_push_of_some (h := s.heap) { cls := .type "tuple", data := .seq #[v] } he
  refine wpAny_bind (wpAny_newObj_type (wpAny_bind (wpAny_bind (wpAny_field he₁ hd h0 (wpAny_bind (wpAny_setField he₁ hd hsz ?_))))) (by show (#[v] : Array Value).size ≤ sizeLine; simp [sizeLine]))
  exact wpAny_letGo (wpAny_pure h)
theorem check_init {nm q : Str} {N : Addr} {bs bm : List Value} {hdct : Bool} {sn : List Str} {sub : List Value} {ab : Bool} {col : Option Bool} {dd : Option Addr} {k0 k1 k2 k3 k5 : Option Value} {newId : String} {h : Heap} {g : Array GenState} {d : Drawn} {t : Nat} {os : OsState}
    {C e : Addr} {oe : Obj} {rest : List Value} {Q : Unit → Shared → Prop} (T : Tail bm) (hC : h.get? C = some (excClassObj nm q C N bs bm hdct sn sub ab col dd k0 k1 k2 k3 k5 newId)) (he : h.get? e = some oe) (hcls : oe.cls = .ref C) (hq : Q () ⟨h, g, d, t, os⟩) :
    wpAny (model prog w) A (checkBuiltinCall "Exception.__init__" ⟨.ref e :: rest, []⟩) Q E ⟨h, g, d, t, os⟩ := by
  have Fn := PySem.F.excBase_Exception
  have hcB : (Value.ref C :: bm).contains (.type "Exception") = true := by rw [List.contains_cons, T.exc, Bool.or_true]
  have hshort := Fn.noStar
  simp only [checkBuiltinCall, Fn.initKind, Fn.initSplit, Fn.initRow]
  repeat (first | (with_reducible refine wpAny_loadPart_at he ?_; rw [hcls]) | with_reducible refine wpAny_loadPart_at hC ?_ | (with_reducible refine wpAny_isSubtype_exc hC ?_; rw [hcB]) | wp_step)
  refine wpAny_onRaise ?_
  rw [show ∀ (a b : String) (n : Nat), Bind.check ⟨.positional, "*", "Exception", .self, [⟨"args", .varPos, false⟩]⟩ a b n (List.map (fun x => x.fst) ({ pos := Value.ref e :: rest } : Args).kw) = pure () from
    fun a b n => check_star_args _ _ _ _ _ _]
  exact wpAny_pure hq
theorem call_init {nm q : Str} {N : Addr} {bs bm : List Value} {hdct : Bool} {sn : List Str} {sub : List Value} {ab : Bool} {col : Option Bool} {dd : Option Addr} {k0 k1 k2 k3 k5 : Option Value} {newId : String}
    {C e t0 : Addr} {v : Value} {Q : Value → Shared → Prop} (T : Tail bm) (hC : s.heap.get? C = some (excClassObj nm q C N bs bm hdct sn sub ab col dd k0 k1 k2 k3 k5 newId)) (he : s.heap.get? e = some { cls := .ref C, data := .fields #[.ref t0, .none, .none, .none, .bool false, .none] })
    (h : ∀ h', h'.get? e = some { cls := .ref C, data := .fields #[.ref s.heap.objs.size, .none, .none, .none, .bool false, .none] } → (∀ b o, b ≠ e → s.heap.get? b = some o → h'.get? b = some o) → Q .none { s with heap := h' }) :
    wpAny (model prog w) A (call (.builtin "Exception.__init__") [.ref e, v]) Q E s := by
  have Fn := PySem.F.excBase_Exception
  obtain ⟨hp, g, d, tk, os⟩ := s
  refine wpAny_call (codeAny_call_builtin Fn.init.plain Fn.initEntry (check_init T hC he rfl ?_))
  refine base_init he rfl rfl (h _ ?_ ?_)
  · rw [Heap.get?_update_self _ (Heap.get?_push_of_some _ he) rfl]; rfl
  · intro b o hb ho
    rw [Heap.get?_update_other _ _ (Ne.symm hb)]
    exact Heap.get?_push_of_some _ ho
end
end Mine
end
section
open PySem PySem.W PyProof.Rows Builtin Builtin.ObjectAttr
set_option Elab.async false
set_option linter.unusedVariables false
set_option maxRecDepth 100000
namespace Mine
variable {G : Gd} {hd : Bool} {b : Nat} {sc : Sc}
structure ExcOk (G : Gd) (c : Nat) (x : Str) (fI : Addr) : Prop where
  name : nsIn G.K mainGlobals x = some (some (.ref (G.exc c)))
  obj : ∃ nm q N bs bm hdct sn sub ab col dd k0 k1 k2 k3 k5, G.K.lookup (G.exc c) = some (excClassObj nm q (G.exc c) N bs bm hdct sn sub ab col dd k0 k1 k2 k3 k5 "Exception.__new__") ∧ Tail bm
  init : findIn G.K (.ref (G.exc c)) "__init__" = some (some (.ref fI))
  fn : typeIn G.K (.ref fI) = some (.type "function")
  keep : keepIn G.K (.ref (G.exc c)) = true
  text : Stores G.K (G.exc c) "text"
structure InitOk (G : Gd) (fI : Addr) : Prop where
  obj : ∃ oc od fd sl cc coc cod vs csl t p1 p2 p3 p4 p5 p6 p7 p8 p9 p10, G.K.lookup fI = some ⟨oc, od, .func fd, sl⟩ ∧ fd.code = .ref cc ∧ G.K.lookup cc = some ⟨coc, cod, .fields vs, csl⟩ ∧ vs[1]? = some (.str fd.qualname t) ∧
    fd.body = .stmts [.Expr (.Call (.Attribute (.Name "Exception" p1) "__init__" p2) [.Name "self" p3, .Name "text" p4] [] p5) p6, .Assign [.Attribute (.Name "self" p7) "text" p8] (.Name "text" p9) p10] ∧
    MForm (.Name "Exception" p1) "__init__" p2 [.Name "self" p3, .Name "text" p4] p5 ∧ (∀ x y, bindArgs fd ⟨[x, y], []⟩ = pure [(("self" : Str), x), (("text" : Str), y)]) ∧ fd.closure = [] ∧ fd.scope.names = [(("self" : Str), .local), (("text" : Str), .local), (("Exception" : Str), .globalImplicit)] ∧ fd.globals = mainGlobals ∧ fd.builtins = builtinsNs ∧
    fd.scope.isCoroutine = false ∧ fd.scope.isGenerator = false ∧ fd.scope.kind = .function
  free : nsIn G.K mainGlobals "Exception" = some none
  typ : findCls G.K (.type "Exception") (.type "type") "__init__" = some (.val (.builtin "Exception.__init__"))
theorem exc_init {A : Around} {s : Shared} {c : Nat} {x : Str} {fI e t0 : Addr} {v : Value} {Q : Value → Shared → Prop} {Er : Value → Shared → Prop} (O : ExcOk G c x fI) (I : InitOk G fI) (hroom : A.depth < recursionLimit) (st : G.B.StaysIn s.heap) (hnew : G.B.get? e = none)
    (he : s.heap.get? e = some { cls := .ref (G.exc c), data := .fields #[.ref t0, .none, .none, .none, .bool false, .none] })
    (h : ∀ h' tk', (∀ b o, b ≠ e → s.heap.get? b = some o → h'.get? b = some o) → (∃ dx t1, h'.get? e = some { cls := .ref (G.exc c), dict := some dx, data := .fields #[.ref t1, .none, .none, .none, .bool false, .none] }) → Q .none { s with heap := h', toks := tk' }) :
    wpAny (model G.prog G.w) A (call (.ref fI) [.ref e, v]) Q Er s := by
  refine x9_1 (I.obj) fun oc od fd sl cc coc cod vs csl o1 => ?_
  refine x9_1 o1 fun t p1 p2 p3 p4 p5 p6 p7 p8 o4 => ?_
  clear o1
  refine x2_13 o4 fun p9 p10 hK hcode hKc hq hbody hform hbind hclo hnames hglob hblt hco o5 => ?_
  clear o4
  refine x0_2 o5 fun hgen hkind => ?_
  clear o5
  refine x9_1 (O.obj) fun nm q N bs bm hdct sn sub ab o2 => ?_
  refine x7_2 o2 fun col dd k0 k1 k2 k3 k5 hCK T => ?_
  clear o2
  refine wpAny_call (codeAny_call_cells (fd := fd) hroom (st _ _ (G.X _ _ hK)) rfl (G.T.nolimit.keeps st) ⟨cc, _, vs, t, hcode, st _ _ (G.X _ _ hKc), rfl, hq⟩ hbody (hbind _ _) hclo ?_ (fun s₁ IC => ?_) hco hgen hkind)
  · intro y hy
    rw [hnames]
    simp only [List.mem_cons, List.not_mem_nil, or_false] at hy
    rcases hy with rfl | rfl
    · exact .inl rfl
    · exact .inl rfl
  · generalize henv : callEnvC fd s.heap.objs.size fI = env at IC ⊢
    have e2 : env.scope = fd.scope := by rw [← henv]; rfl
    have e4 : env.globals = mainGlobals := by rw [← henv]; exact hglob
    have e5 : env.builtins = builtinsNs := by rw [← henv]; exact hblt
    have hk : env.scope.kind = .function := by rw [e2]; exact hkind
    have hko : ∀ y, env.kindOf y = fd.scope.names.lookup y := fun y => by unfold Env.kindOf; rw [e2]
    have kSelf : env.kindOf "self" = some .local := by rw [hko, hnames]; rfl
    have kText : env.kindOf "text" = some .local := by rw [hko, hnames]; rfl
    have kExc : env.kindOf "Exception" = some .globalImplicit := by rw [hko, hnames]; rfl
    have hint : interactive env = false := by unfold interactive; rw [e2, hkind]; rfl
    refine x2_1 (IC.toInCall.same) fun h1 t1 o3 => ?_
    subst o3
    have keep := IC.toInCall.keep
    have hns := IC.toInCall.ns
    dsimp only at keep hns
    generalize hm : bindL env.kindOf [(("self" : Str), .ref e), (("text" : Str), v)] (fun _ => none) = m at hns
    have mSelf : m "self" = some (.ref e) := by rw [← hm]; exact bindL_at kSelf _ _ (by show ([("self" : Str), "text"] : List Str).Nodup; decide) (by simp)
    have mText : m "text" = some v := by rw [← hm]; exact bindL_at kText _ _ (by show ([("self" : Str), "text"] : List Str).Nodup; decide) (by simp)
    have st1 : G.B.StaysIn h1 := fun b o e => keep b o (st b o e)
    have he1 := keep _ _ he
    have hLe : env.locals ≠ e := fun w => by
      refine x3_3 hns fun o es ep ho hdt _ => ?_
      clear hns
      rw [w, he1] at ho; cases ho; cases hdt
    refine x1_1 (hform env) fun pl hpl => ?_
    refine wpAny_execs_cons (wpAny_Expr_any (MethodCall_ (pl := pl) ?_ hpl) hint rfl)
    refine Calls.Name_function_global hk kExc (Calls.loadGlobal_builtin (by rw [e4]; exact G.T.g.keeps st1) (mg_none_of G.X G.T.g I.free) (by rw [e5]; exact G.T.b.keeps st1) ((G.T.builtins _ (by decide)).trans boot_Exception) ?_) (by decide)
    refine get_init (s := { s with heap := h1, toks := t1 }) (G.X.keeps st1) (by kernel_rfl) (by decide +kernel) I.typ ?_
    refine PyProof.Rows.callWith_builtin1 (Calls.spliced_cons (wpAny_Name (wpAny_loadName_local hk kSelf hns mSelf (Calls.spliced_cons (wpAny_Name (wpAny_loadName_local hk kText hns mText (Calls.spliced_nil ?_)) (by decide)))) (by decide))) rfl rfl
    refine call_init (t0 := t0) T (st1 _ _ (G.X _ _ hCK)) he1 fun h2 he2 k2 => ?_
    have hns2 : h2.Ns env.locals m := let ⟨o, es, ep, ho, r⟩ := hns; ⟨o, es, ep, k2 _ _ hLe ho, r⟩
    refine wpAny_execs_cons (plainObj_wpAny_Assign_Attribute (wpAny_Name (wpAny_loadName_local hk kText hns2 mText (wpAny_Name (wpAny_loadName_local hk kSelf hns2 mSelf ?_) (by decide))) (by decide)) rfl)
    have XK : G.K.In h2 := G.X.keeps fun b o q => k2 b o (fun w => by rw [w, hnew] at q; cases q) (st1 b o q)
    refine set_first (s := { s with heap := h2, toks := _ }) (C := G.exc c) XK he2 rfl rfl rfl O.text fun h3 t3 k3 ⟨dx, hx3⟩ => wpAny_execs_nil ?_
    exact h h3 t3 (fun b o hb ho => k3 b o hb (k2 b o hb (keep b o ho))) ⟨_, _, hx3⟩
end Mine
end
section
open PySem PySem.W PyProof.Rows Builtin Builtin.ObjectAttr
set_option Elab.async false
set_option linter.unusedVariables false
set_option maxRecDepth 100000
namespace Mine
variable {G : Gd} {hd : Bool} {b : Nat} {sc : Sc}
section
variable {M : Model} {A : Around} {E : Value → Shared → Prop} {env : Env} {nm q : Str} {C N : Addr} {bs bm : List Value} {hdct : Bool} {sn : List Str} {sub : List Value} {ab : Bool} {col : Option Bool} {dd : Option Addr} {k0 k1 k2 k3 k5 : Option Value} {newId : String}
theorem raise_own {s : Shared} {x : Sem Value} {Q : Flow → Shared → Prop} (T : Tail bm) (hh : A.handled = none)
    (h : wpAny M A x (fun v s₁ => ∃ e dx t, v = .ref e ∧ s₁.heap.get? C = some (excClassObj nm q C N bs bm hdct sn sub ab col dd k0 k1 k2 k3 k5 newId) ∧
      s₁.heap.get? e = some { cls := .ref C, dict := some dx, data := .fields #[.ref t, .none, .none, .none, .bool false, .none] } ∧ E (.ref e) s₁) E s) :
    wpAny M A (raiseStmt env (some x) none) Q E s := by
  have hcB : (Value.ref C :: bm).contains (.type "BaseException") = true := by rw [List.contains_cons, T.base, Bool.or_true]
  unfold raiseStmt
  refine wpAny_bind (wpAny_mono h (fun v s₁ h₁ => ?_) fun _ _ x => x)
  refine x3_4 h₁ fun e dx t o1 hC he hE => ?_
  clear h₁
  subst o1
  obtain ⟨hp, g, d, tk, os⟩ := s₁
  repeat (first | with_reducible refine wpAny_loadPart_at he ?_ | with_reducible refine wpAny_loadPart_at hC ?_ | (with_reducible refine wpAny_isSubtype_exc hC ?_; rw [hcB]) | wp_step)
  exact wpAny_raiseNew_none hh hE
end
theorem sref_raise {c : Nat} {x : Str} {fI : Addr} {txt : Str} {kk : Nat} {np ap cpos pos : Pos} (O : ExcOk G c x fI) (I : InitOk G fI) (hx : sc.scope.names.lookup x = some .globalImplicit) (hd' : (x == ("__debug__" : Str)) = false) :
    RefS G false (b + 2) sc (.Raise (some (.Call (.Name x np) [.Constant (.str txt) kk ap] [] cpos)) none pos) (sRaise c) := by
  intro A env s π H ρ fl ρ' H' Q Er R X L q k kx
  (replace k := KS.cast k q; replace kx := KX.cast kx q)
  refine x9_1 (O.obj) fun nm q N bs bm hdct sn sub ab o2 => ?_
  refine x7_2 o2 fun col dd k0 k1 k2 k3 k5 hCK T => ?_
  clear o2
  rw [arm_exec_Raise]
  refine wpAny_bind (wpAny_standAt (raise_own (C := G.exc c) (nm := nm) (q := q) (N := N) (bs := bs) (bm := bm) (hdct := hdct) (sn := sn) (sub := sub) (ab := ab) (col := col) (dd := dd) (k0 := k0) (k1 := k1) (k2 := k2) (k3 := k3) (k5 := k5) (newId := "Exception.__new__") T R.none
    (wpAny_bind (wpAny_mono (Q := fun v s₁ => ∃ e dx t, v = .ref e ∧ s₁.heap.get? (G.exc c) = some (excClassObj nm q (G.exc c) N bs bm hdct sn sub ab col dd k0 k1 k2 k3 k5 "Exception.__new__") ∧
      s₁.heap.get? e = some { cls := .ref (G.exc c), dict := some dx, data := .fields #[.ref t, .none, .none, .none, .bool false, .none] } ∧ Er (.ref e) s₁) ?_ (fun v s₃ h₃ => wpAny_bind (wpAny_standAt (wpAny_pure h₃))) fun _ _ x => x))))
  refine Call_Name rfl (name_global X.toEnvE L hx O.name hd' ?_)
  have XK := G.X.keeps L.stays
  refine callWith_K G.X O.keep (Calls.spliced_cons (wpAny_Constant_str (k := kk) (pos := ap) ?_)) rfl rfl
  refine Calls.spliced_nil ⟨XK, ?_⟩
  obtain ⟨h0, g, d, tk, os⟩ := s
  refine call_exc T (L.stays _ _ (G.X _ _ hCK)) (looks_findIn XK O.init) (fun self => bind_fn XK self O.fn) (fun h1 e mk => ?_) (by show ([_] : List Value).length ≤ sizeLine; simp [sizeLine])
  refine x1_3 (mk.there) fun t0 he1 ht0 htup => ?_
  have st1 : G.B.StaysIn h1 := fun b o q => mk.keeps b o (L.stays b o q)
  have hnewB : G.B.get? e = none := by
    cases q : G.B.get? e with
    | none => rfl
    | some o => have w : h0.get? e = some o := L.stays e o q; rw [mk.new] at w; cases w
  refine exc_init (s := ⟨h1, g, d, _, os⟩) O I (by have := R.2.1; show A.depth + 1 < _; omega) st1 hnewB he1 fun h2 t2 k2 ⟨dx, t1, he2⟩ => ?_
  have keep : ∀ b o, h0.get? b = some o → h2.get? b = some o := fun b o q => k2 b o (fun w => by rw [w, mk.new] at q; cases q) (mk.keeps b o q)
  have S : Step G (frs A) π h0 π H h2 := .ext L keep
  have heπ : e ∉ π := fun w => by
    refine x1_1 (L.here e w) fun o q => ?_
    rw [mk.new] at q; cases q
  refine ⟨rfl, e, dx, t1, rfl, S.rel.stays _ _ (G.X _ _ hCK), he2, ?_⟩
  exact kx c e π h2 t2 rfl ⟨mk.new, heπ, _, _, he2, rfl, rfl, .inl rfl⟩ (S.toS X.disj) (X.step S)
end Mine
end
section
open PySem PySem.W PyProof.Rows Builtin Builtin.ObjectAttr
set_option Elab.async false
set_option linter.unusedVariables false
set_option maxRecDepth 100000
namespace Mine
variable {G : Gd} {hd : Bool} {b : Nat} {sc : Sc}
theorem EnvS.mark {A : Around} {env : Env} {h : Heap} {π : List Addr} {ρ : List V} {v : Option Value} (x : EnvS G sc A env h π ρ) : EnvS G sc (A.mark v) env h π ρ :=
  ⟨⟨x.scope, x.kind, x.glob, x.blt, x.frames, x.vars, x.foots, x.cellsE⟩, x.ns, x.frame, x.top, x.cellsOk, x.apart, x.above, x.kinds, x.names⟩
theorem sref_try {c : Nat} {x : Str} {fI : Addr} {np hpos pos : Pos} {body hbody : List Stmt} {b₀ : Stmt} {mb mh : SM} (O : ExcOk G c x fI) (hx : sc.scope.names.lookup x = some .globalImplicit) (hd' : (x == ("__debug__" : Str)) = false)
    (hb : RefB G false b sc body mb) (hh : RefB G true b sc (b₀ :: hbody) mh) : RefS G false b sc (.Try body [.ExceptHandler (some (.Name x np)) none (b₀ :: hbody) hpos] [] [] pos) (sTry mb c mh) := by
  intro A env s π H ρ fl ρ' H' Q Er R X L q k kx
  refine bind3 q fun fl1 ρ1 H1 q1 q2 => ?_
  clear q
  dsimp only at q2
  refine wpAny_Try_except (hb A env s π H ρ fl1 ρ1 H1 _ _ R X L q1 (fun fl' π1 h1 t1 rf S1 X1 => ?_) fun c' e π1 h1 t1 e1 F S1 X1 => ?_)
  · cases rf with
    | next => cases q2; exact wpAny_execs_nil (k _ _ _ _ .next S1 X1)
    | brk => cases q2; exact k _ _ _ _ .brk S1 X1
    | cont => cases q2; exact k _ _ _ _ .cont S1 X1
    | ret r => cases q2; exact k _ _ _ _ (.ret r) S1 X1
  · subst e1
    dsimp only at q2
    split at q2
    · rename_i hc
      subst hc
      obtain ⟨fl2, ρ2, H2, q3, q4⟩ : ∃ fl2 ρ2 H2, mh ρ1 H1 = some (fl2, ρ2, H2) ∧ noExc (some (fl2, ρ2, H2)) = some (fl, ρ', H') := by
        cases qq : mh ρ1 H1 with
        | none => rw [qq] at q2; cases q2
        | some y => obtain ⟨f2, r2, h2⟩ := y; rw [qq] at q2; exact ⟨f2, r2, h2, rfl, q2⟩
      refine x9_1 (O.obj) fun nm q N bs bm hdct sn sub ab o2 => ?_
      refine x7_2 o2 fun col dd k0 k1 k2 k3 k5 hCK T => ?_
      clear o2
      have a1 : At G sc A env s.heap π h1 π1 H1 ρ1 := ⟨S1, X1⟩
      refine x1_1 (X.top) fun outer hA => ?_
      refine x1_3 (X1.frames) fun l hl hfun _ => ?_
      rw [hA] at hl; cases hl
      refine wp_note (s := { s with heap := h1, toks := t1 }) (c := c') hA hfun X.frame F X.toEnvE.frs_here (fun a ha => a1.here a ha) fun h2 kk2 F2 _ => ?_
      refine wp_flight (s := { s with heap := h2, toks := t1 }) F2 fun h3 kk3 F3 => ?_
      have a3 := a1.priv L X (kk2.trans kk3)
      have X3 := a3.env.mark (v := some (.ref e))
      refine wpAny_handleBy_cons (codeAny_handlers_test (name_global (A := A.mark (some (.ref e))) (s := { s with heap := h3, toks := t1 }) X3.toEnvE a3.rel hx O.name hd' ?_)) (by intro q; cases q)
      refine x2_3 (F3.there) fun oe vs he hcls _ => ?_
      have hC := a3.rel.stays _ _ (G.X _ _ hCK)
      refine wpAny_excMatches_sub_self hC he hcls T.base (codeAny_handlers_suite ?_)
      refine wp_flight (s := { s with heap := h3, toks := t1 }) F3 fun h4 kk4 F4 => ?_
      have a4 := a3.priv L X kk4
      refine hh (A.mark (some (.ref e))) env { s with heap := h4, toks := t1 } π1 H1 ρ1 fl2 ρ2 H2 _ _ ⟨.inl rfl, R.2⟩ a4.env.mark a4.rel q3 (fun fl' π5 h5 t5 rf S5 X5 => ?_) fun c' e' π5 h5 t5 e5 _ _ _ => ?_
      · have X5' : EnvS G sc A env h5 π5 ρ2 := ⟨⟨X5.scope, X5.kind, X5.glob, X5.blt, X5.frames, X5.vars, X5.foots, X5.cellsE⟩, X5.ns, X5.frame, X5.top, X5.cellsOk, X5.apart, X5.above, X5.kinds, X5.names⟩
        cases rf with
        | next => cases q4; exact k _ _ _ _ .next (a4.step.trans S5) X5'
        | brk => cases q4; exact k _ _ _ _ .brk (a4.step.trans S5) X5'
        | cont => cases q4; exact k _ _ _ _ .cont (a4.step.trans S5) X5'
        | ret r => cases q4; exact k _ _ _ _ (.ret r) (a4.step.trans S5) X5'
      · subst e5; cases q4
    · cases q2
end Mine
end
section
open PySem PySem.W PyProof.Rows
set_option Elab.async false
set_option linter.unusedVariables false
set_option maxRecDepth 100000
namespace Mine
noncomputable def clsOf : Nat → Addr
  | 0 => 199
  | _ => 323
noncomputable def excOf : Nat → Addr
  | 0 => 80
  | 1 => 93
  | _ => 105
noncomputable def fldsOf : Nat → List Str
  | 0 => ["children", "values", "checks", "draws", "noisy_rows", "gain_rows", "path"]
  | _ => ["clusters", "ways", "age", "slots"]
set_option genInjectivity false in
structure Gv where
  prog : Program
  w : World
  B : Heap
  p : Program
  loose : List Str
  mean : ExcName → Option Value
  mg : Str → Option Value
  mb : Str → Option Value
  X : (Kp w.params).In B
  T : Top p loose mean mg mb B
  big : ∃ x o, sysModules ≤ x ∧ B.get? x = some o
noncomputable def Gv.gd (V : Gv) : Gd :=
  { prog := V.prog, w := V.w, B := V.B, K := Kp V.w.params, p := V.p, loose := V.loose, mean := V.mean, mg := V.mg, mb := V.mb, cls := clsOf, exc := excOf, flds := fldsOf, X := V.X, T := V.T, big := V.big }
noncomputable def varsOk (S : Scope) (ps : List Str) (vars : List (Str × Nat)) : Bool :=
  (vars.all fun x => S.names.lookup x.1 == some .local || S.names.lookup x.1 == some .cell) &&
  (vars.all fun x => !(decide (x.2 < ps.length)) || ps[x.2]? == some x.1) &&
  (ps.all fun x => vars.any fun y => y.1 == x) &&
  decide ps.Nodup &&
  (vars.all fun x => vars.all fun y => (x.2 == y.2) == (x.1 == y.1)) &&
  decide (S.names.map (·.1)).Nodup
theorem RefF.mk {G : Gd} {hd : Bool} {b : Nat} {f c : Addr} {nm qn : Str} {pr : Arguments} {S : Scope} {gl : Addr} {clo : List (Str × Addr)} {df kdf doc pm ct : Value} {ann : Option Addr} {bl : Addr} {oc : Value} {od : Option Addr} {sl : Array (Option Value)} {oc' : Value} {od' : Option Addr} {sl' : Array (Option Value)} {t : Tok} {cvs : Array Value} {body : List Stmt} {m : SM} {n : Nat} (ps : List Str) (vars : List (Str × Nat))
    (hK : G.K.lookup f = some ⟨oc, od, .func ⟨nm, qn, pr, .stmts body, S, gl, clo, df, kdf, doc, pm, ann, .ref c, ct, bl⟩, sl⟩) (hKc : G.K.lookup c = some ⟨oc', od', .fields cvs, sl'⟩) (hq : cvs[1]? = some (.str qn t))
    (hbind : ∀ vals, vals.length = ps.length → bindArgs ⟨nm, qn, pr, .stmts body, S, gl, clo, df, kdf, doc, pm, ann, .ref c, ct, bl⟩ ⟨vals, []⟩ = pure (ps.zip vals))
    (hrest : clo = [] ∧ gl = mainGlobals ∧ bl = builtinsNs ∧ S.isCoroutine = false ∧ S.isGenerator = false ∧ S.kind = .function) (hv : varsOk S ps vars = true)
    (hB : RefB G hd b ⟨S, vars⟩ body m) : RefF G hd (b + 1) f (mkF ps.length n m) := by
  unfold varsOk at hv
  simp only [Bool.and_eq_true] at hv
  obtain ⟨⟨⟨⟨⟨v1, v2⟩, v3⟩, v4⟩, v5⟩, v6⟩ := hv
  refine RefF.of ⟨⟨_, _, _, hK⟩, ⟨c, _, _, _, _, t, rfl, hKc, hq⟩, rfl, hbind, hrest.1, rfl, hrest.2.1, hrest.2.2.1, hrest.2.2.2.1, hrest.2.2.2.2.1, hrest.2.2.2.2.2, fun x k h => ?_, fun x k h hk => ?_, fun x h => ?_, of_decide_eq_true v4, fun x k y j h h' => ?_, of_decide_eq_true v6⟩ hB
  · have := List.all_eq_true.mp v1 _ h
    simpa using this
  · have := List.all_eq_true.mp v2 _ h
    simp only [Bool.or_eq_true, Bool.not_eq_true', decide_eq_false_iff_not, beq_iff_eq] at this
    rcases this with q | q
    · exact absurd hk q
    · exact q
  · have := List.all_eq_true.mp v3 _ h
    obtain ⟨y, hy, e⟩ := List.any_eq_true.mp this
    simp only [beq_iff_eq] at e
    subst e
    exact ⟨y.2, hy⟩
  · have := List.all_eq_true.mp (List.all_eq_true.mp v5 _ h) _ h'
    simp only [beq_iff_eq] at this
    constructor
    · intro e
      have e' : (k == j) = true := beq_iff_eq.mpr e
      rw [e'] at this; exact beq_iff_eq.mp this.symm
    · intro e
      have e' : (x == y) = true := beq_iff_eq.mpr e
      rw [e'] at this; exact beq_iff_eq.mp this
noncomputable def compOk (S cs : Scope) (v0 : List (Str × Nat)) (x : Str) (slot : Nat) (vars : List (Str × Nat)) : Bool :=
  cs.kind == .function &&
  (cs.names.all fun y => y.2 != .cell) &&
  (cs.names.all fun y => y.2 != .local || cs.names.lookup y.1 == some .local) &&
  cs.names.lookup x == some .local &&
  (cs.names.all fun y => y.2 != .free || S.names.lookup y.1 == some .cell) &&
  (v0.all fun y => y.2 != slot) &&
  (vars.all fun y => (y.1 == x && y.2 == slot) || (y.1 != x && v0.contains y && cs.names.contains (y.1, .free) && (relabelS cs S).names.lookup y.1 == some .cell))
theorem CompOk.of {S cs : Scope} {v0 : List (Str × Nat)} {x : Str} {slot : Nat} (vars : List (Str × Nat)) (h : compOk S cs v0 x slot vars = true) : CompOk ⟨S, v0⟩ cs x slot vars := by
  unfold compOk at h
  simp only [Bool.and_eq_true] at h
  obtain ⟨⟨⟨⟨⟨⟨h1, h2⟩, h3⟩, h4⟩, h5⟩, h6⟩, h7⟩ := h
  refine ⟨beq_iff_eq.mp h1, fun y hy => ?_, fun y hy e => ?_, beq_iff_eq.mp h4, fun y hy => ?_, fun y k hy => ?_, fun y k hy => ?_⟩
  · simpa using List.all_eq_true.mp h2 _ hy
  · have := List.all_eq_true.mp h3 _ hy
    rw [e] at this
    simpa using this
  · have := List.all_eq_true.mp h5 _ hy
    simpa using this
  · simpa using List.all_eq_true.mp h6 _ hy
  · have := List.all_eq_true.mp h7 _ hy
    simp only [Bool.or_eq_true, Bool.and_eq_true, beq_iff_eq, bne_iff_ne, ne_eq, List.contains_iff_mem] at this
    rcases this with ⟨q1, q2⟩ | ⟨⟨⟨q1, q2⟩, q3⟩, q4⟩
    · exact .inl ⟨q1, q2⟩
    · exact .inr ⟨q1, q2, q3, q4⟩
noncomputable def notStar : Expr → Bool
  | .Starred .. => false
  | _ => true
theorem star_plain {e : Expr} {es : List Expr} (h : notStar e = true) (env : Env) : starEach (e :: es) env = (false, eval e env) :: starEach es env := by
  cases e <;> first | rfl | cases h
theorem swaps_cell {sc : Sc} {elt : Expr} {gens : List Comprehension} {cs : Scope} {p pos : Pos} {y : Str} {l : Nat} (h : sc.scope.names.lookup y = some .cell) :
    ∀ env : Env, env.scope = sc.scope → swapsWith (.ListComp elt gens cs pos) (some (.Name y p)) l env = pure false := by
  intro env e
  have hk : env.kindOf y = some .cell := by unfold Env.kindOf; rw [e]; exact h
  show (pure (env.blockKind == .function && env.kindOf y == some .local && _ && _) : Sem Bool) = _
  rw [hk, show ((some NameKind.cell == some NameKind.local) = false) from rfl, Bool.and_false]
  rfl
theorem swaps_local {sc : Sc} {elt : Expr} {gens : List Comprehension} {cs : Scope} {p pos : Pos} {y : Str} {l : Nat} (h : sc.scope.names.lookup y = some .local) (hk : sc.scope.kind = .function) (hl : (p.line == pos.line) = true)
    (hc : (cs.names.any fun (n, k) => n == y && (k == .local || k == .cell)) = false) :
    ∀ env : Env, env.scope = sc.scope → swapsWith (.ListComp elt gens cs pos) (some (.Name y p)) l env = pure true := by
  intro env e
  have hk' : env.kindOf y = some .local := by unfold Env.kindOf; rw [e]; exact h
  have hb : env.blockKind = .function := by unfold Env.blockKind; rw [e, hk]; rfl
  show (pure (env.blockKind == .function && env.kindOf y == some .local && (p.line == pos.line) && !(cs.names.any _)) : Sem Bool) = _
  rw [hk', hb, hl, hc]
  rfl
noncomputable def locOk (sc : Sc) (x : Str) (n : Nat) : Bool := sc.vars.any (fun p => p.1 == x && p.2 == n) && (!(x == ("__debug__" : Str)) && !(x == ("__classdict__" : Str)))
theorem ref_l {G : Gd} {hd : Bool} {b : Nat} {sc : Sc} {x : Str} {n : Nat} {pos : Pos} (h : locOk sc x n = true) : RefE G hd b sc (.Name x pos) (eLoc n) := by
  simp only [locOk, Bool.and_eq_true, Bool.not_eq_true', List.any_eq_true, beq_iff_eq] at h
  obtain ⟨⟨⟨y, m⟩, hm, rfl, rfl⟩, h1, h2⟩ := h
  exact ref_loc hm h1 h2
end Mine
end
section
open PySem PySem.W PyProof.Rows
set_option Elab.async false
set_option linter.unusedVariables false
set_option maxRecDepth 100000
set_option maxHeartbeats 4000000
namespace Mine
theorem n_MATE (V : Gv) : nsIn V.gd.K mainGlobals "MATE" = some (some (.int (32000) 196)) := by rfl
theorem n_DRAW (V : Gv) : nsIn V.gd.K mainGlobals "DRAW" = some (some (.int (0) 198)) := by rfl
theorem n_INFINITE (V : Gv) : nsIn V.gd.K mainGlobals "INFINITE" = some (some (.int (32001) 200)) := by rfl
theorem n_NO_MOVE (V : Gv) : nsIn V.gd.K mainGlobals "NO_MOVE" = some (some (.int (0) 489)) := by rfl
theorem n_BOUND_NONE (V : Gv) : nsIn V.gd.K mainGlobals "BOUND_NONE" = some (some (.int (0) 493)) := by rfl
theorem n_BOUND_EXACT (V : Gv) : nsIn V.gd.K mainGlobals "BOUND_EXACT" = some (some (.int (3) 495)) := by rfl
theorem n_AGES (V : Gv) : nsIn V.gd.K mainGlobals "AGES" = some (some (.int (64) 497)) := by rfl
theorem n_DEPTH_LEAST (V : Gv) : nsIn V.gd.K mainGlobals "DEPTH_LEAST" = some (some (.int (-8) 500)) := by rfl
theorem n_DEPTH_MOST (V : Gv) : nsIn V.gd.K mainGlobals "DEPTH_MOST" = some (some (.int (247) 502)) := by rfl
theorem n_VALUE_MOST (V : Gv) : nsIn V.gd.K mainGlobals "VALUE_MOST" = some (some (.int (32767) 504)) := by rfl
theorem n_KEY_AT (V : Gv) : nsIn V.gd.K mainGlobals "KEY_AT" = some (some (.int (48) 506)) := by rfl
theorem n_mated_in (V : Gv) : nsIn V.gd.K mainGlobals "mated_in" = some (some (.ref 28)) := by rfl
theorem isf_mated_in (V : Gv) : isFn V.gd.K (.ref 28) = true := by rfl
theorem kf_mated_in (V : Gv) : ∃ oc od fd sl, V.gd.K.lookup 28 = some ⟨oc, od, .func fd, sl⟩ := ⟨_, _, _, _, rfl⟩
theorem isf_TreeGame_moves (V : Gv) : isFn V.gd.K (.ref 128) = true := by rfl
theorem kf_TreeGame_moves (V : Gv) : ∃ oc od fd sl, V.gd.K.lookup 128 = some ⟨oc, od, .func fd, sl⟩ := ⟨_, _, _, _, rfl⟩
theorem m_moves (V : Gv) : findIn V.gd.K (.ref (V.gd.cls 0)) "moves" = some (some (.ref 128)) := by rfl
theorem nf_moves {V : Gv} : ("moves" : Str) ∉ V.gd.flds 0 := by show ("moves" : Str) ∉ fldsOf 0; decide
theorem isf_TreeGame_is_noisy (V : Gv) : isFn V.gd.K (.ref 182) = true := by rfl
theorem kf_TreeGame_is_noisy (V : Gv) : ∃ oc od fd sl, V.gd.K.lookup 182 = some ⟨oc, od, .func fd, sl⟩ := ⟨_, _, _, _, rfl⟩
theorem m_is_noisy (V : Gv) : findIn V.gd.K (.ref (V.gd.cls 0)) "is_noisy" = some (some (.ref 182)) := by rfl
theorem nf_is_noisy {V : Gv} : ("is_noisy" : Str) ∉ V.gd.flds 0 := by show ("is_noisy" : Str) ∉ fldsOf 0; decide
theorem isf_TreeGame_noisy (V : Gv) : isFn V.gd.K (.ref 133) = true := by rfl
theorem kf_TreeGame_noisy (V : Gv) : ∃ oc od fd sl, V.gd.K.lookup 133 = some ⟨oc, od, .func fd, sl⟩ := ⟨_, _, _, _, rfl⟩
theorem m_noisy (V : Gv) : findIn V.gd.K (.ref (V.gd.cls 0)) "noisy" = some (some (.ref 133)) := by rfl
theorem nf_noisy {V : Gv} : ("noisy" : Str) ∉ V.gd.flds 0 := by show ("noisy" : Str) ∉ fldsOf 0; decide
theorem isf_TreeGame_make (V : Gv) : isFn V.gd.K (.ref 140) = true := by rfl
theorem kf_TreeGame_make (V : Gv) : ∃ oc od fd sl, V.gd.K.lookup 140 = some ⟨oc, od, .func fd, sl⟩ := ⟨_, _, _, _, rfl⟩
theorem m_make (V : Gv) : findIn V.gd.K (.ref (V.gd.cls 0)) "make" = some (some (.ref 140)) := by rfl
theorem nf_make {V : Gv} : ("make" : Str) ∉ V.gd.flds 0 := by show ("make" : Str) ∉ fldsOf 0; decide
theorem isf_TreeGame_undo (V : Gv) : isFn V.gd.K (.ref 147) = true := by rfl
theorem kf_TreeGame_undo (V : Gv) : ∃ oc od fd sl, V.gd.K.lookup 147 = some ⟨oc, od, .func fd, sl⟩ := ⟨_, _, _, _, rfl⟩
theorem m_undo (V : Gv) : findIn V.gd.K (.ref (V.gd.cls 0)) "undo" = some (some (.ref 147)) := by rfl
theorem nf_undo {V : Gv} : ("undo" : Str) ∉ V.gd.flds 0 := by show ("undo" : Str) ∉ fldsOf 0; decide
theorem isf_TreeGame_value (V : Gv) : isFn V.gd.K (.ref 154) = true := by rfl
theorem kf_TreeGame_value (V : Gv) : ∃ oc od fd sl, V.gd.K.lookup 154 = some ⟨oc, od, .func fd, sl⟩ := ⟨_, _, _, _, rfl⟩
theorem m_value (V : Gv) : findIn V.gd.K (.ref (V.gd.cls 0)) "value" = some (some (.ref 154)) := by rfl
theorem nf_value {V : Gv} : ("value" : Str) ∉ V.gd.flds 0 := by show ("value" : Str) ∉ fldsOf 0; decide
theorem isf_TreeGame_key (V : Gv) : isFn V.gd.K (.ref 161) = true := by rfl
theorem kf_TreeGame_key (V : Gv) : ∃ oc od fd sl, V.gd.K.lookup 161 = some ⟨oc, od, .func fd, sl⟩ := ⟨_, _, _, _, rfl⟩
theorem m_key (V : Gv) : findIn V.gd.K (.ref (V.gd.cls 0)) "key" = some (some (.ref 161)) := by rfl
theorem nf_key {V : Gv} : ("key" : Str) ∉ V.gd.flds 0 := by show ("key" : Str) ∉ fldsOf 0; decide
theorem isf_TreeGame_in_check (V : Gv) : isFn V.gd.K (.ref 168) = true := by rfl
theorem kf_TreeGame_in_check (V : Gv) : ∃ oc od fd sl, V.gd.K.lookup 168 = some ⟨oc, od, .func fd, sl⟩ := ⟨_, _, _, _, rfl⟩
theorem m_in_check (V : Gv) : findIn V.gd.K (.ref (V.gd.cls 0)) "in_check" = some (some (.ref 168)) := by rfl
theorem nf_in_check {V : Gv} : ("in_check" : Str) ∉ V.gd.flds 0 := by show ("in_check" : Str) ∉ fldsOf 0; decide
theorem isf_TreeGame_is_draw (V : Gv) : isFn V.gd.K (.ref 175) = true := by rfl
theorem kf_TreeGame_is_draw (V : Gv) : ∃ oc od fd sl, V.gd.K.lookup 175 = some ⟨oc, od, .func fd, sl⟩ := ⟨_, _, _, _, rfl⟩
theorem m_is_draw (V : Gv) : findIn V.gd.K (.ref (V.gd.cls 0)) "is_draw" = some (some (.ref 175)) := by rfl
theorem nf_is_draw {V : Gv} : ("is_draw" : Str) ∉ V.gd.flds 0 := by show ("is_draw" : Str) ∉ fldsOf 0; decide
theorem isf_TreeGame_gain (V : Gv) : isFn V.gd.K (.ref 189) = true := by rfl
theorem kf_TreeGame_gain (V : Gv) : ∃ oc od fd sl, V.gd.K.lookup 189 = some ⟨oc, od, .func fd, sl⟩ := ⟨_, _, _, _, rfl⟩
theorem m_gain (V : Gv) : findIn V.gd.K (.ref (V.gd.cls 0)) "gain" = some (some (.ref 189)) := by rfl
theorem nf_gain {V : Gv} : ("gain" : Str) ∉ V.gd.flds 0 := by show ("gain" : Str) ∉ fldsOf 0; decide
theorem isf_TreeGame_side (V : Gv) : isFn V.gd.K (.ref 196) = true := by rfl
theorem kf_TreeGame_side (V : Gv) : ∃ oc od fd sl, V.gd.K.lookup 196 = some ⟨oc, od, .func fd, sl⟩ := ⟨_, _, _, _, rfl⟩
theorem m_side (V : Gv) : findIn V.gd.K (.ref (V.gd.cls 0)) "side" = some (some (.ref 196)) := by rfl
theorem nf_side {V : Gv} : ("side" : Str) ∉ V.gd.flds 0 := by show ("side" : Str) ∉ fldsOf 0; decide
theorem n_plain_quiesce (V : Gv) : nsIn V.gd.K mainGlobals "plain_quiesce" = some (some (.ref 35)) := by rfl
theorem isf_plain_quiesce (V : Gv) : isFn V.gd.K (.ref 35) = true := by rfl
theorem kf_plain_quiesce (V : Gv) : ∃ oc od fd sl, V.gd.K.lookup 35 = some ⟨oc, od, .func fd, sl⟩ := ⟨_, _, _, _, rfl⟩
theorem n_end_value (V : Gv) : nsIn V.gd.K mainGlobals "end_value" = some (some (.ref 42)) := by rfl
theorem isf_end_value (V : Gv) : isFn V.gd.K (.ref 42) = true := by rfl
theorem kf_end_value (V : Gv) : ∃ oc od fd sl, V.gd.K.lookup 42 = some ⟨oc, od, .func fd, sl⟩ := ⟨_, _, _, _, rfl⟩
theorem n_negamax (V : Gv) : nsIn V.gd.K mainGlobals "negamax" = some (some (.ref 49)) := by rfl
theorem isf_negamax (V : Gv) : isFn V.gd.K (.ref 49) = true := by rfl
theorem kf_negamax (V : Gv) : ∃ oc od fd sl, V.gd.K.lookup 49 = some ⟨oc, od, .func fd, sl⟩ := ⟨_, _, _, _, rfl⟩
theorem n_line_value (V : Gv) : nsIn V.gd.K mainGlobals "line_value" = some (some (.ref 56)) := by rfl
theorem isf_line_value (V : Gv) : isFn V.gd.K (.ref 56) = true := by rfl
theorem kf_line_value (V : Gv) : ∃ oc od fd sl, V.gd.K.lookup 56 = some ⟨oc, od, .func fd, sl⟩ := ⟨_, _, _, _, rfl⟩
theorem n_count_nodes (V : Gv) : nsIn V.gd.K mainGlobals "count_nodes" = some (some (.ref 63)) := by rfl
theorem isf_count_nodes (V : Gv) : isFn V.gd.K (.ref 63) = true := by rfl
theorem kf_count_nodes (V : Gv) : ∃ oc od fd sl, V.gd.K.lookup 63 = some ⟨oc, od, .func fd, sl⟩ := ⟨_, _, _, _, rfl⟩
theorem n_check_tree (V : Gv) : nsIn V.gd.K mainGlobals "check_tree" = some (some (.ref 210)) := by rfl
theorem isf_check_tree (V : Gv) : isFn V.gd.K (.ref 210) = true := by rfl
theorem kf_check_tree (V : Gv) : ∃ oc od fd sl, V.gd.K.lookup 210 = some ⟨oc, od, .func fd, sl⟩ := ⟨_, _, _, _, rfl⟩
theorem n_reached_nodes (V : Gv) : nsIn V.gd.K mainGlobals "reached_nodes" = some (some (.ref 215)) := by rfl
theorem isf_reached_nodes (V : Gv) : isFn V.gd.K (.ref 215) = true := by rfl
theorem kf_reached_nodes (V : Gv) : ∃ oc od fd sl, V.gd.K.lookup 215 = some ⟨oc, od, .func fd, sl⟩ := ⟨_, _, _, _, rfl⟩
theorem n_longest_way (V : Gv) : nsIn V.gd.K mainGlobals "longest_way" = some (some (.ref 222)) := by rfl
theorem isf_longest_way (V : Gv) : isFn V.gd.K (.ref 222) = true := by rfl
theorem kf_longest_way (V : Gv) : ∃ oc od fd sl, V.gd.K.lookup 222 = some ⟨oc, od, .func fd, sl⟩ := ⟨_, _, _, _, rfl⟩
theorem n_pack_entry (V : Gv) : nsIn V.gd.K mainGlobals "pack_entry" = some (some (.ref 229)) := by rfl
theorem isf_pack_entry (V : Gv) : isFn V.gd.K (.ref 229) = true := by rfl
theorem kf_pack_entry (V : Gv) : ∃ oc od fd sl, V.gd.K.lookup 229 = some ⟨oc, od, .func fd, sl⟩ := ⟨_, _, _, _, rfl⟩
theorem n_unpack_entry (V : Gv) : nsIn V.gd.K mainGlobals "unpack_entry" = some (some (.ref 236)) := by rfl
theorem isf_unpack_entry (V : Gv) : isFn V.gd.K (.ref 236) = true := by rfl
theorem kf_unpack_entry (V : Gv) : ∃ oc od fd sl, V.gd.K.lookup 236 = some ⟨oc, od, .func fd, sl⟩ := ⟨_, _, _, _, rfl⟩
theorem n_find_slot (V : Gv) : nsIn V.gd.K mainGlobals "find_slot" = some (some (.ref 243)) := by rfl
theorem isf_find_slot (V : Gv) : isFn V.gd.K (.ref 243) = true := by rfl
theorem kf_find_slot (V : Gv) : ∃ oc od fd sl, V.gd.K.lookup 243 = some ⟨oc, od, .func fd, sl⟩ := ⟨_, _, _, _, rfl⟩
theorem n_worth (V : Gv) : nsIn V.gd.K mainGlobals "worth" = some (some (.ref 250)) := by rfl
theorem isf_worth (V : Gv) : isFn V.gd.K (.ref 250) = true := by rfl
theorem kf_worth (V : Gv) : ∃ oc od fd sl, V.gd.K.lookup 250 = some ⟨oc, od, .func fd, sl⟩ := ⟨_, _, _, _, rfl⟩
theorem n_victim_slot (V : Gv) : nsIn V.gd.K mainGlobals "victim_slot" = some (some (.ref 257)) := by rfl
theorem isf_victim_slot (V : Gv) : isFn V.gd.K (.ref 257) = true := by rfl
theorem kf_victim_slot (V : Gv) : ∃ oc od fd sl, V.gd.K.lookup 257 = some ⟨oc, od, .func fd, sl⟩ := ⟨_, _, _, _, rfl⟩
theorem n_pushes_out (V : Gv) : nsIn V.gd.K mainGlobals "pushes_out" = some (some (.ref 264)) := by rfl
theorem isf_pushes_out (V : Gv) : isFn V.gd.K (.ref 264) = true := by rfl
theorem kf_pushes_out (V : Gv) : ∃ oc od fd sl, V.gd.K.lookup 264 = some ⟨oc, od, .func fd, sl⟩ := ⟨_, _, _, _, rfl⟩
theorem n_with_move (V : Gv) : nsIn V.gd.K mainGlobals "with_move" = some (some (.ref 271)) := by rfl
theorem isf_with_move (V : Gv) : isFn V.gd.K (.ref 271) = true := by rfl
theorem kf_with_move (V : Gv) : ∃ oc od fd sl, V.gd.K.lookup 271 = some ⟨oc, od, .func fd, sl⟩ := ⟨_, _, _, _, rfl⟩
theorem isf_TransTable_probe (V : Gv) : isFn V.gd.K (.ref 292) = true := by rfl
theorem kf_TransTable_probe (V : Gv) : ∃ oc od fd sl, V.gd.K.lookup 292 = some ⟨oc, od, .func fd, sl⟩ := ⟨_, _, _, _, rfl⟩
theorem m_probe (V : Gv) : findIn V.gd.K (.ref (V.gd.cls 1)) "probe" = some (some (.ref 292)) := by rfl
theorem nf_probe {V : Gv} : ("probe" : Str) ∉ V.gd.flds 1 := by show ("probe" : Str) ∉ fldsOf 1; decide
theorem isf_TransTable_save (V : Gv) : isFn V.gd.K (.ref 299) = true := by rfl
theorem kf_TransTable_save (V : Gv) : ∃ oc od fd sl, V.gd.K.lookup 299 = some ⟨oc, od, .func fd, sl⟩ := ⟨_, _, _, _, rfl⟩
theorem m_save (V : Gv) : findIn V.gd.K (.ref (V.gd.cls 1)) "save" = some (some (.ref 299)) := by rfl
theorem nf_save {V : Gv} : ("save" : Str) ∉ V.gd.flds 1 := by show ("save" : Str) ∉ fldsOf 1; decide
theorem n_table_line (V : Gv) : nsIn V.gd.K mainGlobals "table_line" = some (some (.ref 334)) := by rfl
theorem isf_table_line (V : Gv) : isFn V.gd.K (.ref 334) = true := by rfl
theorem kf_table_line (V : Gv) : ∃ oc od fd sl, V.gd.K.lookup 334 = some ⟨oc, od, .func fd, sl⟩ := ⟨_, _, _, _, rfl⟩
theorem n__law_START (V : Gv) : nsIn V.gd.K mainGlobals "_law_START" = some (some (.ref 341)) := by rfl
theorem isf__law_START (V : Gv) : isFn V.gd.K (.ref 341) = true := by rfl
theorem kf__law_START (V : Gv) : ∃ oc od fd sl, V.gd.K.lookup 341 = some ⟨oc, od, .func fd, sl⟩ := ⟨_, _, _, _, rfl⟩
theorem n__law_at (V : Gv) : nsIn V.gd.K mainGlobals "_law_at" = some (some (.ref 348)) := by rfl
theorem isf__law_at (V : Gv) : isFn V.gd.K (.ref 348) = true := by rfl
theorem kf__law_at (V : Gv) : ∃ oc od fd sl, V.gd.K.lookup 348 = some ⟨oc, od, .func fd, sl⟩ := ⟨_, _, _, _, rfl⟩
theorem n__law_digit (V : Gv) : nsIn V.gd.K mainGlobals "_law_digit" = some (some (.ref 355)) := by rfl
theorem isf__law_digit (V : Gv) : isFn V.gd.K (.ref 355) = true := by rfl
theorem kf__law_digit (V : Gv) : ∃ oc od fd sl, V.gd.K.lookup 355 = some ⟨oc, od, .func fd, sl⟩ := ⟨_, _, _, _, rfl⟩
theorem n__law_tree (V : Gv) : nsIn V.gd.K mainGlobals "_law_tree" = some (some (.ref 360)) := by rfl
theorem isf__law_tree (V : Gv) : isFn V.gd.K (.ref 360) = true := by rfl
theorem kf__law_tree (V : Gv) : ∃ oc od fd sl, V.gd.K.lookup 360 = some ⟨oc, od, .func fd, sl⟩ := ⟨_, _, _, _, rfl⟩
theorem n__law_up (V : Gv) : nsIn V.gd.K mainGlobals "_law_up" = some (some (.ref 367)) := by rfl
theorem isf__law_up (V : Gv) : isFn V.gd.K (.ref 367) = true := by rfl
theorem kf__law_up (V : Gv) : ∃ oc od fd sl, V.gd.K.lookup 367 = some ⟨oc, od, .func fd, sl⟩ := ⟨_, _, _, _, rfl⟩
theorem n__law_node (V : Gv) : nsIn V.gd.K mainGlobals "_law_node" = some (some (.ref 372)) := by rfl
theorem isf__law_node (V : Gv) : isFn V.gd.K (.ref 372) = true := by rfl
theorem kf__law_node (V : Gv) : ∃ oc od fd sl, V.gd.K.lookup 372 = some ⟨oc, od, .func fd, sl⟩ := ⟨_, _, _, _, rfl⟩
theorem n__law_levels (V : Gv) : nsIn V.gd.K mainGlobals "_law_levels" = some (some (.ref 377)) := by rfl
theorem isf__law_levels (V : Gv) : isFn V.gd.K (.ref 377) = true := by rfl
theorem kf__law_levels (V : Gv) : ∃ oc od fd sl, V.gd.K.lookup 377 = some ⟨oc, od, .func fd, sl⟩ := ⟨_, _, _, _, rfl⟩
theorem n__law_count (V : Gv) : nsIn V.gd.K mainGlobals "_law_count" = some (some (.ref 384)) := by rfl
theorem isf__law_count (V : Gv) : isFn V.gd.K (.ref 384) = true := by rfl
theorem kf__law_count (V : Gv) : ∃ oc od fd sl, V.gd.K.lookup 384 = some ⟨oc, od, .func fd, sl⟩ := ⟨_, _, _, _, rfl⟩
theorem n__law_walk (V : Gv) : nsIn V.gd.K mainGlobals "_law_walk" = some (some (.ref 391)) := by rfl
theorem isf__law_walk (V : Gv) : isFn V.gd.K (.ref 391) = true := by rfl
theorem kf__law_walk (V : Gv) : ∃ oc od fd sl, V.gd.K.lookup 391 = some ⟨oc, od, .func fd, sl⟩ := ⟨_, _, _, _, rfl⟩
theorem n__law_refuses (V : Gv) : nsIn V.gd.K mainGlobals "_law_refuses" = some (some (.ref 398)) := by rfl
theorem isf__law_refuses (V : Gv) : isFn V.gd.K (.ref 398) = true := by rfl
theorem kf__law_refuses (V : Gv) : ∃ oc od fd sl, V.gd.K.lookup 398 = some ⟨oc, od, .func fd, sl⟩ := ⟨_, _, _, _, rfl⟩
theorem n__law_tells (V : Gv) : nsIn V.gd.K mainGlobals "_law_tells" = some (some (.ref 403)) := by rfl
theorem isf__law_tells (V : Gv) : isFn V.gd.K (.ref 403) = true := by rfl
theorem kf__law_tells (V : Gv) : ∃ oc od fd sl, V.gd.K.lookup 403 = some ⟨oc, od, .func fd, sl⟩ := ⟨_, _, _, _, rfl⟩
theorem n__law_played (V : Gv) : nsIn V.gd.K mainGlobals "_law_played" = some (some (.ref 410)) := by rfl
theorem isf__law_played (V : Gv) : isFn V.gd.K (.ref 410) = true := by rfl
theorem kf__law_played (V : Gv) : ∃ oc od fd sl, V.gd.K.lookup 410 = some ⟨oc, od, .func fd, sl⟩ := ⟨_, _, _, _, rfl⟩
theorem n__law_kept (V : Gv) : nsIn V.gd.K mainGlobals "_law_kept" = some (some (.ref 417)) := by rfl
theorem isf__law_kept (V : Gv) : isFn V.gd.K (.ref 417) = true := by rfl
theorem kf__law_kept (V : Gv) : ∃ oc od fd sl, V.gd.K.lookup 417 = some ⟨oc, od, .func fd, sl⟩ := ⟨_, _, _, _, rfl⟩
theorem n__law_rounds (V : Gv) : nsIn V.gd.K mainGlobals "_law_rounds" = some (some (.ref 422)) := by rfl
theorem isf__law_rounds (V : Gv) : isFn V.gd.K (.ref 422) = true := by rfl
theorem kf__law_rounds (V : Gv) : ∃ oc od fd sl, V.gd.K.lookup 422 = some ⟨oc, od, .func fd, sl⟩ := ⟨_, _, _, _, rfl⟩
theorem n__law_refused (V : Gv) : nsIn V.gd.K mainGlobals "_law_refused" = some (some (.ref 429)) := by rfl
theorem isf__law_refused (V : Gv) : isFn V.gd.K (.ref 429) = true := by rfl
theorem kf__law_refused (V : Gv) : ∃ oc od fd sl, V.gd.K.lookup 429 = some ⟨oc, od, .func fd, sl⟩ := ⟨_, _, _, _, rfl⟩
theorem n__law_bent (V : Gv) : nsIn V.gd.K mainGlobals "_law_bent" = some (some (.ref 434)) := by rfl
theorem isf__law_bent (V : Gv) : isFn V.gd.K (.ref 434) = true := by rfl
theorem kf__law_bent (V : Gv) : ∃ oc od fd sl, V.gd.K.lookup 434 = some ⟨oc, od, .func fd, sl⟩ := ⟨_, _, _, _, rfl⟩
theorem n_TreeGame (V : Gv) : nsIn V.gd.K mainGlobals "TreeGame" = some (some (.ref (V.gd.cls 0))) := by rfl
theorem mk_TreeGame (V : Gv) : makesIn V.gd.K (V.gd.cls 0) = true := by rfl
theorem ini_TreeGame (V : Gv) : findIn V.gd.K (.ref (V.gd.cls 0)) "__init__" = some (some (.ref 121)) := by rfl
theorem ty_TreeGame (V : Gv) : typeIn V.gd.K (.ref 121) = some (.type "function") := by rfl
theorem kp_TreeGame (V : Gv) : keepIn V.gd.K (.ref (V.gd.cls 0)) = true := by rfl
theorem c0 (V : Gv) : ClsOk V.gd 0 := ⟨by rfl, by rfl, by show (fldsOf 0).Nodup; decide⟩
theorem fl0 (V : Gv) : (V.gd.flds 0).length ≤ 50 := by show (fldsOf 0).length ≤ 50; decide
theorem a_children (V : Gv) : findIn V.gd.K (.ref (V.gd.cls 0)) "children" = some none := by rfl
theorem st_children (V : Gv) : Stores V.gd.K (V.gd.cls 0) "children" := ⟨⟨_, rfl, rfl, rfl, rfl, fun self => by rw [refuseLoop_ref]; exact PySem.F.store_object.passes self⟩, by rfl, by rfl⟩
theorem a_values (V : Gv) : findIn V.gd.K (.ref (V.gd.cls 0)) "values" = some none := by rfl
theorem st_values (V : Gv) : Stores V.gd.K (V.gd.cls 0) "values" := ⟨⟨_, rfl, rfl, rfl, rfl, fun self => by rw [refuseLoop_ref]; exact PySem.F.store_object.passes self⟩, by rfl, by rfl⟩
theorem a_checks (V : Gv) : findIn V.gd.K (.ref (V.gd.cls 0)) "checks" = some none := by rfl
theorem st_checks (V : Gv) : Stores V.gd.K (V.gd.cls 0) "checks" := ⟨⟨_, rfl, rfl, rfl, rfl, fun self => by rw [refuseLoop_ref]; exact PySem.F.store_object.passes self⟩, by rfl, by rfl⟩
theorem a_draws (V : Gv) : findIn V.gd.K (.ref (V.gd.cls 0)) "draws" = some none := by rfl
theorem st_draws (V : Gv) : Stores V.gd.K (V.gd.cls 0) "draws" := ⟨⟨_, rfl, rfl, rfl, rfl, fun self => by rw [refuseLoop_ref]; exact PySem.F.store_object.passes self⟩, by rfl, by rfl⟩
theorem a_noisy_rows (V : Gv) : findIn V.gd.K (.ref (V.gd.cls 0)) "noisy_rows" = some none := by rfl
theorem st_noisy_rows (V : Gv) : Stores V.gd.K (V.gd.cls 0) "noisy_rows" := ⟨⟨_, rfl, rfl, rfl, rfl, fun self => by rw [refuseLoop_ref]; exact PySem.F.store_object.passes self⟩, by rfl, by rfl⟩
theorem a_gain_rows (V : Gv) : findIn V.gd.K (.ref (V.gd.cls 0)) "gain_rows" = some none := by rfl
theorem st_gain_rows (V : Gv) : Stores V.gd.K (V.gd.cls 0) "gain_rows" := ⟨⟨_, rfl, rfl, rfl, rfl, fun self => by rw [refuseLoop_ref]; exact PySem.F.store_object.passes self⟩, by rfl, by rfl⟩
theorem a_path (V : Gv) : findIn V.gd.K (.ref (V.gd.cls 0)) "path" = some none := by rfl
theorem st_path (V : Gv) : Stores V.gd.K (V.gd.cls 0) "path" := ⟨⟨_, rfl, rfl, rfl, rfl, fun self => by rw [refuseLoop_ref]; exact PySem.F.store_object.passes self⟩, by rfl, by rfl⟩
theorem n_TransTable (V : Gv) : nsIn V.gd.K mainGlobals "TransTable" = some (some (.ref (V.gd.cls 1))) := by rfl
theorem mk_TransTable (V : Gv) : makesIn V.gd.K (V.gd.cls 1) = true := by rfl
theorem ini_TransTable (V : Gv) : findIn V.gd.K (.ref (V.gd.cls 1)) "__init__" = some (some (.ref 285)) := by rfl
theorem ty_TransTable (V : Gv) : typeIn V.gd.K (.ref 285) = some (.type "function") := by rfl
theorem kp_TransTable (V : Gv) : keepIn V.gd.K (.ref (V.gd.cls 1)) = true := by rfl
theorem c1 (V : Gv) : ClsOk V.gd 1 := ⟨by rfl, by rfl, by show (fldsOf 1).Nodup; decide⟩
theorem fl1 (V : Gv) : (V.gd.flds 1).length ≤ 50 := by show (fldsOf 1).length ≤ 50; decide
theorem a_clusters (V : Gv) : findIn V.gd.K (.ref (V.gd.cls 1)) "clusters" = some none := by rfl
theorem st_clusters (V : Gv) : Stores V.gd.K (V.gd.cls 1) "clusters" := ⟨⟨_, rfl, rfl, rfl, rfl, fun self => by rw [refuseLoop_ref]; exact PySem.F.store_object.passes self⟩, by rfl, by rfl⟩
theorem a_ways (V : Gv) : findIn V.gd.K (.ref (V.gd.cls 1)) "ways" = some none := by rfl
theorem st_ways (V : Gv) : Stores V.gd.K (V.gd.cls 1) "ways" := ⟨⟨_, rfl, rfl, rfl, rfl, fun self => by rw [refuseLoop_ref]; exact PySem.F.store_object.passes self⟩, by rfl, by rfl⟩
theorem a_age (V : Gv) : findIn V.gd.K (.ref (V.gd.cls 1)) "age" = some none := by rfl
theorem st_age (V : Gv) : Stores V.gd.K (V.gd.cls 1) "age" := ⟨⟨_, rfl, rfl, rfl, rfl, fun self => by rw [refuseLoop_ref]; exact PySem.F.store_object.passes self⟩, by rfl, by rfl⟩
theorem a_slots (V : Gv) : findIn V.gd.K (.ref (V.gd.cls 1)) "slots" = some none := by rfl
theorem st_slots (V : Gv) : Stores V.gd.K (V.gd.cls 1) "slots" := ⟨⟨_, rfl, rfl, rfl, rfl, fun self => by rw [refuseLoop_ref]; exact PySem.F.store_object.passes self⟩, by rfl, by rfl⟩
theorem free_len (V : Gv) : nsIn V.gd.K mainGlobals "len" = some none := by rfl
theorem free_min (V : Gv) : nsIn V.gd.K mainGlobals "min" = some none := by rfl
theorem free_max (V : Gv) : nsIn V.gd.K mainGlobals "max" = some none := by rfl
theorem free_sum (V : Gv) : nsIn V.gd.K mainGlobals "sum" = some none := by rfl
theorem free_sorted (V : Gv) : nsIn V.gd.K mainGlobals "sorted" = some none := by rfl
theorem free_list (V : Gv) : nsIn V.gd.K mainGlobals "list" = some none := by rfl
theorem free_range (V : Gv) : nsIn V.gd.K mainGlobals "range" = some none := by rfl
theorem ex_BadMove (V : Gv) : ExcOk V.gd 1 "BadMove" 77 := ⟨by rfl, ⟨_, _, _, _, _, _, _, _, _, _, _, _, _, _, _, _, rfl, ⟨by rfl, by rfl, by rfl, by rfl⟩⟩, by rfl, by rfl, by rfl, ⟨⟨_, rfl, rfl, rfl, rfl, fun self => by rw [refuseLoop_ref, refuseLoop_ref]; exact PySem.F.store_Exception.passes self⟩, by rfl, by rfl⟩⟩
theorem ex_BadTable (V : Gv) : ExcOk V.gd 2 "BadTable" 77 := ⟨by rfl, ⟨_, _, _, _, _, _, _, _, _, _, _, _, _, _, _, _, rfl, ⟨by rfl, by rfl, by rfl, by rfl⟩⟩, by rfl, by rfl, by rfl, ⟨⟨_, rfl, rfl, rfl, rfl, fun self => by rw [refuseLoop_ref, refuseLoop_ref]; exact PySem.F.store_Exception.passes self⟩, by rfl, by rfl⟩⟩
theorem ex_init (V : Gv) : InitOk V.gd 77 := ⟨⟨_, _, _, _, _, _, _, _, _, _, _, _, _, _, _, _, _, _, _, _, rfl, rfl, rfl, rfl, rfl, by intro _; exact ⟨_, rfl⟩, by intro _ _; rfl, rfl, rfl, rfl, rfl, rfl, rfl, rfl⟩, by rfl, by rfl⟩
theorem cld_count : (("count" : Str) == ("__classdict__" : Str)) = false := by decide
theorem cld_qdepth : (("qdepth" : Str) == ("__classdict__" : Str)) = false := by decide
theorem cld_rounds : (("rounds" : Str) == ("__classdict__" : Str)) = false := by decide
theorem cld_seen : (("seen" : Str) == ("__classdict__" : Str)) = false := by decide
theorem cld_total : (("total" : Str) == ("__classdict__" : Str)) = false := by decide
end Mine
end
section
open PySem PySem.W PyProof.Rows
set_option Elab.async false
set_option linter.unusedVariables false
set_option maxRecDepth 100000
set_option maxHeartbeats 4000000
namespace Mine
theorem len0 {P : List Value → Prop} (h : P []) (vs : List Value) (e : vs.length = 0) : P vs := by
  rw [List.length_eq_zero_iff.mp e]; exact h
theorem len1 {P : List Value → Prop} (h : ∀ a, P [a]) (vs : List Value) (e : vs.length = 1) : P vs := by
  cases vs with
  | nil => cases e
  | cons x vs => exact len0 (P := fun vs => P (x :: vs)) (h x) vs (Nat.succ.inj e)
theorem len2 {P : List Value → Prop} (h : ∀ a b, P [a, b]) (vs : List Value) (e : vs.length = 2) : P vs := by
  cases vs with
  | nil => cases e
  | cons x vs => exact len1 (P := fun vs => P (x :: vs)) (fun a => h x a) vs (Nat.succ.inj e)
theorem len3 {P : List Value → Prop} (h : ∀ a b c, P [a, b, c]) (vs : List Value) (e : vs.length = 3) : P vs := by
  cases vs with
  | nil => cases e
  | cons x vs => exact len2 (P := fun vs => P (x :: vs)) (fun a b => h x a b) vs (Nat.succ.inj e)
theorem len4 {P : List Value → Prop} (h : ∀ a b c d, P [a, b, c, d]) (vs : List Value) (e : vs.length = 4) : P vs := by
  cases vs with
  | nil => cases e
  | cons x vs => exact len3 (P := fun vs => P (x :: vs)) (fun a b c => h x a b c) vs (Nat.succ.inj e)
theorem len5 {P : List Value → Prop} (h : ∀ a b c d e, P [a, b, c, d, e]) (vs : List Value) (e : vs.length = 5) : P vs := by
  cases vs with
  | nil => cases e
  | cons x vs => exact len4 (P := fun vs => P (x :: vs)) (fun a b c d => h x a b c d) vs (Nat.succ.inj e)
theorem len6 {P : List Value → Prop} (h : ∀ a b c d e f, P [a, b, c, d, e, f]) (vs : List Value) (e : vs.length = 6) : P vs := by
  cases vs with
  | nil => cases e
  | cons x vs => exact len5 (P := fun vs => P (x :: vs)) (fun a b c d e => h x a b c d e) vs (Nat.succ.inj e)
theorem len7 {P : List Value → Prop} (h : ∀ a b c d e f g, P [a, b, c, d, e, f, g]) (vs : List Value) (e : vs.length = 7) : P vs := by
  cases vs with
  | nil => cases e
  | cons x vs => exact len6 (P := fun vs => P (x :: vs)) (fun a b c d e f => h x a b c d e f) vs (Nat.succ.inj e)
theorem r_mated_in (V : Gv) {hd : Bool} : RefF V.gd hd 1 28 f_mated_in := by
  apply RefF.mk ["ply"] [("ply", 0)] rfl rfl rfl (len1 fun _ => rfl) ⟨rfl, rfl, rfl, rfl, rfl, rfl⟩ (by rfl)
  refine ref_one ?_
  refine sref_ret ?_
  refine ref_bin (op := .sub) ?_ ?_
  exact ref_l rfl
  exact ref_gint (by rfl) (n_MATE V) (by rfl)
theorem r_TreeGame___init__ (V : Gv) {hd : Bool} : RefF V.gd hd 1 121 f_TreeGame___init__ := by
  apply RefF.mk ["self", "children", "values", "checks", "draws", "noisy", "gains"] [("self", 0), ("children", 1), ("values", 2), ("checks", 3), ("draws", 4), ("noisy", 5), ("gains", 6)] rfl rfl rfl (len7 fun _ _ _ _ _ _ _ => rfl) ⟨rfl, rfl, rfl, rfl, rfl, rfl⟩ (by rfl)
  refine ref_seq ?_ ?_
  refine sref_setAttr ?_ ?_ (c0 V) (by rfl) (fl0 V) (st_children V) (by intro _ _; rfl)
  exact ref_l rfl
  exact ref_l rfl
  refine ref_seq ?_ ?_
  refine sref_setAttr ?_ ?_ (c0 V) (by rfl) (fl0 V) (st_values V) (by intro _ _; rfl)
  exact ref_l rfl
  exact ref_l rfl
  refine ref_seq ?_ ?_
  refine sref_setAttr ?_ ?_ (c0 V) (by rfl) (fl0 V) (st_checks V) (by intro _ _; rfl)
  exact ref_l rfl
  exact ref_l rfl
  refine ref_seq ?_ ?_
  refine sref_setAttr ?_ ?_ (c0 V) (by rfl) (fl0 V) (st_draws V) (by intro _ _; rfl)
  exact ref_l rfl
  exact ref_l rfl
  refine ref_seq ?_ ?_
  refine sref_setAttr ?_ ?_ (c0 V) (by rfl) (fl0 V) (st_noisy_rows V) (by intro _ _; rfl)
  exact ref_l rfl
  exact ref_l rfl
  refine ref_seq ?_ ?_
  refine sref_setAttr ?_ ?_ (c0 V) (by rfl) (fl0 V) (st_gain_rows V) (by intro _ _; rfl)
  exact ref_l rfl
  exact ref_l rfl
  refine ref_one ?_
  refine sref_setAttr ?_ ?_ (c0 V) (by rfl) (fl0 V) (st_path V) (by intro _ _; rfl)
  exact ref_l rfl
  with_reducible refine ref_list ?_ ?_
  decide
  refine .cons ?_ (star_plain rfl) ?_
  exact ref_int
  exact .nil
theorem r_TransTable___init__ (V : Gv) : RefF V.gd false 3 285 f_TransTable___init__ := by
  apply RefF.mk ["self", "clusters", "ways"] [("self", 0), ("clusters", 1), ("ways", 2)] rfl rfl rfl (len3 fun _ _ _ => rfl) ⟨rfl, rfl, rfl, rfl, rfl, rfl⟩ (by rfl)
  refine ref_seq ?_ ?_
  refine sref_if ?_ ?_ ?_
  refine tref_or ?_ ?_
  refine tref_cmp (op := .lt) ?_ ?_ (by rfl)
  exact ref_l rfl
  exact ref_int
  refine tref_or1 ?_
  refine tref_cmp (op := .lt) ?_ ?_ (by rfl)
  exact ref_l rfl
  exact ref_int
  refine ref_one ?_
  exact sref_raise (ex_BadTable V) (ex_init V) (by rfl) (by rfl)
  exact ref_nil
  refine ref_seq ?_ ?_
  refine sref_setAttr ?_ ?_ (c1 V) (by rfl) (fl1 V) (st_clusters V) (by intro _ _; rfl)
  exact ref_l rfl
  exact ref_l rfl
  refine ref_seq ?_ ?_
  refine sref_setAttr ?_ ?_ (c1 V) (by rfl) (fl1 V) (st_ways V) (by intro _ _; rfl)
  exact ref_l rfl
  exact ref_l rfl
  refine ref_seq ?_ ?_
  refine sref_setAttr ?_ ?_ (c1 V) (by rfl) (fl1 V) (st_age V) (by intro _ _; rfl)
  exact ref_l rfl
  exact ref_int
  refine ref_one ?_
  refine sref_setAttr ?_ ?_ (c1 V) (by rfl) (fl1 V) (st_slots V) (by intro _ _; rfl)
  exact ref_l rfl
  refine ref_bin (op := .mul) ?_ ?_
  with_reducible refine ref_list ?_ ?_
  decide
  refine .cons ?_ (star_plain rfl) ?_
  exact ref_int
  exact .nil
  refine ref_bin (op := .mul) ?_ ?_
  exact ref_l rfl
  exact ref_l rfl
theorem r_TreeGame_moves (V : Gv) : RefF V.gd false 1 128 f_TreeGame_moves := by
  apply RefF.mk ["self"] [("self", 0)] rfl rfl rfl (len1 fun _ => rfl) ⟨rfl, rfl, rfl, rfl, rfl, rfl⟩ (by rfl)
  refine ref_one ?_
  refine sref_ret ?_
  refine ref_listRange ⟨by rfl, free_list V⟩ ⟨by rfl, free_range V⟩ ?_
  refine .cons ?_ (star_plain rfl) ?_
  exact ref_int
  refine .cons ?_ (star_plain rfl) ?_
  refine ref_bin (op := .add) ?_ ?_
  refine ref_len ⟨by rfl, free_len V⟩ ?_
  refine .cons ?_ (star_plain rfl) ?_
  refine ref_sub ?_ ?_ (by intro _ _; rfl)
  refine ref_attr ?_ (c0 V) (by rfl) (a_children V) (by rfl) (by intro _; rfl)
  exact ref_l rfl
  refine ref_sub ?_ ?_ (by intro _ _; rfl)
  refine ref_attr ?_ (c0 V) (by rfl) (a_path V) (by rfl) (by intro _; rfl)
  exact ref_l rfl
  refine ref_neg ?_
  exact ref_int
  exact .nil
  exact ref_int
  exact .nil
theorem r_TreeGame_is_noisy (V : Gv) {hd : Bool} : RefF V.gd hd 1 182 f_TreeGame_is_noisy := by
  apply RefF.mk ["self", "move"] [("self", 0), ("move", 1)] rfl rfl rfl (len2 fun _ _ => rfl) ⟨rfl, rfl, rfl, rfl, rfl, rfl⟩ (by rfl)
  refine ref_one ?_
  refine sref_ret ?_
  refine ref_sub ?_ ?_ (by intro _ _; rfl)
  refine ref_sub ?_ ?_ (by intro _ _; rfl)
  refine ref_attr ?_ (c0 V) (by rfl) (a_noisy_rows V) (by rfl) (by intro _; rfl)
  exact ref_l rfl
  refine ref_sub ?_ ?_ (by intro _ _; rfl)
  refine ref_attr ?_ (c0 V) (by rfl) (a_path V) (by rfl) (by intro _; rfl)
  exact ref_l rfl
  refine ref_neg ?_
  exact ref_int
  refine ref_bin (op := .sub) ?_ ?_
  exact ref_l rfl
  exact ref_int
theorem r_TreeGame_noisy (V : Gv) : RefF V.gd false 2 133 f_TreeGame_noisy := by
  apply RefF.mk ["self"] [("self", 0)] rfl rfl rfl (len1 fun _ => rfl) ⟨rfl, rfl, rfl, rfl, rfl, rfl⟩ (by rfl)
  refine ref_one ?_
  refine sref_ret ?_
  refine ref_comp (CompOk.of [("move", 1), ("self", 0)] (by rfl)) ?_ ?_ ?_ (by intro _ _; rfl)
  refine iref_seq ?_
  refine ref_meth ((r_TreeGame_moves V).le (by decide)) ?_ .nil (c0 V) (nf_moves) (m_moves V) (isf_TreeGame_moves V) (kf_TreeGame_moves V) (by intro _; exact ⟨_, rfl⟩)
  exact ref_l rfl
  refine .one ?_
  refine tref_val ?_ (by intro _ _; rfl)
  refine ref_meth ((r_TreeGame_is_noisy V).le (by decide)) ?_ ?_ (c0 V) (nf_is_noisy) (m_is_noisy V) (isf_TreeGame_is_noisy V) (kf_TreeGame_is_noisy V) (by intro _; exact ⟨_, rfl⟩)
  exact ref_l rfl
  refine .cons ?_ (star_plain rfl) ?_
  exact ref_l rfl
  exact .nil
  exact ref_l rfl
theorem r_TreeGame_make (V : Gv) : RefF V.gd false 3 140 f_TreeGame_make := by
  apply RefF.mk ["self", "move"] [("self", 0), ("move", 1), ("kids", 2)] rfl rfl rfl (len2 fun _ _ => rfl) ⟨rfl, rfl, rfl, rfl, rfl, rfl⟩ (by rfl)
  refine ref_seq ?_ ?_
  refine sref_assign ?_ (mem_of_get (n := 2) rfl) (by intro _ _; rfl)
  refine ref_sub ?_ ?_ (by intro _ _; rfl)
  refine ref_attr ?_ (c0 V) (by rfl) (a_children V) (by rfl) (by intro _; rfl)
  exact ref_l rfl
  refine ref_sub ?_ ?_ (by intro _ _; rfl)
  refine ref_attr ?_ (c0 V) (by rfl) (a_path V) (by rfl) (by intro _; rfl)
  exact ref_l rfl
  refine ref_neg ?_
  exact ref_int
  refine ref_seq ?_ ?_
  refine sref_if ?_ ?_ ?_
  refine tref_or ?_ ?_
  refine tref_cmp (op := .lt) ?_ ?_ (by rfl)
  exact ref_l rfl
  exact ref_int
  refine tref_or1 ?_
  refine tref_cmp (op := .gt) ?_ ?_ (by rfl)
  exact ref_l rfl
  refine ref_len ⟨by rfl, free_len V⟩ ?_
  refine .cons ?_ (star_plain rfl) ?_
  exact ref_l rfl
  exact .nil
  refine ref_one ?_
  exact sref_raise (ex_BadMove V) (ex_init V) (by rfl) (by rfl)
  exact ref_nil
  refine ref_one ?_
  refine sref_expr ?_ (by intro _; rfl)
  refine ref_append ?_ ?_ (by intro _; rfl) (by intro _; exact ⟨_, rfl⟩)
  refine ref_attr ?_ (c0 V) (by rfl) (a_path V) (by rfl) (by intro _; rfl)
  exact ref_l rfl
  refine ref_sub ?_ ?_ (by intro _ _; rfl)
  exact ref_l rfl
  refine ref_bin (op := .sub) ?_ ?_
  exact ref_l rfl
  exact ref_int
theorem r_TreeGame_undo (V : Gv) : RefF V.gd false 3 147 f_TreeGame_undo := by
  apply RefF.mk ["self"] [("self", 0)] rfl rfl rfl (len1 fun _ => rfl) ⟨rfl, rfl, rfl, rfl, rfl, rfl⟩ (by rfl)
  refine ref_seq ?_ ?_
  refine sref_if ?_ ?_ ?_
  refine tref_cmp (op := .eq) ?_ ?_ (by rfl)
  refine ref_len ⟨by rfl, free_len V⟩ ?_
  refine .cons ?_ (star_plain rfl) ?_
  refine ref_attr ?_ (c0 V) (by rfl) (a_path V) (by rfl) (by intro _; rfl)
  exact ref_l rfl
  exact .nil
  exact ref_int
  refine ref_one ?_
  exact sref_raise (ex_BadMove V) (ex_init V) (by rfl) (by rfl)
  exact ref_nil
  refine ref_one ?_
  refine sref_expr ?_ (by intro _; rfl)
  refine ref_pop ?_ (by intro _; exact ⟨_, rfl⟩)
  refine ref_attr ?_ (c0 V) (by rfl) (a_path V) (by rfl) (by intro _; rfl)
  exact ref_l rfl
theorem r_TreeGame_value (V : Gv) {hd : Bool} : RefF V.gd hd 1 154 f_TreeGame_value := by
  apply RefF.mk ["self"] [("self", 0)] rfl rfl rfl (len1 fun _ => rfl) ⟨rfl, rfl, rfl, rfl, rfl, rfl⟩ (by rfl)
  refine ref_one ?_
  refine sref_ret ?_
  refine ref_sub ?_ ?_ (by intro _ _; rfl)
  refine ref_attr ?_ (c0 V) (by rfl) (a_values V) (by rfl) (by intro _; rfl)
  exact ref_l rfl
  refine ref_sub ?_ ?_ (by intro _ _; rfl)
  refine ref_attr ?_ (c0 V) (by rfl) (a_path V) (by rfl) (by intro _; rfl)
  exact ref_l rfl
  refine ref_neg ?_
  exact ref_int
theorem r_TreeGame_key (V : Gv) {hd : Bool} : RefF V.gd hd 1 161 f_TreeGame_key := by
  apply RefF.mk ["self"] [("self", 0)] rfl rfl rfl (len1 fun _ => rfl) ⟨rfl, rfl, rfl, rfl, rfl, rfl⟩ (by rfl)
  refine ref_one ?_
  refine sref_ret ?_
  refine ref_bin (op := .add) ?_ ?_
  refine ref_sub ?_ ?_ (by intro _ _; rfl)
  refine ref_attr ?_ (c0 V) (by rfl) (a_path V) (by rfl) (by intro _; rfl)
  exact ref_l rfl
  refine ref_neg ?_
  exact ref_int
  exact ref_int
theorem r_TreeGame_in_check (V : Gv) {hd : Bool} : RefF V.gd hd 1 168 f_TreeGame_in_check := by
  apply RefF.mk ["self"] [("self", 0)] rfl rfl rfl (len1 fun _ => rfl) ⟨rfl, rfl, rfl, rfl, rfl, rfl⟩ (by rfl)
  refine ref_one ?_
  refine sref_ret ?_
  refine ref_sub ?_ ?_ (by intro _ _; rfl)
  refine ref_attr ?_ (c0 V) (by rfl) (a_checks V) (by rfl) (by intro _; rfl)
  exact ref_l rfl
  refine ref_sub ?_ ?_ (by intro _ _; rfl)
  refine ref_attr ?_ (c0 V) (by rfl) (a_path V) (by rfl) (by intro _; rfl)
  exact ref_l rfl
  refine ref_neg ?_
  exact ref_int
theorem r_TreeGame_is_draw (V : Gv) {hd : Bool} : RefF V.gd hd 1 175 f_TreeGame_is_draw := by
  apply RefF.mk ["self"] [("self", 0)] rfl rfl rfl (len1 fun _ => rfl) ⟨rfl, rfl, rfl, rfl, rfl, rfl⟩ (by rfl)
  refine ref_one ?_
  refine sref_ret ?_
  refine ref_sub ?_ ?_ (by intro _ _; rfl)
  refine ref_attr ?_ (c0 V) (by rfl) (a_draws V) (by rfl) (by intro _; rfl)
  exact ref_l rfl
  refine ref_sub ?_ ?_ (by intro _ _; rfl)
  refine ref_attr ?_ (c0 V) (by rfl) (a_path V) (by rfl) (by intro _; rfl)
  exact ref_l rfl
  refine ref_neg ?_
  exact ref_int
theorem r_TreeGame_gain (V : Gv) {hd : Bool} : RefF V.gd hd 1 189 f_TreeGame_gain := by
  apply RefF.mk ["self", "move"] [("self", 0), ("move", 1)] rfl rfl rfl (len2 fun _ _ => rfl) ⟨rfl, rfl, rfl, rfl, rfl, rfl⟩ (by rfl)
  refine ref_one ?_
  refine sref_ret ?_
  refine ref_sub ?_ ?_ (by intro _ _; rfl)
  refine ref_sub ?_ ?_ (by intro _ _; rfl)
  refine ref_attr ?_ (c0 V) (by rfl) (a_gain_rows V) (by rfl) (by intro _; rfl)
  exact ref_l rfl
  refine ref_sub ?_ ?_ (by intro _ _; rfl)
  refine ref_attr ?_ (c0 V) (by rfl) (a_path V) (by rfl) (by intro _; rfl)
  exact ref_l rfl
  refine ref_neg ?_
  exact ref_int
  refine ref_bin (op := .sub) ?_ ?_
  exact ref_l rfl
  exact ref_int
theorem r_TreeGame_side (V : Gv) {hd : Bool} : RefF V.gd hd 1 196 f_TreeGame_side := by
  apply RefF.mk ["self"] [("self", 0)] rfl rfl rfl (len1 fun _ => rfl) ⟨rfl, rfl, rfl, rfl, rfl, rfl⟩ (by rfl)
  refine ref_one ?_
  refine sref_ret ?_
  refine ref_bin (op := .band) ?_ ?_
  refine ref_bin (op := .sub) ?_ ?_
  refine ref_len ⟨by rfl, free_len V⟩ ?_
  refine .cons ?_ (star_plain rfl) ?_
  refine ref_attr ?_ (c0 V) (by rfl) (a_path V) (by rfl) (by intro _; rfl)
  exact ref_l rfl
  exact .nil
  exact ref_int
  exact ref_int
theorem r_plain_quiesce (V : Gv) : ∀ n, RefF V.gd false (n + 3) 35 (f_plain_quiesce n)
  | 0 => by intro A s π H vs vs' r H' R _ _ _ _ q; cases q
  | n + 1 => by
    have ih := r_plain_quiesce V n
    rw [show n + 1 + 3 = n + 3 + 1 by omega]
    apply RefF.mk ["game", "ply", "qdepth"] [("game", 0), ("ply", 1), ("qdepth", 2), ("moves", 3), ("best", 4), ("move", 5), ("value", 6)] rfl rfl rfl (len3 fun _ _ _ => rfl) ⟨rfl, rfl, rfl, rfl, rfl, rfl⟩ (by rfl)
    refine ref_seq ?_ ?_
    refine sref_if ?_ ?_ ?_
    refine tref_and ?_ ?_
    refine tref_cmp (op := .gt) ?_ ?_ (by rfl)
    exact ref_l rfl
    exact ref_int
    refine tref_and1 ?_
    refine tref_val ?_ (by intro _ _; rfl)
    refine ref_meth ((r_TreeGame_is_draw V).le (by omega)) ?_ .nil (c0 V) (nf_is_draw) (m_is_draw V) (isf_TreeGame_is_draw V) (kf_TreeGame_is_draw V) (by intro _; exact ⟨_, rfl⟩)
    exact ref_l rfl
    refine ref_one ?_
    refine sref_ret ?_
    exact ref_gint (by rfl) (n_DRAW V) (by rfl)
    exact ref_nil
    refine ref_seq ?_ ?_
    refine sref_if ?_ ?_ ?_
    refine tref_val ?_ (by intro _ _; rfl)
    refine ref_meth ((r_TreeGame_in_check V).le (by omega)) ?_ .nil (c0 V) (nf_in_check) (m_in_check V) (isf_TreeGame_in_check V) (kf_TreeGame_in_check V) (by intro _; exact ⟨_, rfl⟩)
    exact ref_l rfl
    refine ref_seq ?_ ?_
    refine sref_assign ?_ (mem_of_get (n := 3) rfl) (by intro _ _; rfl)
    refine ref_meth ((r_TreeGame_moves V).le (by omega)) ?_ .nil (c0 V) (nf_moves) (m_moves V) (isf_TreeGame_moves V) (kf_TreeGame_moves V) (by intro _; exact ⟨_, rfl⟩)
    exact ref_l rfl
    refine ref_seq ?_ ?_
    refine sref_if ?_ ?_ ?_
    refine tref_not ?_
    refine tref_val ?_ (by intro _ _; rfl)
    exact ref_l rfl
    refine ref_one ?_
    refine sref_ret ?_
    refine ref_call ((r_mated_in V).le (by omega)) ?_ (by rfl) (n_mated_in V) (by rfl) (isf_mated_in V) (kf_mated_in V)
    refine .cons ?_ (star_plain rfl) ?_
    exact ref_l rfl
    exact .nil
    exact ref_nil
    refine ref_seq ?_ ?_
    refine sref_if ?_ ?_ ?_
    refine tref_cmp (op := .le) ?_ ?_ (by rfl)
    exact ref_l rfl
    exact ref_int
    refine ref_one ?_
    refine sref_ret ?_
    refine ref_meth ((r_TreeGame_value V).le (by omega)) ?_ .nil (c0 V) (nf_value) (m_value V) (isf_TreeGame_value V) (kf_TreeGame_value V) (by intro _; exact ⟨_, rfl⟩)
    exact ref_l rfl
    exact ref_nil
    refine ref_one ?_
    with_reducible refine sref_assign ?_ ?_ ?_
    refine ref_neg ?_
    exact ref_gint (by rfl) (n_INFINITE V) (by rfl)
    exact (mem_of_get (n := 4) rfl)
    exact (by intro _ _; rfl)
    refine ref_seq ?_ ?_
    refine sref_assign ?_ (mem_of_get (n := 4) rfl) (by intro _ _; rfl)
    refine ref_meth ((r_TreeGame_value V).le (by omega)) ?_ .nil (c0 V) (nf_value) (m_value V) (isf_TreeGame_value V) (kf_TreeGame_value V) (by intro _; exact ⟨_, rfl⟩)
    exact ref_l rfl
    refine ref_seq ?_ ?_
    refine sref_if ?_ ?_ ?_
    refine tref_cmp (op := .le) ?_ ?_ (by rfl)
    exact ref_l rfl
    exact ref_int
    refine ref_one ?_
    refine sref_ret ?_
    exact ref_l rfl
    exact ref_nil
    refine ref_one ?_
    refine sref_assign ?_ (mem_of_get (n := 3) rfl) (by intro _ _; rfl)
    refine ref_meth ((r_TreeGame_noisy V).le (by omega)) ?_ .nil (c0 V) (nf_noisy) (m_noisy V) (isf_TreeGame_noisy V) (kf_TreeGame_noisy V) (by intro _; exact ⟨_, rfl⟩)
    exact ref_l rfl
    refine ref_seq ?_ ?_
    refine sref_for ?_ (mem_of_get (n := 5) rfl) ?_ (by intro _ _; rfl)
    refine iref_seq ?_
    exact ref_l rfl
    refine ref_seq ?_ ?_
    refine sref_meth ((r_TreeGame_make V).le (by omega)) ?_ ?_ (c0 V) (nf_make) (m_make V) (isf_TreeGame_make V) (kf_TreeGame_make V) (by intro _; exact ⟨_, rfl⟩) (by intro _; rfl)
    exact ref_l rfl
    refine .cons ?_ (star_plain rfl) ?_
    exact ref_l rfl
    exact .nil
    refine ref_seq ?_ ?_
    refine sref_assign ?_ (mem_of_get (n := 6) rfl) (by intro _ _; rfl)
    refine ref_neg ?_
    refine ref_call ih ?_ (by rfl) (n_plain_quiesce V) (by rfl) (isf_plain_quiesce V) (kf_plain_quiesce V)
    refine .cons ?_ (star_plain rfl) ?_
    exact ref_l rfl
    refine .cons ?_ (star_plain rfl) ?_
    refine ref_bin (op := .add) ?_ ?_
    exact ref_l rfl
    exact ref_int
    refine .cons ?_ (star_plain rfl) ?_
    refine ref_bin (op := .sub) ?_ ?_
    exact ref_l rfl
    exact ref_int
    exact .nil
    refine ref_seq ?_ ?_
    refine sref_meth ((r_TreeGame_undo V).le (by omega)) ?_ .nil (c0 V) (nf_undo) (m_undo V) (isf_TreeGame_undo V) (kf_TreeGame_undo V) (by intro _; exact ⟨_, rfl⟩) (by intro _; rfl)
    exact ref_l rfl
    refine ref_one ?_
    refine sref_if ?_ ?_ ?_
    refine tref_cmp (op := .gt) ?_ ?_ (by rfl)
    exact ref_l rfl
    exact ref_l rfl
    refine ref_one ?_
    refine sref_assign ?_ (mem_of_get (n := 4) rfl) (by intro _ _; rfl)
    exact ref_l rfl
    exact ref_nil
    refine ref_one ?_
    refine sref_ret ?_
    exact ref_l rfl
theorem r_end_value (V : Gv) {hd : Bool} : RefF V.gd hd 2 42 f_end_value := by
  apply RefF.mk ["game", "ply"] [("game", 0), ("ply", 1)] rfl rfl rfl (len2 fun _ _ => rfl) ⟨rfl, rfl, rfl, rfl, rfl, rfl⟩ (by rfl)
  refine ref_seq ?_ ?_
  refine sref_if ?_ ?_ ?_
  refine tref_val ?_ (by intro _ _; rfl)
  refine ref_meth ((r_TreeGame_in_check V).le (by decide)) ?_ .nil (c0 V) (nf_in_check) (m_in_check V) (isf_TreeGame_in_check V) (kf_TreeGame_in_check V) (by intro _; exact ⟨_, rfl⟩)
  exact ref_l rfl
  refine ref_one ?_
  refine sref_ret ?_
  refine ref_call ((r_mated_in V).le (by decide)) ?_ (by rfl) (n_mated_in V) (by rfl) (isf_mated_in V) (kf_mated_in V)
  refine .cons ?_ (star_plain rfl) ?_
  exact ref_l rfl
  exact .nil
  exact ref_nil
  refine ref_one ?_
  refine sref_ret ?_
  exact ref_gint (by rfl) (n_DRAW V) (by rfl)
theorem r_negamax (V : Gv) : ∀ n, RefF V.gd false (n + 13) 49 (f_negamax n)
  | 0 => by intro A s π H vs vs' r H' R _ _ _ _ q; cases q
  | n + 1 => by
    have ih := r_negamax V n
    rw [show n + 1 + 13 = n + 13 + 1 by omega]
    apply RefF.mk ["game", "depth", "ply", "qdepth"] [("game", 0), ("depth", 1), ("ply", 2), ("qdepth", 3), ("moves", 4), ("best", 5), ("move", 6), ("value", 7)] rfl rfl rfl (len4 fun _ _ _ _ => rfl) ⟨rfl, rfl, rfl, rfl, rfl, rfl⟩ (by rfl)
    refine ref_seq ?_ ?_
    refine sref_if ?_ ?_ ?_
    refine tref_and ?_ ?_
    refine tref_cmp (op := .gt) ?_ ?_ (by rfl)
    exact ref_l rfl
    exact ref_int
    refine tref_and1 ?_
    refine tref_val ?_ (by intro _ _; rfl)
    refine ref_meth ((r_TreeGame_is_draw V).le (by omega)) ?_ .nil (c0 V) (nf_is_draw) (m_is_draw V) (isf_TreeGame_is_draw V) (kf_TreeGame_is_draw V) (by intro _; exact ⟨_, rfl⟩)
    exact ref_l rfl
    refine ref_one ?_
    refine sref_ret ?_
    exact ref_gint (by rfl) (n_DRAW V) (by rfl)
    exact ref_nil
    refine ref_seq ?_ ?_
    refine sref_if ?_ ?_ ?_
    refine tref_cmp (op := .le) ?_ ?_ (by rfl)
    exact ref_l rfl
    exact ref_int
    refine ref_one ?_
    refine sref_ret ?_
    refine ref_call ((r_plain_quiesce V 10).le (by omega)) ?_ (by rfl) (n_plain_quiesce V) (by rfl) (isf_plain_quiesce V) (kf_plain_quiesce V)
    refine .cons ?_ (star_plain rfl) ?_
    exact ref_l rfl
    refine .cons ?_ (star_plain rfl) ?_
    exact ref_l rfl
    refine .cons ?_ (star_plain rfl) ?_
    exact ref_l rfl
    exact .nil
    exact ref_nil
    refine ref_seq ?_ ?_
    refine sref_assign ?_ (mem_of_get (n := 4) rfl) (by intro _ _; rfl)
    refine ref_meth ((r_TreeGame_moves V).le (by omega)) ?_ .nil (c0 V) (nf_moves) (m_moves V) (isf_TreeGame_moves V) (kf_TreeGame_moves V) (by intro _; exact ⟨_, rfl⟩)
    exact ref_l rfl
    refine ref_seq ?_ ?_
    refine sref_if ?_ ?_ ?_
    refine tref_not ?_
    refine tref_val ?_ (by intro _ _; rfl)
    exact ref_l rfl
    refine ref_one ?_
    refine sref_ret ?_
    refine ref_call ((r_end_value V).le (by omega)) ?_ (by rfl) (n_end_value V) (by rfl) (isf_end_value V) (kf_end_value V)
    refine .cons ?_ (star_plain rfl) ?_
    exact ref_l rfl
    refine .cons ?_ (star_plain rfl) ?_
    exact ref_l rfl
    exact .nil
    exact ref_nil
    refine ref_seq ?_ ?_
    with_reducible refine sref_assign ?_ ?_ ?_
    refine ref_neg ?_
    exact ref_gint (by rfl) (n_INFINITE V) (by rfl)
    exact (mem_of_get (n := 5) rfl)
    exact (by intro _ _; rfl)
    refine ref_seq ?_ ?_
    refine sref_for ?_ (mem_of_get (n := 6) rfl) ?_ (by intro _ _; rfl)
    refine iref_seq ?_
    exact ref_l rfl
    refine ref_seq ?_ ?_
    refine sref_meth ((r_TreeGame_make V).le (by omega)) ?_ ?_ (c0 V) (nf_make) (m_make V) (isf_TreeGame_make V) (kf_TreeGame_make V) (by intro _; exact ⟨_, rfl⟩) (by intro _; rfl)
    exact ref_l rfl
    refine .cons ?_ (star_plain rfl) ?_
    exact ref_l rfl
    exact .nil
    refine ref_seq ?_ ?_
    refine sref_assign ?_ (mem_of_get (n := 7) rfl) (by intro _ _; rfl)
    refine ref_neg ?_
    refine ref_call ih ?_ (by rfl) (n_negamax V) (by rfl) (isf_negamax V) (kf_negamax V)
    refine .cons ?_ (star_plain rfl) ?_
    exact ref_l rfl
    refine .cons ?_ (star_plain rfl) ?_
    refine ref_bin (op := .sub) ?_ ?_
    exact ref_l rfl
    exact ref_int
    refine .cons ?_ (star_plain rfl) ?_
    refine ref_bin (op := .add) ?_ ?_
    exact ref_l rfl
    exact ref_int
    refine .cons ?_ (star_plain rfl) ?_
    exact ref_l rfl
    exact .nil
    refine ref_seq ?_ ?_
    refine sref_meth ((r_TreeGame_undo V).le (by omega)) ?_ .nil (c0 V) (nf_undo) (m_undo V) (isf_TreeGame_undo V) (kf_TreeGame_undo V) (by intro _; exact ⟨_, rfl⟩) (by intro _; rfl)
    exact ref_l rfl
    refine ref_one ?_
    refine sref_if ?_ ?_ ?_
    refine tref_cmp (op := .gt) ?_ ?_ (by rfl)
    exact ref_l rfl
    exact ref_l rfl
    refine ref_one ?_
    refine sref_assign ?_ (mem_of_get (n := 5) rfl) (by intro _ _; rfl)
    exact ref_l rfl
    exact ref_nil
    refine ref_one ?_
    refine sref_ret ?_
    exact ref_l rfl
theorem r_line_value (V : Gv) : RefF V.gd false 24 56 f_line_value := by
  apply RefF.mk ["game", "line", "depth", "qdepth"] [("game", 0), ("line", 1), ("depth", 2), ("qdepth", 3), ("move", 4), ("value", 5), ("_", 6)] rfl rfl rfl (len4 fun _ _ _ _ => rfl) ⟨rfl, rfl, rfl, rfl, rfl, rfl⟩ (by rfl)
  refine ref_seq ?_ ?_
  refine sref_for ?_ (mem_of_get (n := 4) rfl) ?_ (by intro _ _; rfl)
  refine iref_seq ?_
  exact ref_l rfl
  refine ref_one ?_
  refine sref_meth ((r_TreeGame_make V).le (by decide)) ?_ ?_ (c0 V) (nf_make) (m_make V) (isf_TreeGame_make V) (kf_TreeGame_make V) (by intro _; exact ⟨_, rfl⟩) (by intro _; rfl)
  exact ref_l rfl
  refine .cons ?_ (star_plain rfl) ?_
  exact ref_l rfl
  exact .nil
  refine ref_seq ?_ ?_
  refine sref_assign ?_ (mem_of_get (n := 5) rfl) (by intro _ _; rfl)
  refine ref_call ((r_negamax V 10).le (by decide)) ?_ (by rfl) (n_negamax V) (by rfl) (isf_negamax V) (kf_negamax V)
  refine .cons ?_ (star_plain rfl) ?_
  exact ref_l rfl
  refine .cons ?_ (star_plain rfl) ?_
  refine ref_bin (op := .sub) ?_ ?_
  exact ref_l rfl
  refine ref_len ⟨by rfl, free_len V⟩ ?_
  refine .cons ?_ (star_plain rfl) ?_
  exact ref_l rfl
  exact .nil
  refine .cons ?_ (star_plain rfl) ?_
  refine ref_len ⟨by rfl, free_len V⟩ ?_
  refine .cons ?_ (star_plain rfl) ?_
  exact ref_l rfl
  exact .nil
  refine .cons ?_ (star_plain rfl) ?_
  exact ref_l rfl
  exact .nil
  refine ref_seq ?_ ?_
  refine sref_for ?_ (mem_of_get (n := 6) rfl) ?_ (by intro _ _; rfl)
  refine iref_seq ?_
  exact ref_l rfl
  refine ref_one ?_
  refine sref_meth ((r_TreeGame_undo V).le (by decide)) ?_ .nil (c0 V) (nf_undo) (m_undo V) (isf_TreeGame_undo V) (kf_TreeGame_undo V) (by intro _; exact ⟨_, rfl⟩) (by intro _; rfl)
  exact ref_l rfl
  refine ref_seq ?_ ?_
  refine sref_if ?_ ?_ ?_
  refine tref_cmp (op := .eq) ?_ ?_ (by rfl)
  refine ref_bin (op := .mod) ?_ ?_
  refine ref_len ⟨by rfl, free_len V⟩ ?_
  refine .cons ?_ (star_plain rfl) ?_
  exact ref_l rfl
  exact .nil
  exact ref_int
  exact ref_int
  refine ref_one ?_
  refine sref_ret ?_
  refine ref_neg ?_
  exact ref_l rfl
  exact ref_nil
  refine ref_one ?_
  refine sref_ret ?_
  exact ref_l rfl
theorem r_count_nodes (V : Gv) : ∀ n, RefF V.gd false (n + 3) 63 (f_count_nodes n)
  | 0 => by intro A s π H vs vs' r H' R _ _ _ _ q; cases q
  | n + 1 => by
    have ih := r_count_nodes V n
    rw [show n + 1 + 3 = n + 3 + 1 by omega]
    apply RefF.mk ["game", "depth", "ply", "qdepth"] [("game", 0), ("depth", 1), ("ply", 2), ("qdepth", 3), ("moves", 4), ("count", 5), ("move", 6)] rfl rfl rfl (len4 fun _ _ _ _ => rfl) ⟨rfl, rfl, rfl, rfl, rfl, rfl⟩ (by rfl)
    refine ref_seq ?_ ?_
    refine sref_if ?_ ?_ ?_
    refine tref_and ?_ ?_
    refine tref_cmp (op := .gt) ?_ ?_ (by rfl)
    exact ref_l rfl
    exact ref_int
    refine tref_and1 ?_
    refine tref_val ?_ (by intro _ _; rfl)
    refine ref_meth ((r_TreeGame_is_draw V).le (by omega)) ?_ .nil (c0 V) (nf_is_draw) (m_is_draw V) (isf_TreeGame_is_draw V) (kf_TreeGame_is_draw V) (by intro _; exact ⟨_, rfl⟩)
    exact ref_l rfl
    refine ref_one ?_
    refine sref_ret ?_
    exact ref_int
    exact ref_nil
    refine ref_seq ?_ ?_
    refine sref_if ?_ ?_ ?_
    refine tref_or ?_ ?_
    refine tref_cmp (op := .gt) ?_ ?_ (by rfl)
    exact ref_l rfl
    exact ref_int
    refine tref_or1 ?_
    refine tref_val ?_ (by intro _ _; rfl)
    refine ref_meth ((r_TreeGame_in_check V).le (by omega)) ?_ .nil (c0 V) (nf_in_check) (m_in_check V) (isf_TreeGame_in_check V) (kf_TreeGame_in_check V) (by intro _; exact ⟨_, rfl⟩)
    exact ref_l rfl
    refine ref_one ?_
    refine sref_assign ?_ (mem_of_get (n := 4) rfl) (by intro _ _; rfl)
    refine ref_meth ((r_TreeGame_moves V).le (by omega)) ?_ .nil (c0 V) (nf_moves) (m_moves V) (isf_TreeGame_moves V) (kf_TreeGame_moves V) (by intro _; exact ⟨_, rfl⟩)
    exact ref_l rfl
    refine ref_one ?_
    refine sref_assign ?_ (mem_of_get (n := 4) rfl) (by intro _ _; rfl)
    refine ref_meth ((r_TreeGame_noisy V).le (by omega)) ?_ .nil (c0 V) (nf_noisy) (m_noisy V) (isf_TreeGame_noisy V) (kf_TreeGame_noisy V) (by intro _; exact ⟨_, rfl⟩)
    exact ref_l rfl
    refine ref_seq ?_ ?_
    refine sref_if ?_ ?_ ?_
    refine tref_cmp (op := .le) ?_ ?_ (by rfl)
    exact ref_l rfl
    exact ref_int
    refine ref_seq ?_ ?_
    refine sref_if ?_ ?_ ?_
    refine tref_cmp (op := .le) ?_ ?_ (by rfl)
    exact ref_l rfl
    exact ref_int
    refine ref_one ?_
    refine sref_ret ?_
    exact ref_int
    exact ref_nil
    refine ref_one ?_
    refine sref_aug (op := .sub) ?_ (mem_of_get (n := 3) rfl) (cld_qdepth) (.inr rfl)
    exact ref_int
    exact ref_nil
    refine ref_seq ?_ ?_
    with_reducible refine sref_assign ?_ ?_ ?_
    exact ref_int
    exact (mem_of_get (n := 5) rfl)
    exact (by intro _ _; rfl)
    refine ref_seq ?_ ?_
    refine sref_for ?_ (mem_of_get (n := 6) rfl) ?_ (by intro _ _; rfl)
    refine iref_seq ?_
    exact ref_l rfl
    refine ref_seq ?_ ?_
    refine sref_meth ((r_TreeGame_make V).le (by omega)) ?_ ?_ (c0 V) (nf_make) (m_make V) (isf_TreeGame_make V) (kf_TreeGame_make V) (by intro _; exact ⟨_, rfl⟩) (by intro _; rfl)
    exact ref_l rfl
    refine .cons ?_ (star_plain rfl) ?_
    exact ref_l rfl
    exact .nil
    refine ref_seq ?_ ?_
    refine sref_aug (op := .add) ?_ (mem_of_get (n := 5) rfl) (cld_count) (.inl rfl)
    refine ref_call ih ?_ (by rfl) (n_count_nodes V) (by rfl) (isf_count_nodes V) (kf_count_nodes V)
    refine .cons ?_ (star_plain rfl) ?_
    exact ref_l rfl
    refine .cons ?_ (star_plain rfl) ?_
    refine ref_bin (op := .sub) ?_ ?_
    exact ref_l rfl
    exact ref_int
    refine .cons ?_ (star_plain rfl) ?_
    refine ref_bin (op := .add) ?_ ?_
    exact ref_l rfl
    exact ref_int
    refine .cons ?_ (star_plain rfl) ?_
    exact ref_l rfl
    exact .nil
    refine ref_one ?_
    refine sref_meth ((r_TreeGame_undo V).le (by omega)) ?_ .nil (c0 V) (nf_undo) (m_undo V) (isf_TreeGame_undo V) (kf_TreeGame_undo V) (by intro _; exact ⟨_, rfl⟩) (by intro _; rfl)
    exact ref_l rfl
    refine ref_one ?_
    refine sref_ret ?_
    exact ref_l rfl
theorem r_check_tree (V : Gv) : RefF V.gd false 3 210 f_check_tree := by
  apply RefF.mk ["children", "values", "checks", "draws", "noisy", "gains"] [("children", 0), ("values", 1), ("checks", 2), ("draws", 3), ("noisy", 4), ("gains", 5), ("size", 6), ("row", 7), ("node", 8), ("child", 9)] rfl rfl rfl (len6 fun _ _ _ _ _ _ => rfl) ⟨rfl, rfl, rfl, rfl, rfl, rfl⟩ (by rfl)
  refine ref_seq ?_ ?_
  refine sref_assign ?_ (mem_of_get (n := 6) rfl) (by intro _ _; rfl)
  refine ref_len ⟨by rfl, free_len V⟩ ?_
  refine .cons ?_ (star_plain rfl) ?_
  exact ref_l rfl
  exact .nil
  refine ref_seq ?_ ?_
  refine sref_if ?_ ?_ ?_
  refine tref_cmp (op := .eq) ?_ ?_ (by rfl)
  exact ref_l rfl
  exact ref_int
  refine ref_one ?_
  exact sref_raise (ex_BadTable V) (ex_init V) (by rfl) (by rfl)
  exact ref_nil
  refine ref_seq ?_ ?_
  refine sref_for ?_ (mem_of_get (n := 7) rfl) ?_ (by intro _ _; rfl)
  refine iref_seq ?_
  with_reducible refine ref_tup ?_ ?_
  decide
  refine .cons ?_ (star_plain rfl) ?_
  exact ref_l rfl
  refine .cons ?_ (star_plain rfl) ?_
  exact ref_l rfl
  refine .cons ?_ (star_plain rfl) ?_
  exact ref_l rfl
  refine .cons ?_ (star_plain rfl) ?_
  exact ref_l rfl
  refine .cons ?_ (star_plain rfl) ?_
  exact ref_l rfl
  exact .nil
  refine ref_one ?_
  refine sref_if ?_ ?_ ?_
  refine tref_cmp (op := .ne) ?_ ?_ (by rfl)
  refine ref_len ⟨by rfl, free_len V⟩ ?_
  refine .cons ?_ (star_plain rfl) ?_
  exact ref_l rfl
  exact .nil
  exact ref_l rfl
  refine ref_one ?_
  exact sref_raise (ex_BadTable V) (ex_init V) (by rfl) (by rfl)
  exact ref_nil
  refine ref_one ?_
  refine sref_for ?_ (mem_of_get (n := 8) rfl) ?_ (by intro _ _; rfl)
  refine iref_range1 ⟨by rfl, free_range V⟩ ?_
  refine .cons ?_ (star_plain rfl) ?_
  exact ref_l rfl
  exact .nil
  refine ref_seq ?_ ?_
  refine sref_if ?_ ?_ ?_
  refine tref_or ?_ ?_
  refine tref_cmp (op := .ne) ?_ ?_ (by rfl)
  refine ref_len ⟨by rfl, free_len V⟩ ?_
  refine .cons ?_ (star_plain rfl) ?_
  refine ref_sub ?_ ?_ (by intro _ _; rfl)
  exact ref_l rfl
  exact ref_l rfl
  exact .nil
  refine ref_len ⟨by rfl, free_len V⟩ ?_
  refine .cons ?_ (star_plain rfl) ?_
  refine ref_sub ?_ ?_ (by intro _ _; rfl)
  exact ref_l rfl
  exact ref_l rfl
  exact .nil
  refine tref_or1 ?_
  refine tref_cmp (op := .ne) ?_ ?_ (by rfl)
  refine ref_len ⟨by rfl, free_len V⟩ ?_
  refine .cons ?_ (star_plain rfl) ?_
  refine ref_sub ?_ ?_ (by intro _ _; rfl)
  exact ref_l rfl
  exact ref_l rfl
  exact .nil
  refine ref_len ⟨by rfl, free_len V⟩ ?_
  refine .cons ?_ (star_plain rfl) ?_
  refine ref_sub ?_ ?_ (by intro _ _; rfl)
  exact ref_l rfl
  exact ref_l rfl
  exact .nil
  refine ref_one ?_
  exact sref_raise (ex_BadTable V) (ex_init V) (by rfl) (by rfl)
  exact ref_nil
  refine ref_one ?_
  refine sref_for ?_ (mem_of_get (n := 9) rfl) ?_ (by intro _ _; rfl)
  refine iref_seq ?_
  refine ref_sub ?_ ?_ (by intro _ _; rfl)
  exact ref_l rfl
  exact ref_l rfl
  refine ref_one ?_
  refine sref_if ?_ ?_ ?_
  refine tref_or ?_ ?_
  refine tref_cmp (op := .le) ?_ ?_ (by rfl)
  exact ref_l rfl
  exact ref_l rfl
  refine tref_or1 ?_
  refine tref_cmp (op := .ge) ?_ ?_ (by rfl)
  exact ref_l rfl
  exact ref_l rfl
  refine ref_one ?_
  exact sref_raise (ex_BadTable V) (ex_init V) (by rfl) (by rfl)
  exact ref_nil
theorem r_reached_nodes (V : Gv) : RefF V.gd false 1 215 f_reached_nodes := by
  apply RefF.mk ["children"] [("children", 0), ("marks", 1), ("node", 2), ("child", 3)] rfl rfl rfl (len1 fun _ => rfl) ⟨rfl, rfl, rfl, rfl, rfl, rfl⟩ (by rfl)
  refine ref_seq ?_ ?_
  refine sref_assign ?_ (mem_of_get (n := 1) rfl) (by intro _ _; rfl)
  refine ref_bin (op := .mul) ?_ ?_
  with_reducible refine ref_list ?_ ?_
  decide
  refine .cons ?_ (star_plain rfl) ?_
  exact ref_bool
  exact .nil
  refine ref_len ⟨by rfl, free_len V⟩ ?_
  refine .cons ?_ (star_plain rfl) ?_
  exact ref_l rfl
  exact .nil
  refine ref_seq ?_ ?_
  refine sref_setItem ?_ ?_ ?_ (by intro _ _; rfl)
  exact ref_l rfl
  exact ref_int
  exact ref_bool
  refine ref_seq ?_ ?_
  refine sref_for ?_ (mem_of_get (n := 2) rfl) ?_ (by intro _ _; rfl)
  refine iref_range1 ⟨by rfl, free_range V⟩ ?_
  refine .cons ?_ (star_plain rfl) ?_
  refine ref_len ⟨by rfl, free_len V⟩ ?_
  refine .cons ?_ (star_plain rfl) ?_
  exact ref_l rfl
  exact .nil
  exact .nil
  refine ref_one ?_
  refine sref_if ?_ ?_ ?_
  refine tref_val ?_ (by intro _ _; rfl)
  refine ref_sub ?_ ?_ (by intro _ _; rfl)
  exact ref_l rfl
  exact ref_l rfl
  refine ref_one ?_
  refine sref_for ?_ (mem_of_get (n := 3) rfl) ?_ (by intro _ _; rfl)
  refine iref_seq ?_
  refine ref_sub ?_ ?_ (by intro _ _; rfl)
  exact ref_l rfl
  exact ref_l rfl
  refine ref_one ?_
  refine sref_setItem ?_ ?_ ?_ (by intro _ _; rfl)
  exact ref_l rfl
  exact ref_l rfl
  exact ref_bool
  exact ref_nil
  refine ref_one ?_
  refine sref_ret ?_
  refine ref_comp (CompOk.of [("node", 4), ("marks", 1)] (by rfl)) ?_ ?_ ?_ (by intro _ _; rfl)
  refine iref_range1 ⟨by rfl, free_range V⟩ ?_
  refine .cons ?_ (star_plain rfl) ?_
  refine ref_len ⟨by rfl, free_len V⟩ ?_
  refine .cons ?_ (star_plain rfl) ?_
  exact ref_l rfl
  exact .nil
  exact .nil
  refine .one ?_
  refine tref_val ?_ (by intro _ _; rfl)
  refine ref_sub ?_ ?_ (by intro _ _; rfl)
  exact ref_l rfl
  exact ref_l rfl
  exact ref_l rfl
theorem r_longest_way (V : Gv) : RefF V.gd false 1 222 f_longest_way := by
  apply RefF.mk ["children"] [("children", 0), ("heights", 1), ("node", 2), ("child", 3)] rfl rfl rfl (len1 fun _ => rfl) ⟨rfl, rfl, rfl, rfl, rfl, rfl⟩ (by rfl)
  refine ref_seq ?_ ?_
  refine sref_assign ?_ (mem_of_get (n := 1) rfl) (by intro _ _; rfl)
  refine ref_bin (op := .mul) ?_ ?_
  with_reducible refine ref_list ?_ ?_
  decide
  refine .cons ?_ (star_plain rfl) ?_
  exact ref_int
  exact .nil
  refine ref_len ⟨by rfl, free_len V⟩ ?_
  refine .cons ?_ (star_plain rfl) ?_
  exact ref_l rfl
  exact .nil
  refine ref_seq ?_ ?_
  refine sref_for ?_ (mem_of_get (n := 2) rfl) ?_ (by intro _ _; rfl)
  refine iref_rangeDn ⟨by rfl, free_range V⟩ ?_
  refine .cons ?_ (star_plain rfl) ?_
  refine ref_bin (op := .sub) ?_ ?_
  refine ref_len ⟨by rfl, free_len V⟩ ?_
  refine .cons ?_ (star_plain rfl) ?_
  exact ref_l rfl
  exact .nil
  exact ref_int
  refine .cons ?_ (star_plain rfl) ?_
  refine ref_neg ?_
  exact ref_int
  refine .cons ?_ (star_plain rfl) ?_
  refine ref_neg ?_
  exact ref_int
  exact .nil
  refine ref_one ?_
  refine sref_for ?_ (mem_of_get (n := 3) rfl) ?_ (by intro _ _; rfl)
  refine iref_seq ?_
  refine ref_sub ?_ ?_ (by intro _ _; rfl)
  exact ref_l rfl
  exact ref_l rfl
  refine ref_one ?_
  refine sref_if ?_ ?_ ?_
  refine tref_cmp (op := .gt) ?_ ?_ (by rfl)
  refine ref_bin (op := .add) ?_ ?_
  refine ref_sub ?_ ?_ (by intro _ _; rfl)
  exact ref_l rfl
  exact ref_l rfl
  exact ref_int
  refine ref_sub ?_ ?_ (by intro _ _; rfl)
  exact ref_l rfl
  exact ref_l rfl
  refine ref_one ?_
  refine sref_setItem ?_ ?_ ?_ (by intro _ _; rfl)
  exact ref_l rfl
  exact ref_l rfl
  refine ref_bin (op := .add) ?_ ?_
  refine ref_sub ?_ ?_ (by intro _ _; rfl)
  exact ref_l rfl
  exact ref_l rfl
  exact ref_int
  exact ref_nil
  refine ref_one ?_
  refine sref_ret ?_
  refine ref_sub ?_ ?_ (by intro _ _; rfl)
  exact ref_l rfl
  exact ref_int
theorem r_pack_entry (V : Gv) : RefF V.gd false 3 229 f_pack_entry := by
  apply RefF.mk ["key", "move", "value", "depth", "bound", "age"] [("key", 0), ("move", 1), ("value", 2), ("depth", 3), ("bound", 4), ("age", 5), ("low", 6)] rfl rfl rfl (len6 fun _ _ _ _ _ _ => rfl) ⟨rfl, rfl, rfl, rfl, rfl, rfl⟩ (by rfl)
  refine ref_seq ?_ ?_
  refine sref_if ?_ ?_ ?_
  refine tref_cmp (op := .lt) ?_ ?_ (by rfl)
  exact ref_l rfl
  exact ref_int
  refine ref_one ?_
  exact sref_raise (ex_BadTable V) (ex_init V) (by rfl) (by rfl)
  exact ref_nil
  refine ref_seq ?_ ?_
  refine sref_if ?_ ?_ ?_
  refine tref_or ?_ ?_
  refine tref_cmp (op := .lt) ?_ ?_ (by rfl)
  exact ref_l rfl
  exact ref_int
  refine tref_or1 ?_
  refine tref_cmp (op := .gt) ?_ ?_ (by rfl)
  exact ref_l rfl
  exact ref_int
  refine ref_one ?_
  exact sref_raise (ex_BadTable V) (ex_init V) (by rfl) (by rfl)
  exact ref_nil
  refine ref_seq ?_ ?_
  refine sref_if ?_ ?_ ?_
  refine tref_or ?_ ?_
  refine tref_cmp (op := .lt) ?_ ?_ (by rfl)
  exact ref_l rfl
  refine ref_neg ?_
  exact ref_gint (by rfl) (n_VALUE_MOST V) (by rfl)
  refine tref_or1 ?_
  refine tref_cmp (op := .gt) ?_ ?_ (by rfl)
  exact ref_l rfl
  exact ref_gint (by rfl) (n_VALUE_MOST V) (by rfl)
  refine ref_one ?_
  exact sref_raise (ex_BadTable V) (ex_init V) (by rfl) (by rfl)
  exact ref_nil
  refine ref_seq ?_ ?_
  refine sref_if ?_ ?_ ?_
  refine tref_or ?_ ?_
  refine tref_cmp (op := .lt) ?_ ?_ (by rfl)
  exact ref_l rfl
  exact ref_gint (by rfl) (n_DEPTH_LEAST V) (by rfl)
  refine tref_or1 ?_
  refine tref_cmp (op := .gt) ?_ ?_ (by rfl)
  exact ref_l rfl
  exact ref_gint (by rfl) (n_DEPTH_MOST V) (by rfl)
  refine ref_one ?_
  exact sref_raise (ex_BadTable V) (ex_init V) (by rfl) (by rfl)
  exact ref_nil
  refine ref_seq ?_ ?_
  refine sref_if ?_ ?_ ?_
  refine tref_or ?_ ?_
  refine tref_cmp (op := .lt) ?_ ?_ (by rfl)
  exact ref_l rfl
  exact ref_gint (by rfl) (n_BOUND_NONE V) (by rfl)
  refine tref_or1 ?_
  refine tref_cmp (op := .gt) ?_ ?_ (by rfl)
  exact ref_l rfl
  exact ref_gint (by rfl) (n_BOUND_EXACT V) (by rfl)
  refine ref_one ?_
  exact sref_raise (ex_BadTable V) (ex_init V) (by rfl) (by rfl)
  exact ref_nil
  refine ref_seq ?_ ?_
  refine sref_if ?_ ?_ ?_
  refine tref_or ?_ ?_
  refine tref_cmp (op := .lt) ?_ ?_ (by rfl)
  exact ref_l rfl
  exact ref_int
  refine tref_or1 ?_
  refine tref_cmp (op := .ge) ?_ ?_ (by rfl)
  exact ref_l rfl
  exact ref_gint (by rfl) (n_AGES V) (by rfl)
  refine ref_one ?_
  exact sref_raise (ex_BadTable V) (ex_init V) (by rfl) (by rfl)
  exact ref_nil
  refine ref_seq ?_ ?_
  refine sref_assign ?_ (mem_of_get (n := 6) rfl) (by intro _ _; rfl)
  refine ref_bin (op := .bor) ?_ ?_
  refine ref_bin (op := .bor) ?_ ?_
  exact ref_l rfl
  refine ref_bin (op := .shl) ?_ ?_
  refine ref_bin (op := .add) ?_ ?_
  refine ref_bin (op := .add) ?_ ?_
  exact ref_l rfl
  exact ref_gint (by rfl) (n_VALUE_MOST V) (by rfl)
  exact ref_int
  exact ref_int
  refine ref_bin (op := .shl) ?_ ?_
  refine ref_bin (op := .sub) ?_ ?_
  exact ref_l rfl
  exact ref_gint (by rfl) (n_DEPTH_LEAST V) (by rfl)
  exact ref_int
  refine ref_one ?_
  refine sref_ret ?_
  refine ref_bin (op := .bor) ?_ ?_
  refine ref_bin (op := .bor) ?_ ?_
  refine ref_bin (op := .bor) ?_ ?_
  exact ref_l rfl
  refine ref_bin (op := .shl) ?_ ?_
  exact ref_l rfl
  exact ref_int
  refine ref_bin (op := .shl) ?_ ?_
  exact ref_l rfl
  exact ref_int
  refine ref_bin (op := .shl) ?_ ?_
  exact ref_l rfl
  exact ref_gint (by rfl) (n_KEY_AT V) (by rfl)
theorem r_unpack_entry (V : Gv) {hd : Bool} : RefF V.gd hd 1 236 f_unpack_entry := by
  apply RefF.mk ["entry"] [("entry", 0), ("move", 1), ("value", 2), ("depth", 3)] rfl rfl rfl (len1 fun _ => rfl) ⟨rfl, rfl, rfl, rfl, rfl, rfl⟩ (by rfl)
  refine ref_seq ?_ ?_
  refine sref_assign ?_ (mem_of_get (n := 1) rfl) (by intro _ _; rfl)
  refine ref_bin (op := .band) ?_ ?_
  exact ref_l rfl
  exact ref_int
  refine ref_seq ?_ ?_
  refine sref_assign ?_ (mem_of_get (n := 2) rfl) (by intro _ _; rfl)
  refine ref_bin (op := .sub) ?_ ?_
  refine ref_bin (op := .sub) ?_ ?_
  refine ref_bin (op := .band) ?_ ?_
  refine ref_bin (op := .shr) ?_ ?_
  exact ref_l rfl
  exact ref_int
  exact ref_int
  exact ref_gint (by rfl) (n_VALUE_MOST V) (by rfl)
  exact ref_int
  refine ref_seq ?_ ?_
  refine sref_assign ?_ (mem_of_get (n := 3) rfl) (by intro _ _; rfl)
  refine ref_bin (op := .add) ?_ ?_
  refine ref_bin (op := .band) ?_ ?_
  refine ref_bin (op := .shr) ?_ ?_
  exact ref_l rfl
  exact ref_int
  exact ref_int
  exact ref_gint (by rfl) (n_DEPTH_LEAST V) (by rfl)
  refine ref_one ?_
  refine sref_ret ?_
  with_reducible refine ref_tup ?_ ?_
  decide
  refine .cons ?_ (star_plain rfl) ?_
  refine ref_bin (op := .shr) ?_ ?_
  exact ref_l rfl
  exact ref_gint (by rfl) (n_KEY_AT V) (by rfl)
  refine .cons ?_ (star_plain rfl) ?_
  exact ref_l rfl
  refine .cons ?_ (star_plain rfl) ?_
  exact ref_l rfl
  refine .cons ?_ (star_plain rfl) ?_
  exact ref_l rfl
  refine .cons ?_ (star_plain rfl) ?_
  refine ref_bin (op := .band) ?_ ?_
  refine ref_bin (op := .shr) ?_ ?_
  exact ref_l rfl
  exact ref_int
  exact ref_int
  refine .cons ?_ (star_plain rfl) ?_
  refine ref_bin (op := .band) ?_ ?_
  refine ref_bin (op := .shr) ?_ ?_
  exact ref_l rfl
  exact ref_int
  exact ref_int
  exact .nil
theorem r_find_slot (V : Gv) : RefF V.gd false 1 243 f_find_slot := by
  apply RefF.mk ["slots", "start", "ways", "key"] [("slots", 0), ("start", 1), ("ways", 2), ("key", 3), ("at", 4)] rfl rfl rfl (len4 fun _ _ _ _ => rfl) ⟨rfl, rfl, rfl, rfl, rfl, rfl⟩ (by rfl)
  refine ref_seq ?_ ?_
  refine sref_for ?_ (mem_of_get (n := 4) rfl) ?_ (by intro _ _; rfl)
  refine iref_range2 ⟨by rfl, free_range V⟩ ?_
  refine .cons ?_ (star_plain rfl) ?_
  exact ref_l rfl
  refine .cons ?_ (star_plain rfl) ?_
  refine ref_bin (op := .add) ?_ ?_
  exact ref_l rfl
  exact ref_l rfl
  exact .nil
  refine ref_one ?_
  refine sref_if ?_ ?_ ?_
  refine tref_and ?_ ?_
  refine tref_cmp (op := .ne) ?_ ?_ (by rfl)
  refine ref_sub ?_ ?_ (by intro _ _; rfl)
  exact ref_l rfl
  exact ref_l rfl
  exact ref_int
  refine tref_and1 ?_
  refine tref_cmp (op := .eq) ?_ ?_ (by rfl)
  refine ref_bin (op := .shr) ?_ ?_
  refine ref_sub ?_ ?_ (by intro _ _; rfl)
  exact ref_l rfl
  exact ref_l rfl
  exact ref_gint (by rfl) (n_KEY_AT V) (by rfl)
  exact ref_l rfl
  refine ref_one ?_
  refine sref_ret ?_
  exact ref_l rfl
  exact ref_nil
  refine ref_one ?_
  refine sref_ret ?_
  refine ref_neg ?_
  exact ref_int
theorem r_worth (V : Gv) {hd : Bool} : RefF V.gd hd 2 250 f_worth := by
  apply RefF.mk ["entry", "age"] [("entry", 0), ("age", 1)] rfl rfl rfl (len2 fun _ _ => rfl) ⟨rfl, rfl, rfl, rfl, rfl, rfl⟩ (by rfl)
  refine ref_one ?_
  refine sref_ret ?_
  refine ref_bin (op := .sub) ?_ ?_
  refine ref_sub ?_ ?_ (by intro _ _; rfl)
  refine ref_call ((r_unpack_entry V).le (by decide)) ?_ (by rfl) (n_unpack_entry V) (by rfl) (isf_unpack_entry V) (kf_unpack_entry V)
  refine .cons ?_ (star_plain rfl) ?_
  exact ref_l rfl
  exact .nil
  exact ref_int
  refine ref_bin (op := .mul) ?_ ?_
  exact ref_int
  refine ref_bin (op := .mod) ?_ ?_
  refine ref_bin (op := .sub) ?_ ?_
  exact ref_l rfl
  refine ref_bin (op := .band) ?_ ?_
  refine ref_bin (op := .shr) ?_ ?_
  exact ref_l rfl
  exact ref_int
  exact ref_int
  exact ref_gint (by rfl) (n_AGES V) (by rfl)
theorem r_victim_slot (V : Gv) : RefF V.gd false 3 257 f_victim_slot := by
  apply RefF.mk ["slots", "start", "ways", "age"] [("slots", 0), ("start", 1), ("ways", 2), ("age", 3), ("found", 4), ("at", 5)] rfl rfl rfl (len4 fun _ _ _ _ => rfl) ⟨rfl, rfl, rfl, rfl, rfl, rfl⟩ (by rfl)
  refine ref_seq ?_ ?_
  refine sref_assign ?_ (mem_of_get (n := 4) rfl) (by intro _ _; rfl)
  exact ref_l rfl
  refine ref_seq ?_ ?_
  refine sref_for ?_ (mem_of_get (n := 5) rfl) ?_ (by intro _ _; rfl)
  refine iref_range2 ⟨by rfl, free_range V⟩ ?_
  refine .cons ?_ (star_plain rfl) ?_
  exact ref_l rfl
  refine .cons ?_ (star_plain rfl) ?_
  refine ref_bin (op := .add) ?_ ?_
  exact ref_l rfl
  exact ref_l rfl
  exact .nil
  refine ref_seq ?_ ?_
  refine sref_if ?_ ?_ ?_
  refine tref_cmp (op := .eq) ?_ ?_ (by rfl)
  refine ref_sub ?_ ?_ (by intro _ _; rfl)
  exact ref_l rfl
  exact ref_l rfl
  exact ref_int
  refine ref_one ?_
  refine sref_ret ?_
  exact ref_l rfl
  exact ref_nil
  refine ref_one ?_
  refine sref_if ?_ ?_ ?_
  refine tref_cmp (op := .lt) ?_ ?_ (by rfl)
  refine ref_call ((r_worth V).le (by decide)) ?_ (by rfl) (n_worth V) (by rfl) (isf_worth V) (kf_worth V)
  refine .cons ?_ (star_plain rfl) ?_
  refine ref_sub ?_ ?_ (by intro _ _; rfl)
  exact ref_l rfl
  exact ref_l rfl
  refine .cons ?_ (star_plain rfl) ?_
  exact ref_l rfl
  exact .nil
  refine ref_call ((r_worth V).le (by decide)) ?_ (by rfl) (n_worth V) (by rfl) (isf_worth V) (kf_worth V)
  refine .cons ?_ (star_plain rfl) ?_
  refine ref_sub ?_ ?_ (by intro _ _; rfl)
  exact ref_l rfl
  exact ref_l rfl
  refine .cons ?_ (star_plain rfl) ?_
  exact ref_l rfl
  exact .nil
  refine ref_one ?_
  refine sref_assign ?_ (mem_of_get (n := 4) rfl) (by intro _ _; rfl)
  exact ref_l rfl
  exact ref_nil
  refine ref_one ?_
  refine sref_ret ?_
  exact ref_l rfl
theorem r_pushes_out (V : Gv) {hd : Bool} : RefF V.gd hd 2 264 f_pushes_out := by
  apply RefF.mk ["entry", "depth", "bound", "age"] [("entry", 0), ("depth", 1), ("bound", 2), ("age", 3)] rfl rfl rfl (len4 fun _ _ _ _ => rfl) ⟨rfl, rfl, rfl, rfl, rfl, rfl⟩ (by rfl)
  refine ref_seq ?_ ?_
  refine sref_if ?_ ?_ ?_
  refine tref_or ?_ ?_
  refine tref_cmp (op := .eq) ?_ ?_ (by rfl)
  exact ref_l rfl
  exact ref_gint (by rfl) (n_BOUND_EXACT V) (by rfl)
  refine tref_or1 ?_
  refine tref_cmp (op := .ne) ?_ ?_ (by rfl)
  refine ref_bin (op := .band) ?_ ?_
  refine ref_bin (op := .shr) ?_ ?_
  exact ref_l rfl
  exact ref_int
  exact ref_int
  exact ref_l rfl
  refine ref_one ?_
  refine sref_ret ?_
  exact ref_bool
  exact ref_nil
  refine ref_one ?_
  refine sref_ret ?_
  refine ref_cmp (op := .gt) ?_ ?_ (by rfl)
  exact ref_l rfl
  refine ref_bin (op := .sub) ?_ ?_
  refine ref_sub ?_ ?_ (by intro _ _; rfl)
  refine ref_call ((r_unpack_entry V).le (by decide)) ?_ (by rfl) (n_unpack_entry V) (by rfl) (isf_unpack_entry V) (kf_unpack_entry V)
  refine .cons ?_ (star_plain rfl) ?_
  exact ref_l rfl
  exact .nil
  exact ref_int
  exact ref_int
theorem r_with_move (V : Gv) {hd : Bool} : RefF V.gd hd 1 271 f_with_move := by
  apply RefF.mk ["entry", "move"] [("entry", 0), ("move", 1)] rfl rfl rfl (len2 fun _ _ => rfl) ⟨rfl, rfl, rfl, rfl, rfl, rfl⟩ (by rfl)
  refine ref_one ?_
  refine sref_ret ?_
  refine ref_bin (op := .add) ?_ ?_
  refine ref_bin (op := .sub) ?_ ?_
  exact ref_l rfl
  refine ref_bin (op := .band) ?_ ?_
  exact ref_l rfl
  exact ref_int
  exact ref_l rfl
theorem r_TransTable_probe (V : Gv) : RefF V.gd false 2 292 f_TransTable_probe := by
  apply RefF.mk ["self", "key"] [("self", 0), ("key", 1), ("at", 2), ("row", 3)] rfl rfl rfl (len2 fun _ _ => rfl) ⟨rfl, rfl, rfl, rfl, rfl, rfl⟩ (by rfl)
  refine ref_seq ?_ ?_
  refine sref_assign ?_ (mem_of_get (n := 2) rfl) (by intro _ _; rfl)
  refine ref_call ((r_find_slot V).le (by decide)) ?_ (by rfl) (n_find_slot V) (by rfl) (isf_find_slot V) (kf_find_slot V)
  refine .cons ?_ (star_plain rfl) ?_
  refine ref_attr ?_ (c1 V) (by rfl) (a_slots V) (by rfl) (by intro _; rfl)
  exact ref_l rfl
  refine .cons ?_ (star_plain rfl) ?_
  refine ref_bin (op := .mul) ?_ ?_
  refine ref_bin (op := .mod) ?_ ?_
  exact ref_l rfl
  refine ref_attr ?_ (c1 V) (by rfl) (a_clusters V) (by rfl) (by intro _; rfl)
  exact ref_l rfl
  refine ref_attr ?_ (c1 V) (by rfl) (a_ways V) (by rfl) (by intro _; rfl)
  exact ref_l rfl
  refine .cons ?_ (star_plain rfl) ?_
  refine ref_attr ?_ (c1 V) (by rfl) (a_ways V) (by rfl) (by intro _; rfl)
  exact ref_l rfl
  refine .cons ?_ (star_plain rfl) ?_
  exact ref_l rfl
  exact .nil
  refine ref_seq ?_ ?_
  refine sref_if ?_ ?_ ?_
  refine tref_cmp (op := .lt) ?_ ?_ (by rfl)
  exact ref_l rfl
  exact ref_int
  refine ref_one ?_
  refine sref_ret ?_
  exact ref_none
  exact ref_nil
  refine ref_seq ?_ ?_
  refine sref_assign ?_ (mem_of_get (n := 3) rfl) (by intro _ _; rfl)
  refine ref_call ((r_unpack_entry V).le (by decide)) ?_ (by rfl) (n_unpack_entry V) (by rfl) (isf_unpack_entry V) (kf_unpack_entry V)
  refine .cons ?_ (star_plain rfl) ?_
  refine ref_sub ?_ ?_ (by intro _ _; rfl)
  refine ref_attr ?_ (c1 V) (by rfl) (a_slots V) (by rfl) (by intro _; rfl)
  exact ref_l rfl
  exact ref_l rfl
  exact .nil
  refine ref_one ?_
  refine sref_ret ?_
  with_reducible refine ref_tup ?_ ?_
  decide
  refine .cons ?_ (star_plain rfl) ?_
  refine ref_sub ?_ ?_ (by intro _ _; rfl)
  exact ref_l rfl
  exact ref_int
  refine .cons ?_ (star_plain rfl) ?_
  refine ref_sub ?_ ?_ (by intro _ _; rfl)
  exact ref_l rfl
  exact ref_int
  refine .cons ?_ (star_plain rfl) ?_
  refine ref_sub ?_ ?_ (by intro _ _; rfl)
  exact ref_l rfl
  exact ref_int
  refine .cons ?_ (star_plain rfl) ?_
  refine ref_sub ?_ ?_ (by intro _ _; rfl)
  exact ref_l rfl
  exact ref_int
  exact .nil
theorem r_TransTable_save (V : Gv) : RefF V.gd false 4 299 f_TransTable_save := by
  apply RefF.mk ["self", "key", "move", "value", "depth", "bound"] [("self", 0), ("key", 1), ("move", 2), ("value", 3), ("depth", 4), ("bound", 5), ("entry", 6), ("start", 7), ("at", 8), ("old", 9)] rfl rfl rfl (len6 fun _ _ _ _ _ _ => rfl) ⟨rfl, rfl, rfl, rfl, rfl, rfl⟩ (by rfl)
  refine ref_seq ?_ ?_
  refine sref_assign ?_ (mem_of_get (n := 6) rfl) (by intro _ _; rfl)
  refine ref_call ((r_pack_entry V).le (by decide)) ?_ (by rfl) (n_pack_entry V) (by rfl) (isf_pack_entry V) (kf_pack_entry V)
  refine .cons ?_ (star_plain rfl) ?_
  exact ref_l rfl
  refine .cons ?_ (star_plain rfl) ?_
  exact ref_l rfl
  refine .cons ?_ (star_plain rfl) ?_
  exact ref_l rfl
  refine .cons ?_ (star_plain rfl) ?_
  exact ref_l rfl
  refine .cons ?_ (star_plain rfl) ?_
  exact ref_l rfl
  refine .cons ?_ (star_plain rfl) ?_
  refine ref_attr ?_ (c1 V) (by rfl) (a_age V) (by rfl) (by intro _; rfl)
  exact ref_l rfl
  exact .nil
  refine ref_seq ?_ ?_
  refine sref_assign ?_ (mem_of_get (n := 7) rfl) (by intro _ _; rfl)
  refine ref_bin (op := .mul) ?_ ?_
  refine ref_bin (op := .mod) ?_ ?_
  exact ref_l rfl
  refine ref_attr ?_ (c1 V) (by rfl) (a_clusters V) (by rfl) (by intro _; rfl)
  exact ref_l rfl
  refine ref_attr ?_ (c1 V) (by rfl) (a_ways V) (by rfl) (by intro _; rfl)
  exact ref_l rfl
  refine ref_seq ?_ ?_
  refine sref_assign ?_ (mem_of_get (n := 8) rfl) (by intro _ _; rfl)
  refine ref_call ((r_find_slot V).le (by decide)) ?_ (by rfl) (n_find_slot V) (by rfl) (isf_find_slot V) (kf_find_slot V)
  refine .cons ?_ (star_plain rfl) ?_
  refine ref_attr ?_ (c1 V) (by rfl) (a_slots V) (by rfl) (by intro _; rfl)
  exact ref_l rfl
  refine .cons ?_ (star_plain rfl) ?_
  exact ref_l rfl
  refine .cons ?_ (star_plain rfl) ?_
  refine ref_attr ?_ (c1 V) (by rfl) (a_ways V) (by rfl) (by intro _; rfl)
  exact ref_l rfl
  refine .cons ?_ (star_plain rfl) ?_
  exact ref_l rfl
  exact .nil
  refine ref_seq ?_ ?_
  refine sref_if ?_ ?_ ?_
  refine tref_cmp (op := .lt) ?_ ?_ (by rfl)
  exact ref_l rfl
  exact ref_int
  refine ref_seq ?_ ?_
  refine sref_assign ?_ (mem_of_get (n := 8) rfl) (by intro _ _; rfl)
  refine ref_call ((r_victim_slot V).le (by decide)) ?_ (by rfl) (n_victim_slot V) (by rfl) (isf_victim_slot V) (kf_victim_slot V)
  refine .cons ?_ (star_plain rfl) ?_
  refine ref_attr ?_ (c1 V) (by rfl) (a_slots V) (by rfl) (by intro _; rfl)
  exact ref_l rfl
  refine .cons ?_ (star_plain rfl) ?_
  exact ref_l rfl
  refine .cons ?_ (star_plain rfl) ?_
  refine ref_attr ?_ (c1 V) (by rfl) (a_ways V) (by rfl) (by intro _; rfl)
  exact ref_l rfl
  refine .cons ?_ (star_plain rfl) ?_
  refine ref_attr ?_ (c1 V) (by rfl) (a_age V) (by rfl) (by intro _; rfl)
  exact ref_l rfl
  exact .nil
  refine ref_seq ?_ ?_
  refine sref_setItem ?_ ?_ ?_ (by intro _ _; rfl)
  refine ref_attr ?_ (c1 V) (by rfl) (a_slots V) (by rfl) (by intro _; rfl)
  exact ref_l rfl
  exact ref_l rfl
  exact ref_l rfl
  refine ref_one ?_
  exact sref_retN
  exact ref_nil
  refine ref_seq ?_ ?_
  refine sref_assign ?_ (mem_of_get (n := 9) rfl) (by intro _ _; rfl)
  refine ref_sub ?_ ?_ (by intro _ _; rfl)
  refine ref_attr ?_ (c1 V) (by rfl) (a_slots V) (by rfl) (by intro _; rfl)
  exact ref_l rfl
  exact ref_l rfl
  refine ref_seq ?_ ?_
  refine sref_if ?_ ?_ ?_
  refine tref_cmp (op := .eq) ?_ ?_ (by rfl)
  exact ref_l rfl
  exact ref_gint (by rfl) (n_NO_MOVE V) (by rfl)
  refine ref_one ?_
  refine sref_assign ?_ (mem_of_get (n := 6) rfl) (by intro _ _; rfl)
  refine ref_call ((r_with_move V).le (by decide)) ?_ (by rfl) (n_with_move V) (by rfl) (isf_with_move V) (kf_with_move V)
  refine .cons ?_ (star_plain rfl) ?_
  exact ref_l rfl
  refine .cons ?_ (star_plain rfl) ?_
  refine ref_bin (op := .band) ?_ ?_
  exact ref_l rfl
  exact ref_int
  exact .nil
  exact ref_nil
  refine ref_one ?_
  refine sref_if ?_ ?_ ?_
  refine tref_val ?_ (by intro _ _; rfl)
  refine ref_call ((r_pushes_out V).le (by decide)) ?_ (by rfl) (n_pushes_out V) (by rfl) (isf_pushes_out V) (kf_pushes_out V)
  refine .cons ?_ (star_plain rfl) ?_
  exact ref_l rfl
  refine .cons ?_ (star_plain rfl) ?_
  exact ref_l rfl
  refine .cons ?_ (star_plain rfl) ?_
  exact ref_l rfl
  refine .cons ?_ (star_plain rfl) ?_
  refine ref_attr ?_ (c1 V) (by rfl) (a_age V) (by rfl) (by intro _; rfl)
  exact ref_l rfl
  exact .nil
  refine ref_one ?_
  refine sref_setItem ?_ ?_ ?_ (by intro _ _; rfl)
  refine ref_attr ?_ (c1 V) (by rfl) (a_slots V) (by rfl) (by intro _; rfl)
  exact ref_l rfl
  exact ref_l rfl
  exact ref_l rfl
  refine ref_one ?_
  refine sref_setItem ?_ ?_ ?_ (by intro _ _; rfl)
  refine ref_attr ?_ (c1 V) (by rfl) (a_slots V) (by rfl) (by intro _; rfl)
  exact ref_l rfl
  exact ref_l rfl
  refine ref_call ((r_with_move V).le (by decide)) ?_ (by rfl) (n_with_move V) (by rfl) (isf_with_move V) (kf_with_move V)
  refine .cons ?_ (star_plain rfl) ?_
  exact ref_l rfl
  refine .cons ?_ (star_plain rfl) ?_
  refine ref_bin (op := .band) ?_ ?_
  exact ref_l rfl
  exact ref_int
  exact .nil
theorem r_table_line (V : Gv) : RefF V.gd false 4 334 f_table_line := by
  apply RefF.mk ["table", "game", "limit"] [("table", 0), ("game", 1), ("limit", 2), ("line", 3), ("row", 4), ("_", 5)] rfl rfl rfl (len3 fun _ _ _ => rfl) ⟨rfl, rfl, rfl, rfl, rfl, rfl⟩ (by rfl)
  refine ref_seq ?_ ?_
  with_reducible refine sref_assign ?_ ?_ ?_
  exact ref_list (by decide) .nil
  exact (mem_of_get (n := 3) rfl)
  exact (by intro _ _; rfl)
  refine ref_seq ?_ ?_
  refine sref_while ?_ ?_
  refine tref_cmp (op := .lt) ?_ ?_ (by rfl)
  refine ref_len ⟨by rfl, free_len V⟩ ?_
  refine .cons ?_ (star_plain rfl) ?_
  exact ref_l rfl
  exact .nil
  exact ref_l rfl
  refine ref_seq ?_ ?_
  refine sref_assign ?_ (mem_of_get (n := 4) rfl) (by intro _ _; rfl)
  refine ref_meth ((r_TransTable_probe V).le (by decide)) ?_ ?_ (c1 V) (nf_probe) (m_probe V) (isf_TransTable_probe V) (kf_TransTable_probe V) (by intro _; exact ⟨_, rfl⟩)
  exact ref_l rfl
  refine .cons ?_ (star_plain rfl) ?_
  refine ref_meth ((r_TreeGame_key V).le (by decide)) ?_ .nil (c0 V) (nf_key) (m_key V) (isf_TreeGame_key V) (kf_TreeGame_key V) (by intro _; exact ⟨_, rfl⟩)
  exact ref_l rfl
  exact .nil
  refine ref_seq ?_ ?_
  refine sref_if ?_ ?_ ?_
  refine tref_or ?_ ?_
  refine tref_cmp (op := .isn) ?_ ?_ (by rfl)
  exact ref_l rfl
  exact ref_none
  refine tref_or1 ?_
  refine tref_cmp (op := .notin) ?_ ?_ (by rfl)
  refine ref_sub ?_ ?_ (by intro _ _; rfl)
  exact ref_l rfl
  exact ref_int
  refine ref_meth ((r_TreeGame_moves V).le (by decide)) ?_ .nil (c0 V) (nf_moves) (m_moves V) (isf_TreeGame_moves V) (kf_TreeGame_moves V) (by intro _; exact ⟨_, rfl⟩)
  exact ref_l rfl
  refine ref_one ?_
  exact sref_brk
  exact ref_nil
  refine ref_seq ?_ ?_
  refine sref_meth ((r_TreeGame_make V).le (by decide)) ?_ ?_ (c0 V) (nf_make) (m_make V) (isf_TreeGame_make V) (kf_TreeGame_make V) (by intro _; exact ⟨_, rfl⟩) (by intro _; rfl)
  exact ref_l rfl
  refine .cons ?_ (star_plain rfl) ?_
  refine ref_sub ?_ ?_ (by intro _ _; rfl)
  exact ref_l rfl
  exact ref_int
  exact .nil
  refine ref_one ?_
  refine sref_expr ?_ (by intro _; rfl)
  refine ref_append ?_ ?_ (by intro _; rfl) (by intro _; exact ⟨_, rfl⟩)
  exact ref_l rfl
  refine ref_sub ?_ ?_ (by intro _ _; rfl)
  exact ref_l rfl
  exact ref_int
  refine ref_seq ?_ ?_
  refine sref_for ?_ (mem_of_get (n := 5) rfl) ?_ (by intro _ _; rfl)
  refine iref_seq ?_
  exact ref_l rfl
  refine ref_one ?_
  refine sref_meth ((r_TreeGame_undo V).le (by decide)) ?_ .nil (c0 V) (nf_undo) (m_undo V) (isf_TreeGame_undo V) (kf_TreeGame_undo V) (by intro _; exact ⟨_, rfl⟩) (by intro _; rfl)
  exact ref_l rfl
  refine ref_one ?_
  refine sref_ret ?_
  exact ref_l rfl
theorem r__law_START (V : Gv) {hd : Bool} : RefF V.gd hd 1 341 f_law_START := by
  apply RefF.mk [] [] rfl rfl rfl (len0 rfl) ⟨rfl, rfl, rfl, rfl, rfl, rfl⟩ (by rfl)
  refine ref_one ?_
  refine sref_ret ?_
  with_reducible refine ref_list ?_ ?_
  decide
  refine .cons ?_ (star_plain rfl) ?_
  exact ref_int
  refine .cons ?_ (star_plain rfl) ?_
  exact ref_int
  refine .cons ?_ (star_plain rfl) ?_
  exact ref_int
  refine .cons ?_ (star_plain rfl) ?_
  exact ref_int
  refine .cons ?_ (star_plain rfl) ?_
  exact ref_int
  refine .cons ?_ (star_plain rfl) ?_
  exact ref_int
  refine .cons ?_ (star_plain rfl) ?_
  exact ref_int
  refine .cons ?_ (star_plain rfl) ?_
  exact ref_int
  refine .cons ?_ (star_plain rfl) ?_
  exact ref_int
  refine .cons ?_ (star_plain rfl) ?_
  exact ref_int
  refine .cons ?_ (star_plain rfl) ?_
  exact ref_int
  exact .nil
theorem r__law_at (V : Gv) {hd : Bool} : RefF V.gd hd 2 348 f_law_at := by
  apply RefF.mk ["script", "i"] [("script", 0), ("i", 1)] rfl rfl rfl (len2 fun _ _ => rfl) ⟨rfl, rfl, rfl, rfl, rfl, rfl⟩ (by rfl)
  refine ref_one ?_
  refine sref_ret ?_
  refine ref_if ?_ ?_ ?_
  refine tref_cmp (op := .lt) ?_ ?_ (by rfl)
  exact ref_l rfl
  refine ref_len ⟨by rfl, free_len V⟩ ?_
  refine .cons ?_ (star_plain rfl) ?_
  exact ref_l rfl
  exact .nil
  refine ref_sub ?_ ?_ (by intro _ _; rfl)
  exact ref_l rfl
  exact ref_l rfl
  refine ref_sub ?_ ?_ (by intro _ _; rfl)
  exact ref_call ((r__law_START V).le (by decide)) .nil (by rfl) (n__law_START V) (by rfl) (isf__law_START V) (kf__law_START V)
  exact ref_l rfl
theorem r__law_digit (V : Gv) {hd : Bool} : RefF V.gd hd 1 355 f_law_digit := by
  apply RefF.mk ["x", "i"] [("x", 0), ("i", 1)] rfl rfl rfl (len2 fun _ _ => rfl) ⟨rfl, rfl, rfl, rfl, rfl, rfl⟩ (by rfl)
  refine ref_one ?_
  refine sref_ret ?_
  refine ref_bin (op := .mod) ?_ ?_
  refine ref_bin (op := .fdiv) ?_ ?_
  exact ref_l rfl
  refine ref_bin (op := .pow) ?_ ?_
  exact ref_int
  exact ref_l rfl
  exact ref_int
theorem r__law_tree (V : Gv) : RefF V.gd false 3 360 f_law_tree := by
  apply RefF.mk ["script"] [("script", 0), ("size", 1), ("children", 2), ("values", 3), ("checks", 4), ("draws", 5), ("noisy", 6), ("node", 7), ("x", 8), ("room", 9), ("count", 10)] rfl rfl rfl (len1 fun _ => rfl) ⟨rfl, rfl, rfl, rfl, rfl, rfl⟩ (by rfl)
  refine ref_seq ?_ ?_
  refine sref_assign ?_ (mem_of_get (n := 1) rfl) (by intro _ _; rfl)
  refine ref_min2 ⟨by rfl, free_min V⟩ ?_
  refine .cons ?_ (star_plain rfl) ?_
  refine ref_max2 ⟨by rfl, free_max V⟩ ?_
  refine .cons ?_ (star_plain rfl) ?_
  exact ref_int
  refine .cons ?_ (star_plain rfl) ?_
  refine ref_bin (op := .sub) ?_ ?_
  refine ref_len ⟨by rfl, free_len V⟩ ?_
  refine .cons ?_ (star_plain rfl) ?_
  exact ref_l rfl
  exact .nil
  exact ref_int
  exact .nil
  refine .cons ?_ (star_plain rfl) ?_
  exact ref_int
  exact .nil
  refine ref_seq ?_ ?_
  with_reducible refine sref_unpack ?_ ?_ ?_ ?_
  with_reducible refine ref_tup ?_ ?_
  decide
  refine .cons ?_ (star_plain rfl) ?_
  exact ref_list (by decide) .nil
  refine .cons ?_ (star_plain rfl) ?_
  exact ref_list (by decide) .nil
  refine .cons ?_ (star_plain rfl) ?_
  exact ref_list (by decide) .nil
  refine .cons ?_ (star_plain rfl) ?_
  exact ref_list (by decide) .nil
  refine .cons ?_ (star_plain rfl) ?_
  exact ref_list (by decide) .nil
  exact .nil
  exact (.cons (mem_of_get (n := 2) rfl) (.cons (mem_of_get (n := 3) rfl) (.cons (mem_of_get (n := 4) rfl) (.cons (mem_of_get (n := 5) rfl) (.cons (mem_of_get (n := 6) rfl) .nil)))))
  exact (by intro _ _; rfl)
  exact (by intro _ _; rfl)
  refine ref_seq ?_ ?_
  refine sref_for ?_ (mem_of_get (n := 7) rfl) ?_ (by intro _ _; rfl)
  refine iref_range1 ⟨by rfl, free_range V⟩ ?_
  refine .cons ?_ (star_plain rfl) ?_
  exact ref_l rfl
  exact .nil
  refine ref_seq ?_ ?_
  refine sref_assign ?_ (mem_of_get (n := 8) rfl) (by intro _ _; rfl)
  refine ref_call ((r__law_at V).le (by decide)) ?_ (by rfl) (n__law_at V) (by rfl) (isf__law_at V) (kf__law_at V)
  refine .cons ?_ (star_plain rfl) ?_
  exact ref_l rfl
  refine .cons ?_ (star_plain rfl) ?_
  refine ref_bin (op := .add) ?_ ?_
  exact ref_int
  exact ref_l rfl
  exact .nil
  refine ref_seq ?_ ?_
  refine sref_assign ?_ (mem_of_get (n := 9) rfl) (by intro _ _; rfl)
  refine ref_bin (op := .sub) ?_ ?_
  refine ref_bin (op := .sub) ?_ ?_
  exact ref_l rfl
  exact ref_int
  exact ref_l rfl
  refine ref_seq ?_ ?_
  refine sref_assign ?_ (mem_of_get (n := 10) rfl) (by intro _ _; rfl)
  refine ref_if ?_ ?_ ?_
  refine tref_cmp (op := .gt) ?_ ?_ (by rfl)
  exact ref_l rfl
  exact ref_int
  refine ref_bin (op := .mod) ?_ ?_
  refine ref_call ((r__law_digit V).le (by decide)) ?_ (by rfl) (n__law_digit V) (by rfl) (isf__law_digit V) (kf__law_digit V)
  refine .cons ?_ (star_plain rfl) ?_
  exact ref_l rfl
  refine .cons ?_ (star_plain rfl) ?_
  exact ref_int
  exact .nil
  exact ref_int
  exact ref_int
  refine ref_seq ?_ ?_
  refine sref_expr ?_ (by intro _; rfl)
  refine ref_append ?_ ?_ (by intro _; rfl) (by intro _; exact ⟨_, rfl⟩)
  exact ref_l rfl
  refine ref_comp (CompOk.of [("j", 12), ("node", 7), ("room", 9), ("x", 8)] (by rfl)) ?_ .none ?_ (by intro _ _; rfl)
  refine iref_range1 ⟨by rfl, free_range V⟩ ?_
  refine .cons ?_ (star_plain rfl) ?_
  exact ref_l rfl
  exact .nil
  refine ref_bin (op := .add) ?_ ?_
  refine ref_bin (op := .add) ?_ ?_
  exact ref_l rfl
  exact ref_int
  refine ref_bin (op := .mod) ?_ ?_
  refine ref_call ((r__law_digit V).le (by decide)) ?_ (by rfl) (n__law_digit V) (by rfl) (isf__law_digit V) (kf__law_digit V)
  refine .cons ?_ (star_plain rfl) ?_
  exact ref_l rfl
  refine .cons ?_ (star_plain rfl) ?_
  refine ref_bin (op := .add) ?_ ?_
  exact ref_int
  exact ref_l rfl
  exact .nil
  exact ref_l rfl
  refine ref_seq ?_ ?_
  refine sref_expr ?_ (by intro _; rfl)
  refine ref_append ?_ ?_ (by intro _; rfl) (by intro _; exact ⟨_, rfl⟩)
  exact ref_l rfl
  refine ref_comp (CompOk.of [("j", 11), ("x", 8)] (by rfl)) ?_ .none ?_ (by intro _ _; rfl)
  refine iref_range1 ⟨by rfl, free_range V⟩ ?_
  refine .cons ?_ (star_plain rfl) ?_
  exact ref_l rfl
  exact .nil
  refine ref_cmp (op := .eq) ?_ ?_ (by rfl)
  refine ref_bin (op := .mod) ?_ ?_
  refine ref_bin (op := .shr) ?_ ?_
  refine ref_call ((r__law_digit V).le (by decide)) ?_ (by rfl) (n__law_digit V) (by rfl) (isf__law_digit V) (kf__law_digit V)
  refine .cons ?_ (star_plain rfl) ?_
  exact ref_l rfl
  refine .cons ?_ (star_plain rfl) ?_
  exact ref_int
  exact .nil
  exact ref_l rfl
  exact ref_int
  exact ref_int
  refine ref_seq ?_ ?_
  refine sref_expr ?_ (by intro _; rfl)
  refine ref_append ?_ ?_ (by intro _; rfl) (by intro _; exact ⟨_, rfl⟩)
  exact ref_l rfl
  refine ref_bin (op := .sub) ?_ ?_
  refine ref_bin (op := .mod) ?_ ?_
  exact ref_l rfl
  exact ref_int
  exact ref_int
  refine ref_seq ?_ ?_
  refine sref_expr ?_ (by intro _; rfl)
  refine ref_append ?_ ?_ (by intro _; rfl) (by intro _; exact ⟨_, rfl⟩)
  exact ref_l rfl
  refine ref_cmp (op := .ge) ?_ ?_ (by rfl)
  refine ref_call ((r__law_digit V).le (by decide)) ?_ (by rfl) (n__law_digit V) (by rfl) (isf__law_digit V) (kf__law_digit V)
  refine .cons ?_ (star_plain rfl) ?_
  exact ref_l rfl
  refine .cons ?_ (star_plain rfl) ?_
  exact ref_int
  exact .nil
  exact ref_int
  refine ref_one ?_
  refine sref_expr ?_ (by intro _; rfl)
  refine ref_append ?_ ?_ (by intro _; rfl) (by intro _; exact ⟨_, rfl⟩)
  exact ref_l rfl
  refine ref_cmp (op := .inn) ?_ ?_ (by rfl)
  refine ref_call ((r__law_digit V).le (by decide)) ?_ (by rfl) (n__law_digit V) (by rfl) (isf__law_digit V) (kf__law_digit V)
  refine .cons ?_ (star_plain rfl) ?_
  exact ref_l rfl
  refine .cons ?_ (star_plain rfl) ?_
  exact ref_int
  exact .nil
  with_reducible refine ref_tup ?_ ?_
  decide
  refine .cons ?_ (star_plain rfl) ?_
  exact ref_int
  refine .cons ?_ (star_plain rfl) ?_
  exact ref_int
  exact .nil
  refine ref_one ?_
  refine sref_ret ?_
  with_reducible refine ref_tup ?_ ?_
  decide
  refine .cons ?_ (star_plain rfl) ?_
  exact ref_l rfl
  refine .cons ?_ (star_plain rfl) ?_
  exact ref_l rfl
  refine .cons ?_ (star_plain rfl) ?_
  exact ref_l rfl
  refine .cons ?_ (star_plain rfl) ?_
  exact ref_l rfl
  refine .cons ?_ (star_plain rfl) ?_
  exact ref_l rfl
  exact .nil
theorem r__law_up (V : Gv) {hd : Bool} : RefF V.gd hd 1 367 f_law_up := by
  apply RefF.mk ["score"] [("score", 0)] rfl rfl rfl (len1 fun _ => rfl) ⟨rfl, rfl, rfl, rfl, rfl, rfl⟩ (by rfl)
  refine ref_seq ?_ ?_
  refine sref_if ?_ ?_ ?_
  refine tref_cmp (op := .gt) ?_ ?_ (by rfl)
  exact ref_l rfl
  exact ref_int
  refine ref_one ?_
  refine sref_ret ?_
  refine ref_bin (op := .sub) ?_ ?_
  exact ref_int
  exact ref_l rfl
  exact ref_nil
  refine ref_seq ?_ ?_
  refine sref_if ?_ ?_ ?_
  refine tref_cmp (op := .lt) ?_ ?_ (by rfl)
  exact ref_l rfl
  refine ref_neg ?_
  exact ref_int
  refine ref_one ?_
  refine sref_ret ?_
  refine ref_bin (op := .sub) ?_ ?_
  refine ref_neg ?_
  exact ref_int
  exact ref_l rfl
  exact ref_nil
  refine ref_one ?_
  refine sref_ret ?_
  refine ref_neg ?_
  exact ref_l rfl
theorem r__law_node (V : Gv) : RefF V.gd false 2 372 f_law_node := by
  apply RefF.mk ["tree", "node", "lower", "is_full"] [("tree", 0), ("node", 1), ("lower", 2), ("is_full", 3), ("children", 4), ("values", 5), ("checks", 6), ("draws", 7), ("noisy", 8), ("ways", 9)] rfl rfl rfl (len4 fun _ _ _ _ => rfl) ⟨rfl, rfl, rfl, rfl, rfl, rfl⟩ (by rfl)
  refine ref_seq ?_ ?_
  refine sref_unpack ?_ (.cons (mem_of_get (n := 4) rfl) (.cons (mem_of_get (n := 5) rfl) (.cons (mem_of_get (n := 6) rfl) (.cons (mem_of_get (n := 7) rfl) (.cons (mem_of_get (n := 8) rfl) .nil))))) (by intro _ _; rfl) (by intro _ _; rfl)
  exact ref_l rfl
  refine ref_seq ?_ ?_
  refine sref_if ?_ ?_ ?_
  refine tref_and ?_ ?_
  refine tref_cmp (op := .gt) ?_ ?_ (by rfl)
  exact ref_l rfl
  exact ref_int
  refine tref_and1 ?_
  refine tref_val ?_ (by intro _ _; rfl)
  refine ref_sub ?_ ?_ (by intro _ _; rfl)
  exact ref_l rfl
  exact ref_l rfl
  refine ref_one ?_
  refine sref_ret ?_
  exact ref_int
  exact ref_nil
  refine ref_seq ?_ ?_
  refine sref_assign ?_ (mem_of_get (n := 9) rfl) (by intro _ _; rfl)
  refine ref_sub ?_ ?_ (by intro _ _; rfl)
  exact ref_l rfl
  exact ref_l rfl
  refine ref_seq ?_ ?_
  refine sref_if ?_ ?_ ?_
  refine tref_and ?_ ?_
  refine tref_or ?_ ?_
  refine tref_val ?_ (by intro _ _; rfl)
  exact ref_l rfl
  refine tref_or1 ?_
  refine tref_val ?_ (by intro _ _; rfl)
  refine ref_sub ?_ ?_ (by intro _ _; rfl)
  exact ref_l rfl
  exact ref_l rfl
  refine tref_and1 ?_
  refine tref_not ?_
  refine tref_val ?_ (by intro _ _; rfl)
  exact ref_l rfl
  refine ref_one ?_
  refine sref_ret ?_
  refine ref_if ?_ ?_ ?_
  refine tref_val ?_ (by intro _ _; rfl)
  refine ref_sub ?_ ?_ (by intro _ _; rfl)
  exact ref_l rfl
  exact ref_l rfl
  refine ref_neg ?_
  exact ref_int
  exact ref_int
  exact ref_nil
  refine ref_seq ?_ ?_
  refine sref_if ?_ ?_ ?_
  refine tref_cmp (op := .isn) ?_ ?_ (by rfl)
  exact ref_l rfl
  exact ref_none
  refine ref_one ?_
  refine sref_ret ?_
  refine ref_sub ?_ ?_ (by intro _ _; rfl)
  exact ref_l rfl
  exact ref_l rfl
  exact ref_nil
  refine ref_seq ?_ ?_
  refine sref_if ?_ ?_ ?_
  refine tref_or ?_ ?_
  refine tref_val ?_ (by intro _ _; rfl)
  exact ref_l rfl
  refine tref_or1 ?_
  refine tref_val ?_ (by intro _ _; rfl)
  refine ref_sub ?_ ?_ (by intro _ _; rfl)
  exact ref_l rfl
  exact ref_l rfl
  refine ref_one ?_
  refine sref_ret ?_
  refine ref_max1 ⟨by rfl, free_max V⟩ ?_
  refine .cons ?_ (star_plain rfl) ?_
  refine ref_comp (CompOk.of [("kid", 11), ("lower", 2)] (by rfl)) ?_ .none ?_ (by intro _ _; rfl)
  refine iref_seq ?_
  exact ref_l rfl
  refine ref_call ((r__law_up V).le (by decide)) ?_ (by rfl) (n__law_up V) (by rfl) (isf__law_up V) (kf__law_up V)
  refine .cons ?_ (star_plain rfl) ?_
  refine ref_sub ?_ ?_ (by intro _ _; rfl)
  exact ref_l rfl
  exact ref_l rfl
  exact .nil
  exact .nil
  exact ref_nil
  refine ref_one ?_
  refine sref_ret ?_
  refine ref_max1 ⟨by rfl, free_max V⟩ ?_
  refine .cons ?_ (star_plain rfl) ?_
  refine ref_bin (op := .add) ?_ ?_
  with_reducible refine ref_list ?_ ?_
  decide
  refine .cons ?_ (star_plain rfl) ?_
  refine ref_sub ?_ ?_ (by intro _ _; rfl)
  exact ref_l rfl
  exact ref_l rfl
  exact .nil
  refine ref_comp (CompOk.of [("j", 10), ("lower", 2), ("ways", 9), ("noisy", 8), ("node", 1)] (by rfl)) ?_ ?_ ?_ (by intro _ _; rfl)
  refine iref_range1 ⟨by rfl, free_range V⟩ ?_
  refine .cons ?_ (star_plain rfl) ?_
  refine ref_len ⟨by rfl, free_len V⟩ ?_
  refine .cons ?_ (star_plain rfl) ?_
  exact ref_l rfl
  exact .nil
  exact .nil
  refine .one ?_
  refine tref_val ?_ (by intro _ _; rfl)
  refine ref_sub ?_ ?_ (by intro _ _; rfl)
  refine ref_sub ?_ ?_ (by intro _ _; rfl)
  exact ref_l rfl
  exact ref_l rfl
  exact ref_l rfl
  refine ref_call ((r__law_up V).le (by decide)) ?_ (by rfl) (n__law_up V) (by rfl) (isf__law_up V) (kf__law_up V)
  refine .cons ?_ (star_plain rfl) ?_
  refine ref_sub ?_ ?_ (by intro _ _; rfl)
  exact ref_l rfl
  refine ref_sub ?_ ?_ (by intro _ _; rfl)
  exact ref_l rfl
  exact ref_l rfl
  exact .nil
  exact .nil
theorem r__law_levels (V : Gv) : RefF V.gd false 3 377 f_law_levels := by
  apply RefF.mk ["tree", "depth", "qdepth"] [("tree", 0), ("depth", 1), ("qdepth", 2), ("levels", 3), ("lower", 4), ("level", 5)] rfl rfl rfl (len3 fun _ _ _ => rfl) ⟨rfl, rfl, rfl, rfl, rfl, rfl⟩ (by rfl)
  refine ref_seq ?_ ?_
  with_reducible refine sref_assign ?_ ?_ ?_
  exact ref_list (by decide) .nil
  exact (mem_of_get (n := 3) rfl)
  exact (by intro _ _; rfl)
  refine ref_seq ?_ ?_
  with_reducible refine sref_assign ?_ ?_ ?_
  exact ref_none
  exact (mem_of_get (n := 4) rfl)
  exact (by intro _ _; rfl)
  refine ref_seq ?_ ?_
  refine sref_for ?_ (mem_of_get (n := 5) rfl) ?_ (by intro _ _; rfl)
  refine iref_range1 ⟨by rfl, free_range V⟩ ?_
  refine .cons ?_ (star_plain rfl) ?_
  refine ref_bin (op := .add) ?_ ?_
  refine ref_bin (op := .add) ?_ ?_
  exact ref_l rfl
  exact ref_l rfl
  exact ref_int
  exact .nil
  refine ref_seq ?_ ?_
  refine sref_assign ?_ (mem_of_get (n := 4) rfl) (swaps_cell (by rfl))
  refine ref_comp (CompOk.of [("node", 6), ("tree", 0), ("lower", 4), ("level", 5), ("qdepth", 2)] (by rfl)) ?_ .none ?_ (by intro _ _; rfl)
  refine iref_range1 ⟨by rfl, free_range V⟩ ?_
  refine .cons ?_ (star_plain rfl) ?_
  refine ref_len ⟨by rfl, free_len V⟩ ?_
  refine .cons ?_ (star_plain rfl) ?_
  refine ref_sub ?_ ?_ (by intro _ _; rfl)
  exact ref_l rfl
  exact ref_int
  exact .nil
  exact .nil
  refine ref_call ((r__law_node V).le (by decide)) ?_ (by rfl) (n__law_node V) (by rfl) (isf__law_node V) (kf__law_node V)
  refine .cons ?_ (star_plain rfl) ?_
  exact ref_l rfl
  refine .cons ?_ (star_plain rfl) ?_
  exact ref_l rfl
  refine .cons ?_ (star_plain rfl) ?_
  exact ref_l rfl
  refine .cons ?_ (star_plain rfl) ?_
  refine ref_cmp (op := .gt) ?_ ?_ (by rfl)
  exact ref_l rfl
  exact ref_l rfl
  exact .nil
  refine ref_one ?_
  refine sref_expr ?_ (by intro _; rfl)
  refine ref_append ?_ ?_ (by intro _; rfl) (by intro _; exact ⟨_, rfl⟩)
  exact ref_l rfl
  exact ref_l rfl
  refine ref_one ?_
  refine sref_ret ?_
  exact ref_l rfl
theorem r__law_count (V : Gv) : RefF V.gd false 1 384 f_law_count := by
  apply RefF.mk ["tree", "depth", "qdepth"] [("tree", 0), ("depth", 1), ("qdepth", 2), ("children", 3), ("values", 4), ("checks", 5), ("draws", 6), ("noisy", 7), ("here", 8), ("total", 9), ("ply", 10), ("after", 11), ("node", 12), ("j", 13)] rfl rfl rfl (len3 fun _ _ _ => rfl) ⟨rfl, rfl, rfl, rfl, rfl, rfl⟩ (by rfl)
  refine ref_seq ?_ ?_
  refine sref_unpack ?_ (.cons (mem_of_get (n := 3) rfl) (.cons (mem_of_get (n := 4) rfl) (.cons (mem_of_get (n := 5) rfl) (.cons (mem_of_get (n := 6) rfl) (.cons (mem_of_get (n := 7) rfl) .nil))))) (by intro _ _; rfl) (by intro _ _; rfl)
  exact ref_l rfl
  refine ref_seq ?_ ?_
  refine sref_assign ?_ (mem_of_get (n := 8) rfl) (by intro _ _; rfl)
  refine ref_bin (op := .mul) ?_ ?_
  with_reducible refine ref_list ?_ ?_
  decide
  refine .cons ?_ (star_plain rfl) ?_
  exact ref_int
  exact .nil
  refine ref_len ⟨by rfl, free_len V⟩ ?_
  refine .cons ?_ (star_plain rfl) ?_
  exact ref_l rfl
  exact .nil
  refine ref_seq ?_ ?_
  refine sref_setItem ?_ ?_ ?_ (by intro _ _; rfl)
  exact ref_l rfl
  exact ref_int
  exact ref_int
  refine ref_seq ?_ ?_
  with_reducible refine sref_assign ?_ ?_ ?_
  exact ref_int
  exact (mem_of_get (n := 9) rfl)
  exact (by intro _ _; rfl)
  refine ref_seq ?_ ?_
  refine sref_for ?_ (mem_of_get (n := 10) rfl) ?_ (by intro _ _; rfl)
  refine iref_range1 ⟨by rfl, free_range V⟩ ?_
  refine .cons ?_ (star_plain rfl) ?_
  refine ref_bin (op := .add) ?_ ?_
  refine ref_bin (op := .add) ?_ ?_
  exact ref_l rfl
  exact ref_l rfl
  exact ref_int
  exact .nil
  refine ref_seq ?_ ?_
  refine sref_aug (op := .add) ?_ (mem_of_get (n := 9) rfl) (cld_total) (.inl rfl)
  refine ref_sum ⟨by rfl, free_sum V⟩ ?_
  refine .cons ?_ (star_plain rfl) ?_
  exact ref_l rfl
  exact .nil
  refine ref_seq ?_ ?_
  refine sref_assign ?_ (mem_of_get (n := 11) rfl) (by intro _ _; rfl)
  refine ref_bin (op := .mul) ?_ ?_
  with_reducible refine ref_list ?_ ?_
  decide
  refine .cons ?_ (star_plain rfl) ?_
  exact ref_int
  exact .nil
  refine ref_len ⟨by rfl, free_len V⟩ ?_
  refine .cons ?_ (star_plain rfl) ?_
  exact ref_l rfl
  exact .nil
  refine ref_seq ?_ ?_
  refine sref_for ?_ (mem_of_get (n := 12) rfl) ?_ (by intro _ _; rfl)
  refine iref_range1 ⟨by rfl, free_range V⟩ ?_
  refine .cons ?_ (star_plain rfl) ?_
  refine ref_len ⟨by rfl, free_len V⟩ ?_
  refine .cons ?_ (star_plain rfl) ?_
  exact ref_l rfl
  exact .nil
  exact .nil
  refine ref_seq ?_ ?_
  refine sref_if ?_ ?_ ?_
  refine tref_and ?_ ?_
  refine tref_cmp (op := .gt) ?_ ?_ (by rfl)
  exact ref_l rfl
  exact ref_int
  refine tref_and1 ?_
  refine tref_val ?_ (by intro _ _; rfl)
  refine ref_sub ?_ ?_ (by intro _ _; rfl)
  exact ref_l rfl
  exact ref_l rfl
  refine ref_one ?_
  exact sref_cont
  exact ref_nil
  refine ref_one ?_
  refine sref_for ?_ (mem_of_get (n := 13) rfl) ?_ (by intro _ _; rfl)
  refine iref_range1 ⟨by rfl, free_range V⟩ ?_
  refine .cons ?_ (star_plain rfl) ?_
  refine ref_len ⟨by rfl, free_len V⟩ ?_
  refine .cons ?_ (star_plain rfl) ?_
  refine ref_sub ?_ ?_ (by intro _ _; rfl)
  exact ref_l rfl
  exact ref_l rfl
  exact .nil
  exact .nil
  refine ref_one ?_
  refine sref_if ?_ ?_ ?_
  refine tref_or ?_ ?_
  refine tref_cmp (op := .lt) ?_ ?_ (by rfl)
  exact ref_l rfl
  exact ref_l rfl
  refine tref_or ?_ ?_
  refine tref_val ?_ (by intro _ _; rfl)
  refine ref_sub ?_ ?_ (by intro _ _; rfl)
  exact ref_l rfl
  exact ref_l rfl
  refine tref_or1 ?_
  refine tref_val ?_ (by intro _ _; rfl)
  refine ref_sub ?_ ?_ (by intro _ _; rfl)
  refine ref_sub ?_ ?_ (by intro _ _; rfl)
  exact ref_l rfl
  exact ref_l rfl
  exact ref_l rfl
  refine ref_one ?_
  refine sref_augsub ?_ ?_ ?_ (by intro _ _ _; rfl)
  exact ref_l rfl
  refine ref_sub ?_ ?_ (by intro _ _; rfl)
  refine ref_sub ?_ ?_ (by intro _ _; rfl)
  exact ref_l rfl
  exact ref_l rfl
  exact ref_l rfl
  refine ref_sub ?_ ?_ (by intro _ _; rfl)
  exact ref_l rfl
  exact ref_l rfl
  exact ref_nil
  refine ref_one ?_
  refine sref_assign ?_ (mem_of_get (n := 8) rfl) (by intro _ _; rfl)
  exact ref_l rfl
  refine ref_one ?_
  refine sref_ret ?_
  exact ref_l rfl
theorem r__law_walk (V : Gv) {hd : Bool} : RefF V.gd hd 2 391 f_law_walk := by
  apply RefF.mk ["tree", "x", "count"] [("tree", 0), ("x", 1), ("count", 2), ("node", 3), ("moves", 4), ("k", 5)] rfl rfl rfl (len3 fun _ _ _ => rfl) ⟨rfl, rfl, rfl, rfl, rfl, rfl⟩ (by rfl)
  refine ref_seq ?_ ?_
  with_reducible refine sref_assign ?_ ?_ ?_
  exact ref_int
  exact (mem_of_get (n := 3) rfl)
  exact (by intro _ _; rfl)
  refine ref_seq ?_ ?_
  with_reducible refine sref_assign ?_ ?_ ?_
  exact ref_list (by decide) .nil
  exact (mem_of_get (n := 4) rfl)
  exact (by intro _ _; rfl)
  refine ref_seq ?_ ?_
  refine sref_while ?_ ?_
  refine tref_and ?_ ?_
  refine tref_cmp (op := .lt) ?_ ?_ (by rfl)
  refine ref_len ⟨by rfl, free_len V⟩ ?_
  refine .cons ?_ (star_plain rfl) ?_
  exact ref_l rfl
  exact .nil
  exact ref_l rfl
  refine tref_and1 ?_
  refine tref_val ?_ (by intro _ _; rfl)
  refine ref_sub ?_ ?_ (by intro _ _; rfl)
  refine ref_sub ?_ ?_ (by intro _ _; rfl)
  exact ref_l rfl
  exact ref_int
  exact ref_l rfl
  refine ref_seq ?_ ?_
  refine sref_assign ?_ (mem_of_get (n := 5) rfl) (by intro _ _; rfl)
  refine ref_bin (op := .mod) ?_ ?_
  refine ref_call ((r__law_digit V).le (by decide)) ?_ (by rfl) (n__law_digit V) (by rfl) (isf__law_digit V) (kf__law_digit V)
  refine .cons ?_ (star_plain rfl) ?_
  exact ref_l rfl
  refine .cons ?_ (star_plain rfl) ?_
  refine ref_len ⟨by rfl, free_len V⟩ ?_
  refine .cons ?_ (star_plain rfl) ?_
  exact ref_l rfl
  exact .nil
  exact .nil
  refine ref_len ⟨by rfl, free_len V⟩ ?_
  refine .cons ?_ (star_plain rfl) ?_
  refine ref_sub ?_ ?_ (by intro _ _; rfl)
  refine ref_sub ?_ ?_ (by intro _ _; rfl)
  exact ref_l rfl
  exact ref_int
  exact ref_l rfl
  exact .nil
  refine ref_seq ?_ ?_
  refine sref_expr ?_ (by intro _; rfl)
  refine ref_append ?_ ?_ (by intro _; rfl) (by intro _; exact ⟨_, rfl⟩)
  exact ref_l rfl
  refine ref_bin (op := .add) ?_ ?_
  exact ref_l rfl
  exact ref_int
  refine ref_one ?_
  refine sref_assign ?_ (mem_of_get (n := 3) rfl) (by intro _ _; rfl)
  refine ref_sub ?_ ?_ (by intro _ _; rfl)
  refine ref_sub ?_ ?_ (by intro _ _; rfl)
  refine ref_sub ?_ ?_ (by intro _ _; rfl)
  exact ref_l rfl
  exact ref_int
  exact ref_l rfl
  exact ref_l rfl
  refine ref_one ?_
  refine sref_ret ?_
  with_reducible refine ref_tup ?_ ?_
  decide
  refine .cons ?_ (star_plain rfl) ?_
  exact ref_l rfl
  refine .cons ?_ (star_plain rfl) ?_
  exact ref_l rfl
  exact .nil
theorem r__law_refuses (V : Gv) : RefF V.gd false 4 398 f_law_refuses := by
  apply RefF.mk ["game", "move"] [("game", 0), ("move", 1), ("key", 2)] rfl rfl rfl (len2 fun _ _ => rfl) ⟨rfl, rfl, rfl, rfl, rfl, rfl⟩ (by rfl)
  refine ref_seq ?_ ?_
  refine sref_assign ?_ (mem_of_get (n := 2) rfl) (by intro _ _; rfl)
  refine ref_meth ((r_TreeGame_key V).le (by decide)) ?_ .nil (c0 V) (nf_key) (m_key V) (isf_TreeGame_key V) (kf_TreeGame_key V) (by intro _; exact ⟨_, rfl⟩)
  exact ref_l rfl
  refine ref_seq ?_ ?_
  refine sref_try (ex_BadMove V) (by rfl) (by rfl) ?_ ?_
  refine ref_one ?_
  refine sref_if ?_ ?_ ?_
  refine tref_cmp (op := .isn) ?_ ?_ (by rfl)
  exact ref_l rfl
  exact ref_none
  refine ref_one ?_
  refine sref_meth ((r_TreeGame_undo V).le (by decide)) ?_ .nil (c0 V) (nf_undo) (m_undo V) (isf_TreeGame_undo V) (kf_TreeGame_undo V) (by intro _; exact ⟨_, rfl⟩) (by intro _; rfl)
  exact ref_l rfl
  refine ref_one ?_
  refine sref_meth ((r_TreeGame_make V).le (by decide)) ?_ ?_ (c0 V) (nf_make) (m_make V) (isf_TreeGame_make V) (kf_TreeGame_make V) (by intro _; exact ⟨_, rfl⟩) (by intro _; rfl)
  exact ref_l rfl
  refine .cons ?_ (star_plain rfl) ?_
  exact ref_l rfl
  exact .nil
  refine ref_one ?_
  refine sref_ret ?_
  refine ref_cmp (op := .eq) ?_ ?_ (by rfl)
  refine ref_meth ((r_TreeGame_key V).le (by decide)) ?_ .nil (c0 V) (nf_key) (m_key V) (isf_TreeGame_key V) (kf_TreeGame_key V) (by intro _; exact ⟨_, rfl⟩)
  exact ref_l rfl
  exact ref_l rfl
  refine ref_one ?_
  refine sref_ret ?_
  exact ref_bool
theorem r__law_tells (V : Gv) : RefF V.gd false 5 403 f_law_tells := by
  apply RefF.mk ["game", "tree", "gains", "node", "made"] [("game", 0), ("tree", 1), ("gains", 2), ("node", 3), ("made", 4), ("children", 5), ("values", 6), ("checks", 7), ("draws", 8), ("noisy", 9), ("count", 10), ("marks", 11), ("told", 12)] rfl rfl rfl (len5 fun _ _ _ _ _ => rfl) ⟨rfl, rfl, rfl, rfl, rfl, rfl⟩ (by rfl)
  refine ref_seq ?_ ?_
  refine sref_unpack ?_ (.cons (mem_of_get (n := 5) rfl) (.cons (mem_of_get (n := 6) rfl) (.cons (mem_of_get (n := 7) rfl) (.cons (mem_of_get (n := 8) rfl) (.cons (mem_of_get (n := 9) rfl) .nil))))) (by intro _ _; rfl) (by intro _ _; rfl)
  exact ref_l rfl
  refine ref_seq ?_ ?_
  refine sref_assign ?_ (mem_of_get (n := 10) rfl) (by intro _ _; rfl)
  refine ref_len ⟨by rfl, free_len V⟩ ?_
  refine .cons ?_ (star_plain rfl) ?_
  refine ref_sub ?_ ?_ (by intro _ _; rfl)
  exact ref_l rfl
  exact ref_l rfl
  exact .nil
  refine ref_seq ?_ ?_
  refine sref_if ?_ ?_ ?_
  refine tref_or ?_ ?_
  refine tref_cmp (op := .ne) ?_ ?_ (by rfl)
  refine ref_meth ((r_TreeGame_moves V).le (by decide)) ?_ .nil (c0 V) (nf_moves) (m_moves V) (isf_TreeGame_moves V) (kf_TreeGame_moves V) (by intro _; exact ⟨_, rfl⟩)
  exact ref_l rfl
  refine ref_listRange ⟨by rfl, free_list V⟩ ⟨by rfl, free_range V⟩ ?_
  refine .cons ?_ (star_plain rfl) ?_
  exact ref_int
  refine .cons ?_ (star_plain rfl) ?_
  refine ref_bin (op := .add) ?_ ?_
  exact ref_l rfl
  exact ref_int
  exact .nil
  refine tref_or1 ?_
  refine tref_not ?_
  refine tref_val ?_ (by intro _ _; rfl)
  refine ref_call ((r__law_refuses V).le (by decide)) ?_ (by rfl) (n__law_refuses V) (by rfl) (isf__law_refuses V) (kf__law_refuses V)
  refine .cons ?_ (star_plain rfl) ?_
  exact ref_l rfl
  refine .cons ?_ (star_plain rfl) ?_
  exact ref_int
  exact .nil
  refine ref_one ?_
  refine sref_ret ?_
  exact ref_bool
  exact ref_nil
  refine ref_seq ?_ ?_
  refine sref_if ?_ ?_ ?_
  refine tref_or ?_ ?_
  refine tref_cmp (op := .ne) ?_ ?_ (by rfl)
  refine ref_meth ((r_TreeGame_noisy V).le (by decide)) ?_ .nil (c0 V) (nf_noisy) (m_noisy V) (isf_TreeGame_noisy V) (kf_TreeGame_noisy V) (by intro _; exact ⟨_, rfl⟩)
  exact ref_l rfl
  refine ref_comp (CompOk.of [("j", 15), ("noisy", 9), ("node", 3)] (by rfl)) ?_ ?_ ?_ (by intro _ _; rfl)
  refine iref_range1 ⟨by rfl, free_range V⟩ ?_
  refine .cons ?_ (star_plain rfl) ?_
  exact ref_l rfl
  exact .nil
  refine .one ?_
  refine tref_val ?_ (by intro _ _; rfl)
  refine ref_sub ?_ ?_ (by intro _ _; rfl)
  refine ref_sub ?_ ?_ (by intro _ _; rfl)
  exact ref_l rfl
  exact ref_l rfl
  exact ref_l rfl
  refine ref_bin (op := .add) ?_ ?_
  exact ref_l rfl
  exact ref_int
  refine tref_or1 ?_
  refine tref_not ?_
  refine tref_val ?_ (by intro _ _; rfl)
  refine ref_call ((r__law_refuses V).le (by decide)) ?_ (by rfl) (n__law_refuses V) (by rfl) (isf__law_refuses V) (kf__law_refuses V)
  refine .cons ?_ (star_plain rfl) ?_
  exact ref_l rfl
  refine .cons ?_ (star_plain rfl) ?_
  refine ref_bin (op := .add) ?_ ?_
  exact ref_l rfl
  exact ref_int
  exact .nil
  refine ref_one ?_
  refine sref_ret ?_
  exact ref_bool
  exact ref_nil
  refine ref_seq ?_ ?_
  refine sref_assign_comp (CompOk.of [("j", 14), ("game", 0)] (by rfl)) ?_ .none ?_ (by intro _ _; rfl) (mem_of_get (n := 11) rfl) (swaps_local (by rfl) (by rfl) (by rfl) (by rfl))
  refine iref_range1 ⟨by rfl, free_range V⟩ ?_
  refine .cons ?_ (star_plain rfl) ?_
  exact ref_l rfl
  exact .nil
  with_reducible refine ref_tup ?_ ?_
  decide
  refine .cons ?_ (star_plain rfl) ?_
  refine ref_meth ((r_TreeGame_is_noisy V).le (by decide)) ?_ ?_ (c0 V) (nf_is_noisy) (m_is_noisy V) (isf_TreeGame_is_noisy V) (kf_TreeGame_is_noisy V) (by intro _; exact ⟨_, rfl⟩)
  exact ref_l rfl
  refine .cons ?_ (star_plain rfl) ?_
  refine ref_bin (op := .add) ?_ ?_
  exact ref_l rfl
  exact ref_int
  exact .nil
  refine .cons ?_ (star_plain rfl) ?_
  refine ref_meth ((r_TreeGame_gain V).le (by decide)) ?_ ?_ (c0 V) (nf_gain) (m_gain V) (isf_TreeGame_gain V) (kf_TreeGame_gain V) (by intro _; exact ⟨_, rfl⟩)
  exact ref_l rfl
  refine .cons ?_ (star_plain rfl) ?_
  refine ref_bin (op := .add) ?_ ?_
  exact ref_l rfl
  exact ref_int
  exact .nil
  exact .nil
  refine ref_seq ?_ ?_
  refine sref_if ?_ ?_ ?_
  refine tref_cmp (op := .ne) ?_ ?_ (by rfl)
  exact ref_l rfl
  refine ref_comp (CompOk.of [("j", 13), ("noisy", 9), ("node", 3), ("gains", 2)] (by rfl)) ?_ .none ?_ (by intro _ _; rfl)
  refine iref_range1 ⟨by rfl, free_range V⟩ ?_
  refine .cons ?_ (star_plain rfl) ?_
  exact ref_l rfl
  exact .nil
  with_reducible refine ref_tup ?_ ?_
  decide
  refine .cons ?_ (star_plain rfl) ?_
  refine ref_sub ?_ ?_ (by intro _ _; rfl)
  refine ref_sub ?_ ?_ (by intro _ _; rfl)
  exact ref_l rfl
  exact ref_l rfl
  exact ref_l rfl
  refine .cons ?_ (star_plain rfl) ?_
  refine ref_sub ?_ ?_ (by intro _ _; rfl)
  refine ref_sub ?_ ?_ (by intro _ _; rfl)
  exact ref_l rfl
  exact ref_l rfl
  exact ref_l rfl
  exact .nil
  refine ref_one ?_
  refine sref_ret ?_
  exact ref_bool
  exact ref_nil
  refine ref_seq ?_ ?_
  refine sref_assign ?_ (mem_of_get (n := 12) rfl) (by intro _ _; rfl)
  with_reducible refine ref_tup ?_ ?_
  decide
  refine .cons ?_ (star_plain rfl) ?_
  refine ref_meth ((r_TreeGame_value V).le (by decide)) ?_ .nil (c0 V) (nf_value) (m_value V) (isf_TreeGame_value V) (kf_TreeGame_value V) (by intro _; exact ⟨_, rfl⟩)
  exact ref_l rfl
  refine .cons ?_ (star_plain rfl) ?_
  refine ref_meth ((r_TreeGame_key V).le (by decide)) ?_ .nil (c0 V) (nf_key) (m_key V) (isf_TreeGame_key V) (kf_TreeGame_key V) (by intro _; exact ⟨_, rfl⟩)
  exact ref_l rfl
  refine .cons ?_ (star_plain rfl) ?_
  refine ref_meth ((r_TreeGame_in_check V).le (by decide)) ?_ .nil (c0 V) (nf_in_check) (m_in_check V) (isf_TreeGame_in_check V) (kf_TreeGame_in_check V) (by intro _; exact ⟨_, rfl⟩)
  exact ref_l rfl
  refine .cons ?_ (star_plain rfl) ?_
  refine ref_meth ((r_TreeGame_is_draw V).le (by decide)) ?_ .nil (c0 V) (nf_is_draw) (m_is_draw V) (isf_TreeGame_is_draw V) (kf_TreeGame_is_draw V) (by intro _; exact ⟨_, rfl⟩)
  exact ref_l rfl
  refine .cons ?_ (star_plain rfl) ?_
  refine ref_meth ((r_TreeGame_side V).le (by decide)) ?_ .nil (c0 V) (nf_side) (m_side V) (isf_TreeGame_side V) (kf_TreeGame_side V) (by intro _; exact ⟨_, rfl⟩)
  exact ref_l rfl
  exact .nil
  refine ref_one ?_
  refine sref_ret ?_
  refine ref_cmp (op := .eq) ?_ ?_ (by rfl)
  exact ref_l rfl
  with_reducible refine ref_tup ?_ ?_
  decide
  refine .cons ?_ (star_plain rfl) ?_
  refine ref_sub ?_ ?_ (by intro _ _; rfl)
  exact ref_l rfl
  exact ref_l rfl
  refine .cons ?_ (star_plain rfl) ?_
  refine ref_bin (op := .add) ?_ ?_
  exact ref_l rfl
  exact ref_int
  refine .cons ?_ (star_plain rfl) ?_
  refine ref_sub ?_ ?_ (by intro _ _; rfl)
  exact ref_l rfl
  exact ref_l rfl
  refine .cons ?_ (star_plain rfl) ?_
  refine ref_sub ?_ ?_ (by intro _ _; rfl)
  exact ref_l rfl
  exact ref_l rfl
  refine .cons ?_ (star_plain rfl) ?_
  refine ref_bin (op := .mod) ?_ ?_
  exact ref_l rfl
  exact ref_int
  exact .nil
theorem r__law_played (V : Gv) : RefF V.gd false 6 410 f_law_played := by
  apply RefF.mk ["game", "tree", "gains", "moves"] [("game", 0), ("tree", 1), ("gains", 2), ("moves", 3), ("node", 4), ("made", 5), ("move", 6)] rfl rfl rfl (len4 fun _ _ _ _ => rfl) ⟨rfl, rfl, rfl, rfl, rfl, rfl⟩ (by rfl)
  refine ref_seq ?_ ?_
  with_reducible refine sref_assign ?_ ?_ ?_
  exact ref_int
  exact (mem_of_get (n := 4) rfl)
  exact (by intro _ _; rfl)
  refine ref_seq ?_ ?_
  refine sref_for ?_ (mem_of_get (n := 5) rfl) ?_ (by intro _ _; rfl)
  refine iref_range1 ⟨by rfl, free_range V⟩ ?_
  refine .cons ?_ (star_plain rfl) ?_
  refine ref_bin (op := .add) ?_ ?_
  refine ref_len ⟨by rfl, free_len V⟩ ?_
  refine .cons ?_ (star_plain rfl) ?_
  exact ref_l rfl
  exact .nil
  exact ref_int
  exact .nil
  refine ref_seq ?_ ?_
  refine sref_if ?_ ?_ ?_
  refine tref_not ?_
  refine tref_val ?_ (by intro _ _; rfl)
  refine ref_call ((r__law_tells V).le (by decide)) ?_ (by rfl) (n__law_tells V) (by rfl) (isf__law_tells V) (kf__law_tells V)
  refine .cons ?_ (star_plain rfl) ?_
  exact ref_l rfl
  refine .cons ?_ (star_plain rfl) ?_
  exact ref_l rfl
  refine .cons ?_ (star_plain rfl) ?_
  exact ref_l rfl
  refine .cons ?_ (star_plain rfl) ?_
  exact ref_l rfl
  refine .cons ?_ (star_plain rfl) ?_
  exact ref_l rfl
  exact .nil
  refine ref_one ?_
  refine sref_ret ?_
  exact ref_bool
  exact ref_nil
  refine ref_one ?_
  refine sref_if ?_ ?_ ?_
  refine tref_cmp (op := .lt) ?_ ?_ (by rfl)
  exact ref_l rfl
  refine ref_len ⟨by rfl, free_len V⟩ ?_
  refine .cons ?_ (star_plain rfl) ?_
  exact ref_l rfl
  exact .nil
  refine ref_seq ?_ ?_
  refine sref_meth ((r_TreeGame_make V).le (by decide)) ?_ ?_ (c0 V) (nf_make) (m_make V) (isf_TreeGame_make V) (kf_TreeGame_make V) (by intro _; exact ⟨_, rfl⟩) (by intro _; rfl)
  exact ref_l rfl
  refine .cons ?_ (star_plain rfl) ?_
  refine ref_sub ?_ ?_ (by intro _ _; rfl)
  exact ref_l rfl
  exact ref_l rfl
  exact .nil
  refine ref_one ?_
  refine sref_assign ?_ (mem_of_get (n := 4) rfl) (by intro _ _; rfl)
  refine ref_sub ?_ ?_ (by intro _ _; rfl)
  refine ref_sub ?_ ?_ (by intro _ _; rfl)
  refine ref_sub ?_ ?_ (by intro _ _; rfl)
  exact ref_l rfl
  exact ref_int
  exact ref_l rfl
  refine ref_bin (op := .sub) ?_ ?_
  refine ref_sub ?_ ?_ (by intro _ _; rfl)
  exact ref_l rfl
  exact ref_l rfl
  exact ref_int
  exact ref_nil
  refine ref_seq ?_ ?_
  refine sref_for ?_ (mem_of_get (n := 6) rfl) ?_ (by intro _ _; rfl)
  refine iref_seq ?_
  exact ref_l rfl
  refine ref_one ?_
  refine sref_meth ((r_TreeGame_undo V).le (by decide)) ?_ .nil (c0 V) (nf_undo) (m_undo V) (isf_TreeGame_undo V) (kf_TreeGame_undo V) (by intro _; exact ⟨_, rfl⟩) (by intro _; rfl)
  exact ref_l rfl
  refine ref_one ?_
  refine sref_ret ?_
  refine ref_call ((r__law_refuses V).le (by decide)) ?_ (by rfl) (n__law_refuses V) (by rfl) (isf__law_refuses V) (kf__law_refuses V)
  refine .cons ?_ (star_plain rfl) ?_
  exact ref_l rfl
  refine .cons ?_ (star_plain rfl) ?_
  exact ref_none
  exact .nil
theorem r__law_kept (V : Gv) : RefF V.gd false 5 417 f_law_kept := by
  apply RefF.mk ["script", "tree", "game", "limit"] [("script", 0), ("tree", 1), ("game", 2), ("limit", 3), ("table", 4), ("kept", 5), ("node", 6), ("x", 7), ("moves", 8)] rfl rfl rfl (len4 fun _ _ _ _ => rfl) ⟨rfl, rfl, rfl, rfl, rfl, rfl⟩ (by rfl)
  refine ref_seq ?_ ?_
  with_reducible refine sref_assign ?_ ?_ ?_
  refine ref_new ((r_TransTable___init__ V).le (by decide)) ?_ (by simp) (by rfl) (n_TransTable V) (by rfl) (mk_TransTable V) (ini_TransTable V) (ty_TransTable V) (kp_TransTable V)
  refine .cons ?_ (star_plain rfl) ?_
  exact ref_int
  refine .cons ?_ (star_plain rfl) ?_
  exact ref_int
  exact .nil
  exact (mem_of_get (n := 4) rfl)
  exact (by intro _ _; rfl)
  refine ref_seq ?_ ?_
  with_reducible refine sref_assign ?_ ?_ ?_
  exact ref_dict0
  exact (mem_of_get (n := 5) rfl)
  exact (by intro _ _; rfl)
  refine ref_seq ?_ ?_
  refine sref_for ?_ (mem_of_get (n := 6) rfl) ?_ (by intro _ _; rfl)
  refine iref_range1 ⟨by rfl, free_range V⟩ ?_
  refine .cons ?_ (star_plain rfl) ?_
  refine ref_len ⟨by rfl, free_len V⟩ ?_
  refine .cons ?_ (star_plain rfl) ?_
  refine ref_sub ?_ ?_ (by intro _ _; rfl)
  exact ref_l rfl
  exact ref_int
  exact .nil
  exact .nil
  refine ref_seq ?_ ?_
  refine sref_assign ?_ (mem_of_get (n := 7) rfl) (by intro _ _; rfl)
  refine ref_call ((r__law_at V).le (by decide)) ?_ (by rfl) (n__law_at V) (by rfl) (isf__law_at V) (kf__law_at V)
  refine .cons ?_ (star_plain rfl) ?_
  exact ref_l rfl
  refine .cons ?_ (star_plain rfl) ?_
  refine ref_bin (op := .add) ?_ ?_
  exact ref_int
  exact ref_l rfl
  exact .nil
  refine ref_one ?_
  refine sref_if ?_ ?_ ?_
  refine tref_cmp (op := .eq) ?_ ?_ (by rfl)
  refine ref_bin (op := .mod) ?_ ?_
  refine ref_call ((r__law_digit V).le (by decide)) ?_ (by rfl) (n__law_digit V) (by rfl) (isf__law_digit V) (kf__law_digit V)
  refine .cons ?_ (star_plain rfl) ?_
  exact ref_l rfl
  refine .cons ?_ (star_plain rfl) ?_
  exact ref_int
  exact .nil
  exact ref_int
  exact ref_int
  refine ref_seq ?_ ?_
  refine sref_meth ((r_TransTable_save V).le (by decide)) ?_ ?_ (c1 V) (nf_save) (m_save V) (isf_TransTable_save V) (kf_TransTable_save V) (by intro _; exact ⟨_, rfl⟩) (by intro _; rfl)
  exact ref_l rfl
  refine .cons ?_ (star_plain rfl) ?_
  refine ref_bin (op := .add) ?_ ?_
  exact ref_l rfl
  exact ref_int
  refine .cons ?_ (star_plain rfl) ?_
  refine ref_call ((r__law_digit V).le (by decide)) ?_ (by rfl) (n__law_digit V) (by rfl) (isf__law_digit V) (kf__law_digit V)
  refine .cons ?_ (star_plain rfl) ?_
  exact ref_l rfl
  refine .cons ?_ (star_plain rfl) ?_
  exact ref_int
  exact .nil
  refine .cons ?_ (star_plain rfl) ?_
  exact ref_int
  refine .cons ?_ (star_plain rfl) ?_
  exact ref_int
  refine .cons ?_ (star_plain rfl) ?_
  exact ref_int
  exact .nil
  refine ref_one ?_
  refine sref_setItem ?_ ?_ ?_ (by intro _ _; rfl)
  exact ref_l rfl
  exact ref_l rfl
  refine ref_call ((r__law_digit V).le (by decide)) ?_ (by rfl) (n__law_digit V) (by rfl) (isf__law_digit V) (kf__law_digit V)
  refine .cons ?_ (star_plain rfl) ?_
  exact ref_l rfl
  refine .cons ?_ (star_plain rfl) ?_
  exact ref_int
  exact .nil
  exact ref_nil
  refine ref_seq ?_ ?_
  with_reducible refine sref_assign ?_ ?_ ?_
  exact ref_int
  exact (mem_of_get (n := 6) rfl)
  exact (by intro _ _; rfl)
  refine ref_seq ?_ ?_
  with_reducible refine sref_assign ?_ ?_ ?_
  exact ref_list (by decide) .nil
  exact (mem_of_get (n := 8) rfl)
  exact (by intro _ _; rfl)
  refine ref_seq ?_ ?_
  refine sref_while ?_ ?_
  refine tref_and ?_ ?_
  refine tref_cmp (op := .lt) ?_ ?_ (by rfl)
  refine ref_len ⟨by rfl, free_len V⟩ ?_
  refine .cons ?_ (star_plain rfl) ?_
  exact ref_l rfl
  exact .nil
  exact ref_l rfl
  refine tref_and1 ?_
  refine tref_chain (op := .le) (op' := .le) ?_ ?_ ?_ (by rfl)
  exact ref_int
  refine ref_get ?_ ?_ ?_ (by intro _; rfl) (by intro _; exact ⟨_, rfl⟩)
  exact ref_l rfl
  exact ref_l rfl
  exact ref_int
  refine ref_len ⟨by rfl, free_len V⟩ ?_
  refine .cons ?_ (star_plain rfl) ?_
  refine ref_sub ?_ ?_ (by intro _ _; rfl)
  refine ref_sub ?_ ?_ (by intro _ _; rfl)
  exact ref_l rfl
  exact ref_int
  exact ref_l rfl
  exact .nil
  refine ref_seq ?_ ?_
  refine sref_expr ?_ (by intro _; rfl)
  refine ref_append ?_ ?_ (by intro _; rfl) (by intro _; exact ⟨_, rfl⟩)
  exact ref_l rfl
  refine ref_sub ?_ ?_ (by intro _ _; rfl)
  exact ref_l rfl
  exact ref_l rfl
  refine ref_one ?_
  refine sref_assign ?_ (mem_of_get (n := 6) rfl) (by intro _ _; rfl)
  refine ref_sub ?_ ?_ (by intro _ _; rfl)
  refine ref_sub ?_ ?_ (by intro _ _; rfl)
  refine ref_sub ?_ ?_ (by intro _ _; rfl)
  exact ref_l rfl
  exact ref_int
  exact ref_l rfl
  refine ref_bin (op := .sub) ?_ ?_
  refine ref_sub ?_ ?_ (by intro _ _; rfl)
  exact ref_l rfl
  exact ref_l rfl
  exact ref_int
  refine ref_one ?_
  refine sref_ret ?_
  refine ref_cmp (op := .eq) ?_ ?_ (by rfl)
  refine ref_call ((r_table_line V).le (by decide)) ?_ (by rfl) (n_table_line V) (by rfl) (isf_table_line V) (kf_table_line V)
  refine .cons ?_ (star_plain rfl) ?_
  exact ref_l rfl
  refine .cons ?_ (star_plain rfl) ?_
  exact ref_l rfl
  refine .cons ?_ (star_plain rfl) ?_
  exact ref_l rfl
  exact .nil
  exact ref_l rfl
theorem r__law_rounds (V : Gv) : RefF V.gd false 1 422 f_law_rounds := by
  apply RefF.mk ["children"] [("children", 0), ("seen", 1), ("here", 2), ("rounds", 3), ("after", 4), ("node", 5), ("kid", 6)] rfl rfl rfl (len1 fun _ => rfl) ⟨rfl, rfl, rfl, rfl, rfl, rfl⟩ (by rfl)
  refine ref_seq ?_ ?_
  with_reducible refine sref_assign ?_ ?_ ?_
  with_reducible refine ref_list ?_ ?_
  decide
  refine .cons ?_ (star_plain rfl) ?_
  exact ref_int
  exact .nil
  exact (mem_of_get (n := 1) rfl)
  exact (by intro _ _; rfl)
  refine ref_seq ?_ ?_
  with_reducible refine sref_assign ?_ ?_ ?_
  with_reducible refine ref_list ?_ ?_
  decide
  refine .cons ?_ (star_plain rfl) ?_
  exact ref_int
  exact .nil
  exact (mem_of_get (n := 2) rfl)
  exact (by intro _ _; rfl)
  refine ref_seq ?_ ?_
  with_reducible refine sref_assign ?_ ?_ ?_
  refine ref_neg ?_
  exact ref_int
  exact (mem_of_get (n := 3) rfl)
  exact (by intro _ _; rfl)
  refine ref_seq ?_ ?_
  refine sref_while ?_ ?_
  refine tref_val ?_ (by intro _ _; rfl)
  exact ref_l rfl
  refine ref_seq ?_ ?_
  refine sref_aug (op := .add) ?_ (mem_of_get (n := 3) rfl) (cld_rounds) (.inl rfl)
  exact ref_int
  refine ref_seq ?_ ?_
  with_reducible refine sref_assign ?_ ?_ ?_
  exact ref_list (by decide) .nil
  exact (mem_of_get (n := 4) rfl)
  exact (by intro _ _; rfl)
  refine ref_seq ?_ ?_
  refine sref_for ?_ (mem_of_get (n := 5) rfl) ?_ (by intro _ _; rfl)
  refine iref_seq ?_
  exact ref_l rfl
  refine ref_one ?_
  refine sref_for ?_ (mem_of_get (n := 6) rfl) ?_ (by intro _ _; rfl)
  refine iref_seq ?_
  refine ref_sub ?_ ?_ (by intro _ _; rfl)
  exact ref_l rfl
  exact ref_l rfl
  refine ref_one ?_
  refine sref_if ?_ ?_ ?_
  refine tref_cmp (op := .notin) ?_ ?_ (by rfl)
  exact ref_l rfl
  exact ref_l rfl
  refine ref_one ?_
  refine sref_expr ?_ (by intro _; rfl)
  refine ref_append ?_ ?_ (by intro _; rfl) (by intro _; exact ⟨_, rfl⟩)
  exact ref_l rfl
  exact ref_l rfl
  exact ref_nil
  refine ref_seq ?_ ?_
  refine sref_aug (op := .add) ?_ (mem_of_get (n := 1) rfl) (cld_seen) (.inl rfl)
  refine ref_comp (CompOk.of [("node", 7), ("seen", 1)] (by rfl)) ?_ ?_ ?_ (by intro _ _; rfl)
  refine iref_seq ?_
  exact ref_l rfl
  refine .one ?_
  refine tref_cmp (op := .notin) ?_ ?_ (by rfl)
  exact ref_l rfl
  exact ref_l rfl
  exact ref_l rfl
  refine ref_one ?_
  refine sref_assign ?_ (mem_of_get (n := 2) rfl) (by intro _ _; rfl)
  exact ref_l rfl
  refine ref_one ?_
  refine sref_ret ?_
  with_reducible refine ref_tup ?_ ?_
  decide
  refine .cons ?_ (star_plain rfl) ?_
  refine ref_sorted ⟨by rfl, free_sorted V⟩ ?_
  refine .cons ?_ (star_plain rfl) ?_
  exact ref_l rfl
  exact .nil
  refine .cons ?_ (star_plain rfl) ?_
  exact ref_l rfl
  exact .nil
theorem r__law_refused (V : Gv) : RefF V.gd false 4 429 f_law_refused := by
  apply RefF.mk ["rows"] [("rows", 0)] rfl rfl rfl (len1 fun _ => rfl) ⟨rfl, rfl, rfl, rfl, rfl, rfl⟩ (by rfl)
  refine ref_seq ?_ ?_
  refine sref_try (ex_BadTable V) (by rfl) (by rfl) ?_ ?_
  refine ref_one ?_
  refine sref_call ((r_check_tree V).le (by decide)) ?_ (by rfl) (n_check_tree V) (by rfl) (isf_check_tree V) (kf_check_tree V) (by intro _; rfl)
  refine .cons ?_ (star_plain rfl) ?_
  refine ref_sub ?_ ?_ (by intro _ _; rfl)
  exact ref_l rfl
  exact ref_int
  refine .cons ?_ (star_plain rfl) ?_
  refine ref_sub ?_ ?_ (by intro _ _; rfl)
  exact ref_l rfl
  exact ref_int
  refine .cons ?_ (star_plain rfl) ?_
  refine ref_sub ?_ ?_ (by intro _ _; rfl)
  exact ref_l rfl
  exact ref_int
  refine .cons ?_ (star_plain rfl) ?_
  refine ref_sub ?_ ?_ (by intro _ _; rfl)
  exact ref_l rfl
  exact ref_int
  refine .cons ?_ (star_plain rfl) ?_
  refine ref_sub ?_ ?_ (by intro _ _; rfl)
  exact ref_l rfl
  exact ref_int
  refine .cons ?_ (star_plain rfl) ?_
  refine ref_sub ?_ ?_ (by intro _ _; rfl)
  exact ref_l rfl
  exact ref_int
  exact .nil
  refine ref_one ?_
  refine sref_ret ?_
  exact ref_bool
  refine ref_one ?_
  refine sref_ret ?_
  exact ref_bool
theorem r__law_bent (V : Gv) : RefF V.gd false 1 434 f_law_bent := by
  apply RefF.mk ["rows", "x"] [("rows", 0), ("x", 1), ("size", 2), ("node", 3), ("more", 4), ("kid", 5), ("row", 6)] rfl rfl rfl (len2 fun _ _ => rfl) ⟨rfl, rfl, rfl, rfl, rfl, rfl⟩ (by rfl)
  refine ref_seq ?_ ?_
  refine sref_assign ?_ (mem_of_get (n := 0) rfl) (by intro _ _; rfl)
  with_reducible refine ref_list ?_ ?_
  decide
  refine .cons ?_ (star_plain rfl) ?_
  refine ref_sub ?_ ?_ (by intro _ _; rfl)
  exact ref_l rfl
  exact ref_int
  refine .cons ?_ (star_plain rfl) ?_
  refine ref_sub ?_ ?_ (by intro _ _; rfl)
  exact ref_l rfl
  exact ref_int
  refine .cons ?_ (star_plain rfl) ?_
  refine ref_sub ?_ ?_ (by intro _ _; rfl)
  exact ref_l rfl
  exact ref_int
  refine .cons ?_ (star_plain rfl) ?_
  refine ref_sub ?_ ?_ (by intro _ _; rfl)
  exact ref_l rfl
  exact ref_int
  refine .cons ?_ (star_plain rfl) ?_
  refine ref_comp (CompOk.of [("row", 8)] (by rfl)) ?_ .none ?_ (by intro _ _; rfl)
  refine iref_seq ?_
  refine ref_sub ?_ ?_ (by intro _ _; rfl)
  exact ref_l rfl
  exact ref_int
  refine ref_copy ?_
  exact ref_l rfl
  refine .cons ?_ (star_plain rfl) ?_
  refine ref_comp (CompOk.of [("row", 9)] (by rfl)) ?_ .none ?_ (by intro _ _; rfl)
  refine iref_seq ?_
  refine ref_sub ?_ ?_ (by intro _ _; rfl)
  exact ref_l rfl
  exact ref_int
  refine ref_copy ?_
  exact ref_l rfl
  exact .nil
  refine ref_seq ?_ ?_
  refine sref_assign ?_ (mem_of_get (n := 2) rfl) (by intro _ _; rfl)
  refine ref_len ⟨by rfl, free_len V⟩ ?_
  refine .cons ?_ (star_plain rfl) ?_
  refine ref_sub ?_ ?_ (by intro _ _; rfl)
  exact ref_l rfl
  exact ref_int
  exact .nil
  refine ref_seq ?_ ?_
  refine sref_assign ?_ (mem_of_get (n := 3) rfl) (by intro _ _; rfl)
  refine ref_bin (op := .mod) ?_ ?_
  refine ref_bin (op := .fdiv) ?_ ?_
  exact ref_l rfl
  exact ref_int
  exact ref_l rfl
  refine ref_seq ?_ ?_
  refine sref_assign ?_ (mem_of_get (n := 4) rfl) (by intro _ _; rfl)
  refine ref_bin (op := .fdiv) ?_ ?_
  exact ref_l rfl
  exact ref_int
  refine ref_seq ?_ ?_
  refine sref_assign ?_ (mem_of_get (n := 5) rfl) (by intro _ _; rfl)
  refine ref_sub ?_ ?_ (by intro _ _; rfl)
  with_reducible refine ref_list ?_ ?_
  decide
  refine .cons ?_ (star_plain rfl) ?_
  exact ref_l rfl
  refine .cons ?_ (star_plain rfl) ?_
  refine ref_bin (op := .add) ?_ ?_
  exact ref_l rfl
  refine ref_bin (op := .mod) ?_ ?_
  exact ref_l rfl
  exact ref_int
  refine .cons ?_ (star_plain rfl) ?_
  exact ref_none
  refine .cons ?_ (star_plain rfl) ?_
  exact ref_none
  refine .cons ?_ (star_plain rfl) ?_
  exact ref_none
  refine .cons ?_ (star_plain rfl) ?_
  exact ref_none
  refine .cons ?_ (star_plain rfl) ?_
  exact ref_none
  refine .cons ?_ (star_plain rfl) ?_
  refine ref_bin (op := .sub) ?_ ?_
  refine ref_neg ?_
  exact ref_int
  refine ref_bin (op := .mod) ?_ ?_
  exact ref_l rfl
  exact ref_int
  exact .nil
  refine ref_bin (op := .mod) ?_ ?_
  exact ref_l rfl
  exact ref_int
  refine ref_seq ?_ ?_
  refine sref_if ?_ ?_ ?_
  refine tref_cmp (op := .eq) ?_ ?_ (by rfl)
  refine ref_bin (op := .mod) ?_ ?_
  exact ref_l rfl
  exact ref_int
  exact ref_int
  refine ref_one ?_
  refine sref_setItem ?_ ?_ ?_ (by intro _ _; rfl)
  exact ref_l rfl
  refine ref_bin (op := .add) ?_ ?_
  exact ref_int
  refine ref_bin (op := .mod) ?_ ?_
  exact ref_l rfl
  exact ref_int
  refine ref_butLast ?_
  refine ref_sub ?_ ?_ (by intro _ _; rfl)
  exact ref_l rfl
  refine ref_bin (op := .add) ?_ ?_
  exact ref_int
  refine ref_bin (op := .mod) ?_ ?_
  exact ref_l rfl
  exact ref_int
  refine ref_one ?_
  refine sref_if ?_ ?_ ?_
  refine tref_or ?_ ?_
  refine tref_cmp (op := .eq) ?_ ?_ (by rfl)
  refine ref_bin (op := .mod) ?_ ?_
  exact ref_l rfl
  exact ref_int
  exact ref_int
  refine tref_or1 ?_
  refine tref_cmp (op := .eq) ?_ ?_ (by rfl)
  refine ref_bin (op := .mod) ?_ ?_
  exact ref_l rfl
  exact ref_int
  exact ref_int
  refine ref_one ?_
  refine sref_expr ?_ (by intro _; rfl)
  refine ref_append ?_ ?_ (by intro _; rfl) (by intro _; exact ⟨_, rfl⟩)
  refine ref_sub ?_ ?_ (by intro _ _; rfl)
  exact ref_l rfl
  refine ref_bin (op := .add) ?_ ?_
  exact ref_int
  refine ref_bin (op := .mod) ?_ ?_
  exact ref_l rfl
  exact ref_int
  refine ref_bin (op := .add) ?_ ?_
  refine ref_pop ?_ (by intro _; exact ⟨_, rfl⟩)
  refine ref_sub ?_ ?_ (by intro _ _; rfl)
  exact ref_l rfl
  refine ref_bin (op := .add) ?_ ?_
  exact ref_int
  refine ref_bin (op := .mod) ?_ ?_
  exact ref_l rfl
  exact ref_int
  with_reducible refine ref_list ?_ ?_
  decide
  refine .cons ?_ (star_plain rfl) ?_
  exact ref_int
  exact .nil
  refine ref_one ?_
  refine sref_if ?_ ?_ ?_
  refine tref_cmp (op := .eq) ?_ ?_ (by rfl)
  refine ref_bin (op := .mod) ?_ ?_
  exact ref_l rfl
  exact ref_int
  exact ref_int
  refine ref_one ?_
  with_reducible refine sref_assign ?_ ?_ ?_
  with_reducible refine ref_list ?_ ?_
  decide
  refine .cons ?_ (star_plain rfl) ?_
  exact ref_list (by decide) .nil
  refine .cons ?_ (star_plain rfl) ?_
  exact ref_list (by decide) .nil
  refine .cons ?_ (star_plain rfl) ?_
  exact ref_list (by decide) .nil
  refine .cons ?_ (star_plain rfl) ?_
  exact ref_list (by decide) .nil
  refine .cons ?_ (star_plain rfl) ?_
  exact ref_list (by decide) .nil
  refine .cons ?_ (star_plain rfl) ?_
  exact ref_list (by decide) .nil
  exact .nil
  exact (mem_of_get (n := 0) rfl)
  exact (by intro _ _; rfl)
  refine ref_one ?_
  refine sref_if ?_ ?_ ?_
  refine tref_and ?_ ?_
  refine tref_cmp (op := .eq) ?_ ?_ (by rfl)
  refine ref_bin (op := .mod) ?_ ?_
  exact ref_l rfl
  exact ref_int
  exact ref_int
  refine tref_and1 ?_
  refine tref_cmp (op := .lt) ?_ ?_ (by rfl)
  exact ref_l rfl
  refine ref_bin (op := .sub) ?_ ?_
  exact ref_l rfl
  exact ref_int
  refine ref_one ?_
  refine sref_assign ?_ (mem_of_get (n := 5) rfl) (by intro _ _; rfl)
  refine ref_bin (op := .add) ?_ ?_
  refine ref_bin (op := .add) ?_ ?_
  exact ref_l rfl
  exact ref_int
  refine ref_bin (op := .mod) ?_ ?_
  exact ref_l rfl
  refine ref_bin (op := .sub) ?_ ?_
  refine ref_bin (op := .sub) ?_ ?_
  exact ref_l rfl
  exact ref_int
  exact ref_l rfl
  exact ref_nil
  refine ref_seq ?_ ?_
  refine sref_if ?_ ?_ ?_
  refine tref_cmp (op := .isnot) ?_ ?_ (by rfl)
  exact ref_l rfl
  exact ref_none
  refine ref_seq ?_ ?_
  refine sref_setItem ?_ ?_ ?_ (by intro _ _; rfl)
  exact ref_l rfl
  exact ref_int
  refine ref_comp (CompOk.of [("row", 7)] (by rfl)) ?_ .none ?_ (by intro _ _; rfl)
  refine iref_seq ?_
  refine ref_sub ?_ ?_ (by intro _ _; rfl)
  exact ref_l rfl
  exact ref_int
  refine ref_copy ?_
  exact ref_l rfl
  refine ref_one ?_
  refine sref_for ?_ (mem_of_get (n := 6) rfl) ?_ (by intro _ _; rfl)
  refine iref_seq ?_
  with_reducible refine ref_tup ?_ ?_
  decide
  refine .cons ?_ (star_plain rfl) ?_
  refine ref_sub ?_ ?_ (by intro _ _; rfl)
  refine ref_sub ?_ ?_ (by intro _ _; rfl)
  exact ref_l rfl
  exact ref_int
  exact ref_l rfl
  refine .cons ?_ (star_plain rfl) ?_
  refine ref_sub ?_ ?_ (by intro _ _; rfl)
  refine ref_sub ?_ ?_ (by intro _ _; rfl)
  exact ref_l rfl
  exact ref_int
  exact ref_l rfl
  refine .cons ?_ (star_plain rfl) ?_
  refine ref_sub ?_ ?_ (by intro _ _; rfl)
  refine ref_sub ?_ ?_ (by intro _ _; rfl)
  exact ref_l rfl
  exact ref_int
  exact ref_l rfl
  exact .nil
  refine ref_one ?_
  refine sref_expr ?_ (by intro _; rfl)
  refine ref_append ?_ ?_ (by intro _; rfl) (by intro _; exact ⟨_, rfl⟩)
  exact ref_l rfl
  exact ref_l rfl
  exact ref_nil
  refine ref_one ?_
  refine sref_ret ?_
  with_reducible refine ref_tup ?_ ?_
  decide
  refine .cons ?_ (star_plain rfl) ?_
  exact ref_l rfl
  refine .cons ?_ (star_plain rfl) ?_
  refine ref_cmp (op := .ne) ?_ ?_ (by rfl)
  refine ref_bin (op := .mod) ?_ ?_
  exact ref_l rfl
  exact ref_int
  exact ref_int
  exact .nil
theorem r_law (V : Gv) : RefF V.gd false 25 439 f_law := by
  apply RefF.mk ["script"] [("script", 0), ("tree", 1), ("x", 2), ("depth", 3), ("qdepth", 4), ("gains", 5), ("at", 6), ("game", 7), ("levels", 8), ("moves", 9), ("node", 10), ("score", 11), ("_", 12), ("rows", 13), ("bent", 14), ("is_bent", 15)] rfl rfl rfl (len1 fun _ => rfl) ⟨rfl, rfl, rfl, rfl, rfl, rfl⟩ (by rfl)
  refine ref_seq ?_ ?_
  refine sref_assign ?_ (mem_of_get (n := 1) rfl) (by intro _ _; rfl)
  refine ref_call ((r__law_tree V).le (by decide)) ?_ (by rfl) (n__law_tree V) (by rfl) (isf__law_tree V) (kf__law_tree V)
  refine .cons ?_ (star_plain rfl) ?_
  exact ref_l rfl
  exact .nil
  refine ref_seq ?_ ?_
  refine sref_assign ?_ (mem_of_get (n := 2) rfl) (by intro _ _; rfl)
  refine ref_call ((r__law_at V).le (by decide)) ?_ (by rfl) (n__law_at V) (by rfl) (isf__law_at V) (kf__law_at V)
  refine .cons ?_ (star_plain rfl) ?_
  exact ref_l rfl
  refine .cons ?_ (star_plain rfl) ?_
  exact ref_int
  exact .nil
  refine ref_seq ?_ ?_
  refine sref_assign ?_ (mem_of_get (n := 3) rfl) (by intro _ _; rfl)
  refine ref_bin (op := .sub) ?_ ?_
  exact ref_int
  refine ref_bin (op := .mod) ?_ ?_
  refine ref_call ((r__law_digit V).le (by decide)) ?_ (by rfl) (n__law_digit V) (by rfl) (isf__law_digit V) (kf__law_digit V)
  refine .cons ?_ (star_plain rfl) ?_
  exact ref_l rfl
  refine .cons ?_ (star_plain rfl) ?_
  exact ref_int
  exact .nil
  exact ref_int
  refine ref_seq ?_ ?_
  refine sref_assign ?_ (mem_of_get (n := 4) rfl) (by intro _ _; rfl)
  refine ref_min2 ⟨by rfl, free_min V⟩ ?_
  refine .cons ?_ (star_plain rfl) ?_
  refine ref_bin (op := .sub) ?_ ?_
  exact ref_int
  refine ref_bin (op := .mod) ?_ ?_
  refine ref_call ((r__law_digit V).le (by decide)) ?_ (by rfl) (n__law_digit V) (by rfl) (isf__law_digit V) (kf__law_digit V)
  refine .cons ?_ (star_plain rfl) ?_
  exact ref_l rfl
  refine .cons ?_ (star_plain rfl) ?_
  exact ref_int
  exact .nil
  exact ref_int
  refine .cons ?_ (star_plain rfl) ?_
  refine ref_bin (op := .sub) ?_ ?_
  exact ref_int
  exact ref_l rfl
  exact .nil
  refine ref_seq ?_ ?_
  with_reducible refine sref_assign ?_ ?_ ?_
  exact ref_list (by decide) .nil
  exact (mem_of_get (n := 5) rfl)
  exact (by intro _ _; rfl)
  refine ref_seq ?_ ?_
  refine sref_for ?_ (mem_of_get (n := 6) rfl) ?_ (by intro _ _; rfl)
  refine iref_range1 ⟨by rfl, free_range V⟩ ?_
  refine .cons ?_ (star_plain rfl) ?_
  refine ref_len ⟨by rfl, free_len V⟩ ?_
  refine .cons ?_ (star_plain rfl) ?_
  refine ref_sub ?_ ?_ (by intro _ _; rfl)
  exact ref_l rfl
  exact ref_int
  exact .nil
  exact .nil
  refine ref_one ?_
  refine sref_expr ?_ (by intro _; rfl)
  refine ref_append ?_ ?_ (by intro _; rfl) (by intro _; exact ⟨_, rfl⟩)
  exact ref_l rfl
  refine ref_comp (CompOk.of [("j", 16), ("script", 0), ("at", 6)] (by rfl)) ?_ .none ?_ (by intro _ _; rfl)
  refine iref_range1 ⟨by rfl, free_range V⟩ ?_
  refine .cons ?_ (star_plain rfl) ?_
  refine ref_len ⟨by rfl, free_len V⟩ ?_
  refine .cons ?_ (star_plain rfl) ?_
  refine ref_sub ?_ ?_ (by intro _ _; rfl)
  refine ref_sub ?_ ?_ (by intro _ _; rfl)
  exact ref_l rfl
  exact ref_int
  exact ref_l rfl
  exact .nil
  exact .nil
  refine ref_bin (op := .sub) ?_ ?_
  refine ref_call ((r__law_digit V).le (by decide)) ?_ (by rfl) (n__law_digit V) (by rfl) (isf__law_digit V) (kf__law_digit V)
  refine .cons ?_ (star_plain rfl) ?_
  refine ref_call ((r__law_at V).le (by decide)) ?_ (by rfl) (n__law_at V) (by rfl) (isf__law_at V) (kf__law_at V)
  refine .cons ?_ (star_plain rfl) ?_
  exact ref_l rfl
  refine .cons ?_ (star_plain rfl) ?_
  refine ref_bin (op := .add) ?_ ?_
  exact ref_int
  exact ref_l rfl
  exact .nil
  refine .cons ?_ (star_plain rfl) ?_
  refine ref_bin (op := .add) ?_ ?_
  exact ref_int
  exact ref_l rfl
  exact .nil
  exact ref_int
  refine ref_seq ?_ ?_
  refine sref_assign ?_ (mem_of_get (n := 7) rfl) (by intro _ _; rfl)
  refine ref_new ((r_TreeGame___init__ V).le (by decide)) ?_ (by simp) (by rfl) (n_TreeGame V) (by rfl) (mk_TreeGame V) (ini_TreeGame V) (ty_TreeGame V) (kp_TreeGame V)
  refine .cons ?_ (star_plain rfl) ?_
  refine ref_sub ?_ ?_ (by intro _ _; rfl)
  exact ref_l rfl
  exact ref_int
  refine .cons ?_ (star_plain rfl) ?_
  refine ref_sub ?_ ?_ (by intro _ _; rfl)
  exact ref_l rfl
  exact ref_int
  refine .cons ?_ (star_plain rfl) ?_
  refine ref_sub ?_ ?_ (by intro _ _; rfl)
  exact ref_l rfl
  exact ref_int
  refine .cons ?_ (star_plain rfl) ?_
  refine ref_sub ?_ ?_ (by intro _ _; rfl)
  exact ref_l rfl
  exact ref_int
  refine .cons ?_ (star_plain rfl) ?_
  refine ref_sub ?_ ?_ (by intro _ _; rfl)
  exact ref_l rfl
  exact ref_int
  refine .cons ?_ (star_plain rfl) ?_
  exact ref_l rfl
  exact .nil
  refine ref_seq ?_ ?_
  refine sref_assign ?_ (mem_of_get (n := 8) rfl) (by intro _ _; rfl)
  refine ref_call ((r__law_levels V).le (by decide)) ?_ (by rfl) (n__law_levels V) (by rfl) (isf__law_levels V) (kf__law_levels V)
  refine .cons ?_ (star_plain rfl) ?_
  exact ref_l rfl
  refine .cons ?_ (star_plain rfl) ?_
  exact ref_l rfl
  refine .cons ?_ (star_plain rfl) ?_
  exact ref_l rfl
  exact .nil
  refine ref_seq ?_ ?_
  refine sref_unpack ?_ (.cons (mem_of_get (n := 9) rfl) (.cons (mem_of_get (n := 10) rfl) .nil)) (by intro _ _; rfl) (by intro _ _; rfl)
  refine ref_call ((r__law_walk V).le (by decide)) ?_ (by rfl) (n__law_walk V) (by rfl) (isf__law_walk V) (kf__law_walk V)
  refine .cons ?_ (star_plain rfl) ?_
  exact ref_l rfl
  refine .cons ?_ (star_plain rfl) ?_
  refine ref_call ((r__law_at V).le (by decide)) ?_ (by rfl) (n__law_at V) (by rfl) (isf__law_at V) (kf__law_at V)
  refine .cons ?_ (star_plain rfl) ?_
  exact ref_l rfl
  refine .cons ?_ (star_plain rfl) ?_
  exact ref_int
  exact .nil
  refine .cons ?_ (star_plain rfl) ?_
  refine ref_bin (op := .mod) ?_ ?_
  refine ref_call ((r__law_digit V).le (by decide)) ?_ (by rfl) (n__law_digit V) (by rfl) (isf__law_digit V) (kf__law_digit V)
  refine .cons ?_ (star_plain rfl) ?_
  exact ref_l rfl
  refine .cons ?_ (star_plain rfl) ?_
  exact ref_int
  exact .nil
  refine ref_bin (op := .add) ?_ ?_
  exact ref_l rfl
  exact ref_int
  exact .nil
  refine ref_seq ?_ ?_
  refine sref_if ?_ ?_ ?_
  refine tref_not ?_
  refine tref_val ?_ (by intro _ _; rfl)
  refine ref_call ((r__law_played V).le (by decide)) ?_ (by rfl) (n__law_played V) (by rfl) (isf__law_played V) (kf__law_played V)
  refine .cons ?_ (star_plain rfl) ?_
  exact ref_l rfl
  refine .cons ?_ (star_plain rfl) ?_
  exact ref_l rfl
  refine .cons ?_ (star_plain rfl) ?_
  exact ref_l rfl
  refine .cons ?_ (star_plain rfl) ?_
  exact ref_l rfl
  exact .nil
  refine ref_one ?_
  refine sref_ret ?_
  exact ref_bool
  exact ref_nil
  refine ref_seq ?_ ?_
  refine sref_assign ?_ (mem_of_get (n := 11) rfl) (by intro _ _; rfl)
  refine ref_sub ?_ ?_ (by intro _ _; rfl)
  refine ref_sub ?_ ?_ (by intro _ _; rfl)
  exact ref_l rfl
  refine ref_bin (op := .sub) ?_ ?_
  refine ref_bin (op := .sub) ?_ ?_
  refine ref_len ⟨by rfl, free_len V⟩ ?_
  refine .cons ?_ (star_plain rfl) ?_
  exact ref_l rfl
  exact .nil
  exact ref_int
  refine ref_len ⟨by rfl, free_len V⟩ ?_
  refine .cons ?_ (star_plain rfl) ?_
  exact ref_l rfl
  exact .nil
  exact ref_l rfl
  refine ref_seq ?_ ?_
  refine sref_for ?_ (mem_of_get (n := 12) rfl) ?_ (by intro _ _; rfl)
  refine iref_seq ?_
  exact ref_l rfl
  refine ref_one ?_
  refine sref_assign ?_ (mem_of_get (n := 11) rfl) (by intro _ _; rfl)
  refine ref_call ((r__law_up V).le (by decide)) ?_ (by rfl) (n__law_up V) (by rfl) (isf__law_up V) (kf__law_up V)
  refine .cons ?_ (star_plain rfl) ?_
  exact ref_l rfl
  exact .nil
  refine ref_seq ?_ ?_
  refine sref_if ?_ ?_ ?_
  refine tref_cmp (op := .ne) ?_ ?_ (by rfl)
  refine ref_call ((r_line_value V).le (by decide)) ?_ (by rfl) (n_line_value V) (by rfl) (isf_line_value V) (kf_line_value V)
  refine .cons ?_ (star_plain rfl) ?_
  exact ref_l rfl
  refine .cons ?_ (star_plain rfl) ?_
  exact ref_l rfl
  refine .cons ?_ (star_plain rfl) ?_
  exact ref_l rfl
  refine .cons ?_ (star_plain rfl) ?_
  exact ref_l rfl
  exact .nil
  exact ref_l rfl
  refine ref_one ?_
  refine sref_ret ?_
  exact ref_bool
  exact ref_nil
  refine ref_seq ?_ ?_
  refine sref_if ?_ ?_ ?_
  refine tref_cmp (op := .ne) ?_ ?_ (by rfl)
  refine ref_call ((r_count_nodes V 10).le (by decide)) ?_ (by rfl) (n_count_nodes V) (by rfl) (isf_count_nodes V) (kf_count_nodes V)
  refine .cons ?_ (star_plain rfl) ?_
  exact ref_l rfl
  refine .cons ?_ (star_plain rfl) ?_
  exact ref_l rfl
  refine .cons ?_ (star_plain rfl) ?_
  exact ref_int
  refine .cons ?_ (star_plain rfl) ?_
  exact ref_l rfl
  exact .nil
  refine ref_call ((r__law_count V).le (by decide)) ?_ (by rfl) (n__law_count V) (by rfl) (isf__law_count V) (kf__law_count V)
  refine .cons ?_ (star_plain rfl) ?_
  exact ref_l rfl
  refine .cons ?_ (star_plain rfl) ?_
  exact ref_l rfl
  refine .cons ?_ (star_plain rfl) ?_
  exact ref_l rfl
  exact .nil
  refine ref_one ?_
  refine sref_ret ?_
  exact ref_bool
  exact ref_nil
  refine ref_seq ?_ ?_
  refine sref_if ?_ ?_ ?_
  refine tref_or ?_ ?_
  refine tref_not ?_
  refine tref_val ?_ (by intro _ _; rfl)
  refine ref_call ((r__law_kept V).le (by decide)) ?_ (by rfl) (n__law_kept V) (by rfl) (isf__law_kept V) (kf__law_kept V)
  refine .cons ?_ (star_plain rfl) ?_
  exact ref_l rfl
  refine .cons ?_ (star_plain rfl) ?_
  exact ref_l rfl
  refine .cons ?_ (star_plain rfl) ?_
  exact ref_l rfl
  refine .cons ?_ (star_plain rfl) ?_
  refine ref_call ((r__law_digit V).le (by decide)) ?_ (by rfl) (n__law_digit V) (by rfl) (isf__law_digit V) (kf__law_digit V)
  refine .cons ?_ (star_plain rfl) ?_
  exact ref_l rfl
  refine .cons ?_ (star_plain rfl) ?_
  exact ref_int
  exact .nil
  exact .nil
  refine tref_or ?_ ?_
  refine tref_cmp (op := .ne) ?_ ?_ (by rfl)
  refine ref_meth ((r_TreeGame_key V).le (by decide)) ?_ .nil (c0 V) (nf_key) (m_key V) (isf_TreeGame_key V) (kf_TreeGame_key V) (by intro _; exact ⟨_, rfl⟩)
  exact ref_l rfl
  exact ref_int
  refine tref_or1 ?_
  refine tref_cmp (op := .ne) ?_ ?_ (by rfl)
  refine ref_meth ((r_TreeGame_side V).le (by decide)) ?_ .nil (c0 V) (nf_side) (m_side V) (isf_TreeGame_side V) (kf_TreeGame_side V) (by intro _; exact ⟨_, rfl⟩)
  exact ref_l rfl
  exact ref_int
  refine ref_one ?_
  refine sref_ret ?_
  exact ref_bool
  exact ref_nil
  refine ref_seq ?_ ?_
  refine sref_if ?_ ?_ ?_
  refine tref_cmp (op := .ne) ?_ ?_ (by rfl)
  with_reducible refine ref_tup ?_ ?_
  decide
  refine .cons ?_ (star_plain rfl) ?_
  refine ref_call ((r_reached_nodes V).le (by decide)) ?_ (by rfl) (n_reached_nodes V) (by rfl) (isf_reached_nodes V) (kf_reached_nodes V)
  refine .cons ?_ (star_plain rfl) ?_
  refine ref_sub ?_ ?_ (by intro _ _; rfl)
  exact ref_l rfl
  exact ref_int
  exact .nil
  refine .cons ?_ (star_plain rfl) ?_
  refine ref_call ((r_longest_way V).le (by decide)) ?_ (by rfl) (n_longest_way V) (by rfl) (isf_longest_way V) (kf_longest_way V)
  refine .cons ?_ (star_plain rfl) ?_
  refine ref_sub ?_ ?_ (by intro _ _; rfl)
  exact ref_l rfl
  exact ref_int
  exact .nil
  exact .nil
  refine ref_call ((r__law_rounds V).le (by decide)) ?_ (by rfl) (n__law_rounds V) (by rfl) (isf__law_rounds V) (kf__law_rounds V)
  refine .cons ?_ (star_plain rfl) ?_
  refine ref_sub ?_ ?_ (by intro _ _; rfl)
  exact ref_l rfl
  exact ref_int
  exact .nil
  refine ref_one ?_
  refine sref_ret ?_
  exact ref_bool
  exact ref_nil
  refine ref_seq ?_ ?_
  refine sref_assign ?_ (mem_of_get (n := 13) rfl) (by intro _ _; rfl)
  with_reducible refine ref_list ?_ ?_
  decide
  refine .cons ?_ (star_plain rfl) ?_
  refine ref_sub ?_ ?_ (by intro _ _; rfl)
  exact ref_l rfl
  exact ref_int
  refine .cons ?_ (star_plain rfl) ?_
  refine ref_sub ?_ ?_ (by intro _ _; rfl)
  exact ref_l rfl
  exact ref_int
  refine .cons ?_ (star_plain rfl) ?_
  refine ref_sub ?_ ?_ (by intro _ _; rfl)
  exact ref_l rfl
  exact ref_int
  refine .cons ?_ (star_plain rfl) ?_
  refine ref_sub ?_ ?_ (by intro _ _; rfl)
  exact ref_l rfl
  exact ref_int
  refine .cons ?_ (star_plain rfl) ?_
  refine ref_sub ?_ ?_ (by intro _ _; rfl)
  exact ref_l rfl
  exact ref_int
  refine .cons ?_ (star_plain rfl) ?_
  exact ref_l rfl
  exact .nil
  refine ref_seq ?_ ?_
  refine sref_unpack ?_ (.cons (mem_of_get (n := 14) rfl) (.cons (mem_of_get (n := 15) rfl) .nil)) (by intro _ _; rfl) (by intro _ _; rfl)
  refine ref_call ((r__law_bent V).le (by decide)) ?_ (by rfl) (n__law_bent V) (by rfl) (isf__law_bent V) (kf__law_bent V)
  refine .cons ?_ (star_plain rfl) ?_
  exact ref_l rfl
  refine .cons ?_ (star_plain rfl) ?_
  refine ref_call ((r__law_at V).le (by decide)) ?_ (by rfl) (n__law_at V) (by rfl) (isf__law_at V) (kf__law_at V)
  refine .cons ?_ (star_plain rfl) ?_
  exact ref_l rfl
  refine .cons ?_ (star_plain rfl) ?_
  exact ref_int
  exact .nil
  exact .nil
  refine ref_one ?_
  refine sref_ret ?_
  refine ref_and ?_ ?_
  refine ref_not ?_
  refine ref_call ((r__law_refused V).le (by decide)) ?_ (by rfl) (n__law_refused V) (by rfl) (isf__law_refused V) (kf__law_refused V)
  refine .cons ?_ (star_plain rfl) ?_
  exact ref_l rfl
  exact .nil
  refine ref_cmp (op := .eq) ?_ ?_ (by rfl)
  refine ref_call ((r__law_refused V).le (by decide)) ?_ (by rfl) (n__law_refused V) (by rfl) (isf__law_refused V) (kf__law_refused V)
  refine .cons ?_ (star_plain rfl) ?_
  exact ref_l rfl
  exact .nil
  exact ref_l rfl
end Mine
end
section
set_option maxHeartbeats 4000000
namespace Mine.P
open Mine PySem
set_option genInjectivity false
theorem ifT {c : Prop} {i : Decidable c} {a b : Prop} (h : c) (k : a) : @ite _ c i a b := (if_pos h).symm ▸ k
theorem ifF {c : Prop} {i : Decidable c} {a b : Prop} (h : ¬c) (k : b) : @ite _ c i a b := (if_neg h).symm ▸ k
theorem o2 {α β : Type} {x : Option α} {a : α} {f : α → Option β} {y : Option β} (e : x = some a) (h : f a = y) : x.bind f = y := by rw [e]; exact h
noncomputable def wE (m : EM) (ρ : List V) (H : Hp) (Q : V → Hp → Prop) : Prop := ∃ v H', m ρ H = some (v, H') ∧ Q v H'
noncomputable def wEs (ms : List EM) (ρ : List V) (H : Hp) (Q : List V → Hp → Prop) : Prop := ∃ v H', evs ms ρ H = some (v, H') ∧ Q v H'
noncomputable def wT (m : TM) (ρ : List V) (H : Hp) (Q : Bool → Hp → Prop) : Prop := ∃ v H', m ρ H = some (v, H') ∧ Q v H'
noncomputable def wI (m : IM) (ρ : List V) (H : Hp) (Q : It → Hp → Prop) : Prop := ∃ v H', m ρ H = some (v, H') ∧ Q v H'
noncomputable def wS (m : SM) (ρ : List V) (H : Hp) (Q : Fl → List V → Hp → Prop) : Prop := ∃ f ρ' H', m ρ H = some (f, ρ', H') ∧ Q f ρ' H'
noncomputable def wF (m : FM) (vs : List V) (H : Hp) (Q : FR → Hp → Prop) : Prop := ∃ r H', m vs H = some (r, H') ∧ Q r H'
noncomputable def wB (op : AOp) (x y : V) (H : Hp) (Q : V → Hp → Prop) : Prop := ∃ v H', binV op x y H = some (v, H') ∧ Q v H'
noncomputable def wG (x y : V) (H : Hp) (Q : V → Prop) : Prop := ∃ v, getV x y H = some v ∧ Q v
noncomputable def wC (op : COp) (x y : V) (H : Hp) (Q : Bool → Prop) : Prop := ∃ v, cmpV op x y H = some v ∧ Q v
noncomputable def wN (x : V) (H : Hp) (Q : Int → Prop) : Prop := ∃ v, lenV x H = some v ∧ Q v
noncomputable def wU (x : V) (H : Hp) (Q : Bool → Prop) : Prop := ∃ v, truthV H x = some v ∧ Q v
noncomputable def wA (x : V) (H : Hp) (Q : List V → Prop) : Prop := ∃ v, listAt x H = some v ∧ Q v
noncomputable def wSet (x y v : V) (H : Hp) (Q : Hp → Prop) : Prop := ∃ H', setV x y v H = some H' ∧ Q H'
noncomputable def wL (slot : Nat) (it : It) (body : SM) (ρ : List V) (H : Hp) (Q : Fl → List V → Hp → Prop) : Prop := ∃ f ρ' H', forL slot it body fuel 0 ρ H = some (f, ρ', H') ∧ Q f ρ' H'
noncomputable def wW (t : TM) (body : SM) (ρ : List V) (H : Hp) (Q : Fl → List V → Hp → Prop) : Prop := ∃ f ρ' H', whileL t body fuel ρ H = some (f, ρ', H') ∧ Q f ρ' H'
noncomputable def wM (slot : Nat) (it : It) (cond : Option TM) (elt : EM) (ρ : List V) (H : Hp) (Q : List V → Hp → Prop) : Prop := ∃ vs H', compL slot it cond elt ρ fuel 0 [] H = some (vs, H') ∧ Q vs H'
noncomputable abbrev onI (x : V) (P : Int → Prop) : Prop := match x with
  | .int i => P i
  | _ => False
noncomputable abbrev onR (r : FR) (P : V → Prop) : Prop := match r with
  | .ret v => P v
  | _ => False
noncomputable def locV (ρ : List V) (k : Nat) : Option V := match ρ[k]? with
  | none => none
  | some .undef => none
  | some v => some v
theorem wE.mono {m : EM} {ρ : List V} {H : Hp} {P Q : V → Hp → Prop} (h : wE m ρ H P) (k : ∀ v H', P v H' → Q v H') : wE m ρ H Q := let ⟨v, H', e, p⟩ := h; ⟨v, H', e, k _ _ p⟩
theorem wT.mono {m : TM} {ρ : List V} {H : Hp} {P Q : Bool → Hp → Prop} (h : wT m ρ H P) (k : ∀ v H', P v H' → Q v H') : wT m ρ H Q := let ⟨v, H', e, p⟩ := h; ⟨v, H', e, k _ _ p⟩
section
noncomputable abbrev Cv := V → Hp → Prop
noncomputable abbrev Cs := Fl → List V → Hp → Prop
noncomputable def kV {α : Type} (Q : α → Hp → Prop) (H : Hp) : α → Prop := fun v => Q v H
noncomputable abbrev kB2 (op : AOp) (x : V) (Q : Cv) : Cv := fun y H2 => wB op x y H2 Q
noncomputable abbrev kB (op : AOp) (b : EM) (ρ : List V) (Q : Cv) : Cv := fun x H1 => wE b ρ H1 (kB2 op x Q)
noncomputable abbrev kNeg (Q : Cv) : Cv := fun x H1 => onI x fun i => Q (.int (-i)) H1
noncomputable abbrev kNot2 (Q : Cv) (H : Hp) : Bool → Prop := fun t => Q (.bool (!t)) H
noncomputable abbrev kNot (Q : Cv) : Cv := fun x H1 => wU x H1 (kNot2 Q H1)
noncomputable def kAnd2 (b : EM) (ρ : List V) (Q : Cv) (x : V) (H : Hp) : Bool → Prop := fun t => if t then wE b ρ H Q else Q x H
noncomputable abbrev kAnd (b : EM) (ρ : List V) (Q : Cv) : Cv := fun x H1 => wU x H1 (kAnd2 b ρ Q x H1)
noncomputable abbrev kBo (Q : Cv) (H : Hp) : Bool → Prop := fun t => Q (.bool t) H
noncomputable abbrev kC2 (op : COp) (x : V) (Q : Cv) : Cv := fun y H2 => wC op x y H2 (kBo Q H2)
noncomputable abbrev kC (op : COp) (b : EM) (ρ : List V) (Q : Cv) : Cv := fun x H1 => wE b ρ H1 (kC2 op x Q)
noncomputable def kEif (a b : EM) (ρ : List V) (Q : Cv) : Bool → Hp → Prop := fun c H1 => if c then wE a ρ H1 Q else wE b ρ H1 Q
noncomputable abbrev kEs2 (x : V) (Q : List V → Hp → Prop) : List V → Hp → Prop := fun xs H2 => Q (x :: xs) H2
noncomputable abbrev kEs (es : List EM) (ρ : List V) (Q : List V → Hp → Prop) : Cv := fun x H1 => wEs es ρ H1 (kEs2 x Q)
end
section
variable {ρ : List V} {H : Hp} {Q : V → Hp → Prop} {a b c : EM}
theorem e_none (h : Q .none H) : wE eNone ρ H Q := ⟨_, _, rfl, h⟩
theorem e_bool {x : Bool} (h : Q (.bool x) H) : wE (eBool x) ρ H Q := ⟨_, _, rfl, h⟩
theorem e_int {i : Int} (h : Q (.int i) H) : wE (eInt i) ρ H Q := ⟨_, _, rfl, h⟩
theorem e_loc {k : Nat} {v : V} (e : locV ρ k = some v) (h : Q v H) : wE (eLoc k) ρ H Q := by
  refine ⟨v, H, ?_, h⟩
  unfold locV at e
  unfold eLoc
  revert e
  cases ρ[k]? with
  | none => intro e; cases e
  | some w => cases w <;> intro e <;> cases e <;> rfl
theorem e_bin {op : AOp} (h : wE a ρ H (kB op b ρ Q)) : wE (eBin op a b) ρ H Q := by
  obtain ⟨x, H1, e1, y, H2, e2, z, H3, e3, q⟩ := h
  exact ⟨z, H3, (by first | exact o2 e1 (o2 e2 (e3)) | exact o2 e1 (o2 e2 (o2 e3 (rfl))) | simp [eBin, e1, e2, e3]), q⟩
theorem e_neg (h : wE a ρ H (kNeg Q)) : wE (eNeg a) ρ H Q := by
  obtain ⟨x, H1, e1, q⟩ := h
  cases x <;> first | exact q.elim | exact ⟨_, _, (by first | exact e1 | exact o2 e1 (rfl) | simp [eNeg, e1]), q⟩
theorem e_not (h : wE a ρ H (kNot Q)) : wE (eNot a) ρ H Q := by
  obtain ⟨x, H1, e1, t, e2, q⟩ := h
  exact ⟨_, _, (by first | exact o2 e1 (e2) | exact o2 e1 (o2 e2 (rfl)) | simp [eNot, e1, e2]), q⟩
theorem e_and (h : wE a ρ H (kAnd b ρ Q)) : wE (eAnd a b) ρ H Q := by
  obtain ⟨x, H1, e1, t, e2, q⟩ := h
  cases t with
  | false => exact ⟨_, _, (by first | exact o2 e1 (e2) | exact o2 e1 (o2 e2 (rfl)) | simp [eAnd, e1, e2]), q⟩
  | true =>
    obtain ⟨v, H2, e3, q⟩ := q
    exact ⟨_, _, (by first | exact o2 e1 (o2 e2 (e3)) | exact o2 e1 (o2 e2 (o2 e3 (rfl))) | simp [eAnd, e1, e2, e3]), q⟩
theorem e_cmp {op : COp} (h : wE a ρ H (kC op b ρ Q)) : wE (eCmp op a b) ρ H Q := by
  obtain ⟨x, H1, e1, y, H2, e2, z, e3, q⟩ := h
  exact ⟨_, _, (by first | exact o2 e1 (o2 e2 (e3)) | exact o2 e1 (o2 e2 (o2 e3 (rfl))) | simp [eCmp, e1, e2, e3]), q⟩
theorem e_if {t : TM} (h : wT t ρ H (kEif a b ρ Q)) : wE (eIf t a b) ρ H Q := by
  obtain ⟨x, H1, e1, q⟩ := h
  cases x with
  | false =>
    obtain ⟨v, H2, e3, q⟩ := q
    exact ⟨_, _, (by first | exact o2 e1 (e3) | exact o2 e1 (o2 e3 (rfl)) | simp [eIf, e1, e3]), q⟩
  | true =>
    obtain ⟨v, H2, e3, q⟩ := q
    exact ⟨_, _, (by first | exact o2 e1 (e3) | exact o2 e1 (o2 e3 (rfl)) | simp [eIf, e1, e3]), q⟩
theorem es_nil {Q : List V → Hp → Prop} (h : Q [] H) : wEs [] ρ H Q := ⟨_, _, rfl, h⟩
theorem es_cons {es : List EM} {Q : List V → Hp → Prop} (h : wE a ρ H (kEs es ρ Q)) : wEs (a :: es) ρ H Q := by
  obtain ⟨x, H1, e1, xs, H2, e2, q⟩ := h
  exact ⟨_, _, (by first | exact o2 e1 (e2) | exact o2 e1 (o2 e2 (rfl)) | simp [evs, e1, e2]), q⟩
noncomputable def Ext (H H' : Hp) : Prop := ∀ (n : Nat) (o : O), H[n]? = some o → H'[n]? = some o
theorem Ext.refl (H : Hp) : Ext H H := fun _ _ e => e
theorem Ext.trans {H H' H'' : Hp} (x : Ext H H') (y : Ext H' H'') : Ext H H'' := fun n o e => y n o (x n o e)
theorem Ext.app (H l : Hp) : Ext H (H ++ l) := fun n o e => by
  rw [List.getElem?_append_left (List.getElem?_eq_some_iff.mp e).1]; exact e
theorem Ext.len {H H' : Hp} (x : Ext H H') : H.length ≤ H'.length := by
  refine Nat.le_of_not_lt fun h => ?_
  have := x H'.length _ (List.getElem?_eq_getElem h)
  rw [List.getElem?_eq_none (Nat.le_refl _)] at this; cases this
theorem Ext.set {H H' : Hp} (x : Ext H H') {n : Nat} (hn : H.length ≤ n) (o : O) : Ext H (H'.set n o) := fun m p e => by
  have hm := (List.getElem?_eq_some_iff.mp e).1
  rw [List.getElem?_set_ne (by lia)]
  exact x m p e
structure New (H H' : Hp) (n : Nat) (o : O) : Prop where
  ext : Ext H H'
  is : H'[n]? = some o
  ge : H.length ≤ n
theorem New.of (H : Hp) (o : O) : New H (H ++ [o]) H.length o := ⟨.app _ _, by simp, Nat.le_refl _⟩
noncomputable abbrev kL (Q : Cv) : List V → Hp → Prop := fun vs H1 => ∀ n H', New H1 H' n (.list vs) → Q (.ref n) H'
noncomputable abbrev kTu (Q : Cv) : List V → Hp → Prop := fun vs H1 => ∀ n H', New H1 H' n (.tup vs) → Q (.ref n) H'
noncomputable abbrev kSu2 (x : V) (Q : Cv) : Cv := fun y H2 => wG x y H2 (kV Q H2)
noncomputable abbrev kSu (b : EM) (ρ : List V) (Q : Cv) : Cv := fun x H1 => wE b ρ H1 (kSu2 x Q)
noncomputable abbrev kCp2 (Q : Cv) (H : Hp) : List V → Prop := fun vs => kL Q vs H
noncomputable abbrev kCp (Q : Cv) : Cv := fun x H1 => wA x H1 (kCp2 Q H1)
noncomputable abbrev kBl2 (Q : Cv) (H : Hp) : List V → Prop := fun vs => kL Q vs.dropLast H
noncomputable abbrev kBl (Q : Cv) : Cv := fun x H1 => wA x H1 (kBl2 Q H1)
theorem e_list {es : List EM} (h : wEs es ρ H (kL Q)) : wE (eList es) ρ H Q := by
  obtain ⟨vs, H1, e1, q⟩ := h
  exact ⟨_, _, (by first | exact e1 | exact o2 e1 (rfl) | simp [eList, e1]), q _ _ (.of _ _)⟩
theorem e_tup {es : List EM} (h : wEs es ρ H (kTu Q)) : wE (eTup es) ρ H Q := by
  obtain ⟨vs, H1, e1, q⟩ := h
  exact ⟨_, _, (by first | exact e1 | exact o2 e1 (rfl) | simp [eTup, e1]), q _ _ (.of _ _)⟩
theorem e_dict0 (h : ∀ n H', New H H' n (.dict []) → Q (.ref n) H') : wE eDict0 ρ H Q := ⟨_, _, rfl, h _ _ (.of _ _)⟩
theorem e_sub (h : wE a ρ H (kSu b ρ Q)) : wE (eSub a b) ρ H Q := by
  obtain ⟨x, H1, e1, y, H2, e2, z, e3, q⟩ := h
  exact ⟨_, _, (by first | exact o2 e1 (o2 e2 (e3)) | exact o2 e1 (o2 e2 (o2 e3 (rfl))) | simp [eSub, e1, e2, e3]), q⟩
theorem e_copy (h : wE a ρ H (kCp Q)) : wE (eCopy a) ρ H Q := by
  obtain ⟨x, H1, e1, vs, e2, q⟩ := h
  exact ⟨_, _, (by first | exact o2 e1 (e2) | exact o2 e1 (o2 e2 (rfl)) | simp [eCopy, e1, e2]), q _ _ (.of _ _)⟩
theorem e_butLast (h : wE a ρ H (kBl Q)) : wE (eButLast a) ρ H Q := by
  obtain ⟨x, H1, e1, vs, e2, q⟩ := h
  exact ⟨_, _, (by first | exact o2 e1 (e2) | exact o2 e1 (o2 e2 (rfl)) | simp [eButLast, e1, e2]), q _ _ (.of _ _)⟩
noncomputable def wAt (c k : Nat) (x : V) (H : Hp) (Q : V → Prop) : Prop := ∃ n fs v, x = .ref n ∧ H[n]? = some (.inst c fs) ∧ fs[k]? = some v ∧ Q v
theorem at_of {c k n : Nat} {fs : List V} {v : V} {P : V → Prop} (h : H[n]? = some (.inst c fs)) (e : fs[k]? = some v) (q : P v) : wAt c k (.ref n) H P := ⟨n, fs, v, rfl, h, e, q⟩
noncomputable abbrev kAt (c k : Nat) (Q : Cv) : Cv := fun x H1 => wAt c k x H1 (kV Q H1)
theorem e_attr {c k : Nat} (h : wE a ρ H (kAt c k Q)) : wE (eAttr c k a) ρ H Q := by
  obtain ⟨x, H1, e1, n, fs, v, rfl, e2, e3, q⟩ := h
  exact ⟨_, _, (by first | exact o2 e1 (o2 e2 (e3)) | exact o2 e1 (o2 e2 (o2 e3 (rfl))) | simp [eAttr, e1, e2, e3]), q⟩
noncomputable abbrev kRet (Q : Cv) : FR → Hp → Prop := fun r H2 => onR r fun v => Q v H2
noncomputable abbrev kCa (f : FM) (Q : Cv) : List V → Hp → Prop := fun vs H1 => wF f vs H1 (kRet Q)
theorem e_call {f : FM} {es : List EM} (h : wEs es ρ H (kCa f Q)) : wE (eCall f es) ρ H Q := by
  obtain ⟨vs, H1, e1, r, H2, e2, q⟩ := h
  cases r with
  | ret v => exact ⟨_, _, (by first | exact o2 e1 (e2) | exact o2 e1 (o2 e2 (rfl)) | simp [eCall, e1, e2]), q⟩
  | exc => exact q.elim
noncomputable def wIn (c : Nat) (x : V) (H : Hp) (Q : Prop) : Prop := isInst c x H = true ∧ Q
theorem in_of {c n : Nat} {fs : List V} {P : Prop} (h : H[n]? = some (.inst c fs)) (q : P) : wIn c (.ref n) H P := ⟨by simp [isInst, h], q⟩
noncomputable abbrev kMe2 (f : FM) (x : V) (Q : Cv) : List V → Hp → Prop := fun vs H2 => wF f (x :: vs) H2 (kRet Q)
noncomputable abbrev kMe (k : Nat) (f : FM) (es : List EM) (ρ : List V) (Q : Cv) : Cv := fun x H1 => wIn k x H1 (wEs es ρ H1 (kMe2 f x Q))
theorem e_meth {k : Nat} {f : FM} {es : List EM} (h : wE a ρ H (kMe k f es ρ Q)) : wE (eMeth k f a es) ρ H Q := by
  obtain ⟨x, H1, e1, e0, vs, H2, e2, r, H3, e3, q⟩ := h
  cases r with
  | ret v => exact ⟨_, _, (by first | exact o2 e1 (o2 e0 (o2 e2 (e3))) | exact o2 e1 (o2 e0 (o2 e2 (o2 e3 (rfl)))) | simp [eMeth, e1, e0, e2, e3]), q⟩
  | exc => exact q.elim
noncomputable def wL1 (x : V) (H : Hp) (Q : Nat → Prop) : Prop := ∃ n vs, x = .ref n ∧ H[n]? = some (.list vs) ∧ Q n
theorem l1_of {n : Nat} {vs : List V} {P : Nat → Prop} (h : H[n]? = some (.list vs)) (q : P n) : wL1 (.ref n) H P := ⟨n, vs, rfl, h, q⟩
noncomputable def wPush (n : Nat) (y : V) (H : Hp) (Q : Hp → Prop) : Prop := ∃ vs, H[n]? = some (.list vs) ∧ vs.length < lim ∧ Q (H.set n (.list (vs ++ [y])))
theorem push_of {n : Nat} {vs : List V} {y : V} {P : Hp → Prop} (h : H[n]? = some (.list vs)) (l : vs.length < 100000) (q : P (H.set n (.list (vs ++ [y])))) : wPush n y H P := ⟨vs, h, l, q⟩
noncomputable abbrev kN (Q : Cv) : Hp → Prop := fun H3 => Q .none H3
noncomputable abbrev kAp3 (n : Nat) (Q : Cv) : Cv := fun y H2 => wPush n y H2 (kN Q)
noncomputable abbrev kAp2 (b : EM) (ρ : List V) (Q : Cv) (H : Hp) : Nat → Prop := fun n => wE b ρ H (kAp3 n Q)
noncomputable abbrev kAp (b : EM) (ρ : List V) (Q : Cv) : Cv := fun x H1 => wL1 x H1 (kAp2 b ρ Q H1)
theorem e_append (h : wE a ρ H (kAp b ρ Q)) : wE (eAppend a b) ρ H Q := by
  obtain ⟨x, H1, e1, n, vs, rfl, e2, y, H2, e3, ws, e4, e5, q⟩ := h
  exact ⟨_, _, (by first | exact o2 e1 (o2 e2 (o2 e3 (o2 e4 (e5)))) | exact o2 e1 (o2 e2 (o2 e3 (o2 e4 (o2 e5 (rfl))))) | simp [eAppend, e1, e2, e3, e4, e5]), q⟩
noncomputable def wPop (x : V) (H : Hp) (Q : V → Hp → Prop) : Prop := ∃ n vs v, x = .ref n ∧ H[n]? = some (.list (vs ++ [v])) ∧ Q v (H.set n (.list vs))
theorem pop_of {n : Nat} {vs : List V} {v : V} {P : V → Hp → Prop} (h : H[n]? = some (.list (vs ++ [v]))) (q : P v (H.set n (.list vs))) : wPop (.ref n) H P := ⟨n, vs, v, rfl, h, q⟩
noncomputable abbrev kPo (Q : Cv) : Cv := fun x H1 => wPop x H1 Q
theorem e_pop (h : wE a ρ H (kPo Q)) : wE (ePop a) ρ H Q := by
  obtain ⟨x, H1, e1, n, vs, v, rfl, e2, q⟩ := h
  exact ⟨_, _, (by first | exact o2 e1 (e2) | exact o2 e1 (o2 e2 (rfl)) | simp [ePop, e1, e2]), q⟩
noncomputable def wGet (x y z : V) (H : Hp) (Q : V → Prop) : Prop := ∃ n i es, x = .ref n ∧ y = .int i ∧ H[n]? = some (.dict es) ∧ Q ((getD i es).getD z)
noncomputable def wD1 (x : V) (H : Hp) (Q : Prop) : Prop := ∃ n es, x = .ref n ∧ H[n]? = some (.dict es) ∧ Q
theorem d1_of {n : Nat} {es : List (Int × V)} {P : Prop} (h : H[n]? = some (.dict es)) (q : P) : wD1 (.ref n) H P := ⟨n, es, rfl, h, q⟩
theorem get_of {n : Nat} {i : Int} {z : V} {es : List (Int × V)} {P : V → Prop} (h : H[n]? = some (.dict es)) (q : P ((getD i es).getD z)) : wGet (.ref n) (.int i) z H P := ⟨n, i, es, rfl, rfl, h, q⟩
noncomputable abbrev kGe3 (x y : V) (Q : Cv) : Cv := fun z H3 => wGet x y z H3 (kV Q H3)
noncomputable abbrev kGe2 (c : EM) (ρ : List V) (x : V) (Q : Cv) : Cv := fun y H2 => wE c ρ H2 (kGe3 x y Q)
noncomputable abbrev kGe (b c : EM) (ρ : List V) (Q : Cv) : Cv := fun x H1 => wD1 x H1 (wE b ρ H1 (kGe2 c ρ x Q))
theorem e_get (h : wE a ρ H (kGe b c ρ Q)) : wE (eGet a b c) ρ H Q := by
  obtain ⟨x, H1, e1, n, es, rfl, e2, y, H2, e3, z, H3, e4, n', i, es', e5, rfl, e6, q⟩ := h
  cases e5
  exact ⟨_, _, (by first | exact o2 e1 (o2 e2 (o2 e3 (o2 e4 (e6)))) | exact o2 e1 (o2 e2 (o2 e3 (o2 e4 (o2 e6 (rfl))))) | simp [eGet, e1, e2, e3, e4, e6]), q⟩
noncomputable abbrev kI (Q : Cv) (H : Hp) : Int → Prop := fun i => Q (.int i) H
noncomputable abbrev kLe (Q : Cv) : Cv := fun x H1 => wN x H1 (kI Q H1)
theorem e_len (h : wE a ρ H (kLe Q)) : wE (eLen a) ρ H Q := by
  obtain ⟨x, H1, e1, v, e2, q⟩ := h
  exact ⟨_, _, (by first | exact o2 e1 (e2) | exact o2 e1 (o2 e2 (rfl)) | simp [eLen, e1, e2]), q⟩
noncomputable abbrev kLR2 (x : V) (Q : Cv) : Cv := fun y H2 => onI x fun lo => onI y fun hi => (lo.natAbs < 100000 ∧ hi.natAbs < 100000) ∧ kL Q (rangeL lo hi) H2
noncomputable abbrev kLR (b : EM) (ρ : List V) (Q : Cv) : Cv := fun x H1 => wE b ρ H1 (kLR2 x Q)
theorem e_listRange (h : wE a ρ H (kLR b ρ Q)) : wE (eListRange a b) ρ H Q := by
  obtain ⟨x, H1, e1, y, H2, e2, q⟩ := h
  cases x <;> first | exact q.elim | skip
  cases y <;> first | exact q.elim | skip
  refine ⟨_, _, ?_, q.2 _ _ (.of _ _)⟩
  have := q.1
  simp only [eListRange, e1, e2, Option.bind_eq_bind, Option.bind_some]
  exact if_pos this
noncomputable abbrev kMi2 (x : V) (Q : Cv) : Cv := fun y H2 => onI x fun i => onI y fun j => Q (.int (if j < i then j else i)) H2
noncomputable abbrev kMi (b : EM) (ρ : List V) (Q : Cv) : Cv := fun x H1 => wE b ρ H1 (kMi2 x Q)
noncomputable abbrev kMa2 (x : V) (Q : Cv) : Cv := fun y H2 => onI x fun i => onI y fun j => Q (.int (if j > i then j else i)) H2
noncomputable abbrev kMa (b : EM) (ρ : List V) (Q : Cv) : Cv := fun x H1 => wE b ρ H1 (kMa2 x Q)
theorem e_min2 (h : wE a ρ H (kMi b ρ Q)) : wE (eMin2 a b) ρ H Q := by
  obtain ⟨x, H1, e1, y, H2, e2, q⟩ := h
  cases x <;> first | exact q.elim | skip
  cases y <;> first | exact q.elim | skip
  exact ⟨_, _, (by first | exact o2 e1 (e2) | exact o2 e1 (o2 e2 (rfl)) | simp [eMin2, e1, e2]), q⟩
theorem e_max2 (h : wE a ρ H (kMa b ρ Q)) : wE (eMax2 a b) ρ H Q := by
  obtain ⟨x, H1, e1, y, H2, e2, q⟩ := h
  cases x <;> first | exact q.elim | skip
  cases y <;> first | exact q.elim | skip
  exact ⟨_, _, (by first | exact o2 e1 (e2) | exact o2 e1 (o2 e2 (rfl)) | simp [eMax2, e1, e2]), q⟩
theorem intsV_map (is : List Int) : intsV (is.map .int) = some is := by
  induction is with
  | nil => rfl
  | cons i r ih => simp [intsV, ih]
noncomputable def wInts (x : V) (H : Hp) (Q : List Int → Prop) : Prop := ∃ n is, x = .ref n ∧ H[n]? = some (.list (is.map .int)) ∧ Q is
theorem ints_of {n : Nat} {is : List Int} {P : List Int → Prop} (h : H[n]? = some (.list (is.map .int))) (q : P is) : wInts (.ref n) H P := ⟨n, is, rfl, h, q⟩
noncomputable abbrev kM1 (Q : Cv) (H : Hp) : List Int → Prop := fun is => ∃ i r, is = i :: r ∧ Q (.int (maxI i r)) H
noncomputable abbrev kMx (Q : Cv) : Cv := fun x H1 => wInts x H1 (kM1 Q H1)
noncomputable abbrev kS1 (Q : Cv) (H : Hp) : List Int → Prop := fun is => Q (.int is.sum) H
noncomputable abbrev kSm (Q : Cv) : Cv := fun x H1 => wInts x H1 (kS1 Q H1)
noncomputable abbrev kSo1 (Q : Cv) (H : Hp) : List Int → Prop := fun is => is.length < 64 ∧ kL Q ((sortI is).map .int) H
noncomputable abbrev kSo (Q : Cv) : Cv := fun x H1 => wInts x H1 (kSo1 Q H1)
theorem e_max1 (h : wE a ρ H (kMx Q)) : wE (eMax1 a) ρ H Q := by
  obtain ⟨x, H1, e1, n, is, rfl, e2, i, r, rfl, q⟩ := h
  refine ⟨_, _, ?_, q⟩
  have := intsV_map (i :: r)
  simp [eMax1, e1, listAt, e2] at this ⊢
  simp [this]
theorem e_sum (h : wE a ρ H (kSm Q)) : wE (eSum a) ρ H Q := by
  obtain ⟨x, H1, e1, n, is, rfl, e2, q⟩ := h
  refine ⟨_, _, ?_, q⟩
  have := intsV_map is
  simp [eSum, e1, listAt, e2, this]
theorem e_sorted (h : wE a ρ H (kSo Q)) : wE (eSorted a) ρ H Q := by
  obtain ⟨x, H1, e1, n, is, rfl, e2, l, q⟩ := h
  refine ⟨_, _, ?_, q _ _ (.of _ _)⟩
  have := intsV_map is
  simp [eSorted, e1, listAt, e2, this, l]
noncomputable abbrev kNw2 (Q : Cv) (n : Nat) : FR → Hp → Prop := fun r H2 => r = .ret .none ∧ Q (.ref n) H2
noncomputable abbrev kNw (k : Nat) (f : FM) (Q : Cv) : List V → Hp → Prop := fun vs H1 => wF f (.ref (H1.length + 1) :: vs) (H1 ++ [.aux, .inst k []]) (kNw2 Q (H1.length + 1))
theorem e_new {k : Nat} {f : FM} {es : List EM} (h : wEs es ρ H (kNw k f Q)) : wE (eNew k f es) ρ H Q := by
  obtain ⟨vs, H1, e1, r, H2, e2, rfl, q⟩ := h
  exact ⟨_, _, (by first | exact o2 e1 (e2) | exact o2 e1 (o2 e2 (rfl)) | simp [eNew, e1, e2]), q⟩
noncomputable abbrev kCo (slot : Nat) (cond : Option TM) (a : EM) (ρ : List V) (Q : Cv) : It → Hp → Prop := fun it H1 => wM slot it cond a ρ H1 (kL Q)
theorem e_comp {slot : Nat} {it : IM} {cond : Option TM} (h : wI it ρ H (kCo slot cond a ρ Q)) : wE (eComp slot it cond a) ρ H Q := by
  obtain ⟨x, H1, e1, vs, H2, e2, q⟩ := h
  exact ⟨_, _, (by first | exact o2 e1 (e2) | exact o2 e1 (o2 e2 (rfl)) | simp [eComp, e1, e2]), q _ _ (.of _ _)⟩
end
noncomputable abbrev kR1 (Q : It → Hp → Prop) : Cv := fun x H1 => onI x fun hi => hi.natAbs < 100000 ∧ Q (.rng 0 hi 1) H1
noncomputable abbrev kR3 (s : Int) (x : V) (Q : It → Hp → Prop) : Cv := fun y H2 => onI x fun lo => onI y fun hi => (lo.natAbs < 100000 ∧ hi.natAbs < 100000) ∧ Q (.rng lo hi s) H2
noncomputable abbrev kR2 (s : Int) (b : EM) (ρ : List V) (Q : It → Hp → Prop) : Cv := fun x H1 => wE b ρ H1 (kR3 s x Q)
section
variable {ρ : List V} {H : Hp} {Q : It → Hp → Prop} {a b : EM}
theorem i_range1 (h : wE a ρ H (kR1 Q)) : wI (iRange1 a) ρ H Q := by
  obtain ⟨x, H1, e1, q⟩ := h
  cases x <;> first | exact q.elim | skip
  have := q.1
  exact ⟨_, _, by simp [iRange1, e1, lim, this], q.2⟩
theorem i_range2 (h : wE a ρ H (kR2 1 b ρ Q)) : wI (iRange2 a b) ρ H Q := by
  obtain ⟨x, H1, e1, y, H2, e2, q⟩ := h
  cases x <;> first | exact q.elim | skip
  cases y <;> first | exact q.elim | skip
  have := q.1
  exact ⟨_, _, by simp [iRange2, e1, e2, lim, this], q.2⟩
theorem i_rangeDn (h : wE a ρ H (kR2 (-1) b ρ Q)) : wI (iRangeDn a b) ρ H Q := by
  obtain ⟨x, H1, e1, y, H2, e2, q⟩ := h
  cases x <;> first | exact q.elim | skip
  cases y <;> first | exact q.elim | skip
  have := q.1
  exact ⟨_, _, by simp [iRangeDn, e1, e2, lim, this], q.2⟩
noncomputable def wSeq (x : V) (H : Hp) (Q : It → Prop) : Prop := ∃ n vs, x = .ref n ∧ ((H[n]? = some (.list vs) ∧ Q (.lst n)) ∨ (H[n]? = some (.tup vs) ∧ Q (.tpl n)))
theorem seq_lst {n : Nat} {vs : List V} {P : It → Prop} (h : H[n]? = some (.list vs)) (q : P (.lst n)) : wSeq (.ref n) H P := ⟨n, vs, rfl, .inl ⟨h, q⟩⟩
theorem seq_tpl {n : Nat} {vs : List V} {P : It → Prop} (h : H[n]? = some (.tup vs)) (q : P (.tpl n)) : wSeq (.ref n) H P := ⟨n, vs, rfl, .inr ⟨h, q⟩⟩
noncomputable abbrev kSq (Q : It → Hp → Prop) : Cv := fun x H1 => wSeq x H1 (kV Q H1)
theorem i_seq (h : wE a ρ H (kSq Q)) : wI (iSeq a) ρ H Q := by
  obtain ⟨x, H1, e1, n, vs, rfl, ⟨e2, q⟩ | ⟨e2, q⟩⟩ := h
  · exact ⟨_, _, (by first | exact o2 e1 (e2) | exact o2 e1 (o2 e2 (rfl)) | simp [iSeq, e1, e2]), q⟩
  · exact ⟨_, _, (by first | exact o2 e1 (e2) | exact o2 e1 (o2 e2 (rfl)) | simp [iSeq, e1, e2]), q⟩
end
noncomputable abbrev Cb := Bool → Hp → Prop
noncomputable abbrev kTv (Q : Cb) : Cv := fun x H1 => wU x H1 (kV Q H1)
noncomputable abbrev kTn (Q : Cb) : Cb := fun x H1 => Q (!x) H1
noncomputable def kTa (t : TM) (ρ : List V) (Q : Cb) : Cb := fun x H1 => if x then wT t ρ H1 Q else Q false H1
noncomputable def kTo (t : TM) (ρ : List V) (Q : Cb) : Cb := fun x H1 => if x then Q true H1 else wT t ρ H1 Q
noncomputable abbrev kTc2 (op : COp) (x : V) (Q : Cb) : Cv := fun y H2 => wC op x y H2 (kV Q H2)
noncomputable abbrev kTc (op : COp) (b : EM) (ρ : List V) (Q : Cb) : Cv := fun x H1 => wE b ρ H1 (kTc2 op x Q)
noncomputable def kCh3 (op' : COp) (c : EM) (ρ : List V) (y : V) (Q : Cb) (H : Hp) : Bool → Prop := fun t => if t then wE c ρ H (kTc2 op' y Q) else Q false H
noncomputable abbrev kCh2 (op op' : COp) (c : EM) (ρ : List V) (x : V) (Q : Cb) : Cv := fun y H2 => wC op x y H2 (kCh3 op' c ρ y Q H2)
noncomputable abbrev kCh (op op' : COp) (b c : EM) (ρ : List V) (Q : Cb) : Cv := fun x H1 => wE b ρ H1 (kCh2 op op' c ρ x Q)
section
variable {ρ : List V} {H : Hp} {Q : Bool → Hp → Prop} {a b c : EM} {s t : TM}
theorem t_val (h : wE a ρ H (kTv Q)) : wT (tVal a) ρ H Q := by
  obtain ⟨x, H1, e1, t, e2, q⟩ := h
  exact ⟨_, _, (by first | exact o2 e1 (e2) | exact o2 e1 (o2 e2 (rfl)) | simp [tVal, e1, e2]), q⟩
theorem t_not (h : wT t ρ H (kTn Q)) : wT (tNot t) ρ H Q := by
  obtain ⟨x, H1, e1, q⟩ := h
  exact ⟨_, _, (by first | exact e1 | exact o2 e1 (rfl) | simp [tNot, e1]), q⟩
theorem t_and (h : wT s ρ H (kTa t ρ Q)) : wT (tAnd s t) ρ H Q := by
  obtain ⟨x, H1, e1, q⟩ := h
  cases x with
  | false => exact ⟨_, _, (by first | exact e1 | exact o2 e1 (rfl) | simp [tAnd, e1]), q⟩
  | true =>
    obtain ⟨y, H2, e2, q⟩ := q
    exact ⟨_, _, (by first | exact o2 e1 (e2) | exact o2 e1 (o2 e2 (rfl)) | simp [tAnd, e1, e2]), q⟩
theorem t_or (h : wT s ρ H (kTo t ρ Q)) : wT (tOr s t) ρ H Q := by
  obtain ⟨x, H1, e1, q⟩ := h
  cases x with
  | true => exact ⟨_, _, (by first | exact e1 | exact o2 e1 (rfl) | simp [tOr, e1]), q⟩
  | false =>
    obtain ⟨y, H2, e2, q⟩ := q
    exact ⟨_, _, (by first | exact o2 e1 (e2) | exact o2 e1 (o2 e2 (rfl)) | simp [tOr, e1, e2]), q⟩
theorem t_cmp {op : COp} (h : wE a ρ H (kTc op b ρ Q)) : wT (tCmp op a b) ρ H Q := by
  obtain ⟨x, H1, e1, y, H2, e2, z, e3, q⟩ := h
  exact ⟨_, _, (by first | exact o2 e1 (o2 e2 (e3)) | exact o2 e1 (o2 e2 (o2 e3 (rfl))) | simp [tCmp, e1, e2, e3]), q⟩
theorem t_chain {op op' : COp} (h : wE a ρ H (kCh op op' b c ρ Q)) : wT (tChain op op' a b c) ρ H Q := by
  obtain ⟨x, H1, e1, y, H2, e2, t, e3, q⟩ := h
  cases t with
  | false => exact ⟨_, _, (by first | exact o2 e1 (o2 e2 (e3)) | exact o2 e1 (o2 e2 (o2 e3 (rfl))) | simp [tChain, e1, e2, e3]), q⟩
  | true =>
    obtain ⟨z, H3, e4, t, e5, q⟩ := q
    exact ⟨_, _, (by first | exact o2 e1 (o2 e2 (o2 e3 (o2 e4 (e5)))) | exact o2 e1 (o2 e2 (o2 e3 (o2 e4 (o2 e5 (rfl))))) | simp [tChain, e1, e2, e3, e4, e5]), q⟩
end
section
variable {ρ : List V} {H : Hp} {Q : Fl → List V → Hp → Prop} {a b c : EM} {s t : SM}
theorem s_pass (h : Q .next ρ H) : wS sPass ρ H Q := ⟨_, _, _, rfl, h⟩
theorem s_brk (h : Q .brk ρ H) : wS sBrk ρ H Q := ⟨_, _, _, rfl, h⟩
theorem s_cont (h : Q .cont ρ H) : wS sCont ρ H Q := ⟨_, _, _, rfl, h⟩
noncomputable abbrev thn (t : SM) (Q : Fl → List V → Hp → Prop) : Fl → List V → Hp → Prop := fun f ρ H => match f with
  | .next => wS t ρ H Q
  | .brk => Q .brk ρ H
  | .cont => Q .cont ρ H
  | .ret v => Q (.ret v) ρ H
  | .exc c => Q (.exc c) ρ H
theorem s_seq (h : wS s ρ H (thn t Q)) : wS (sSeq s t) ρ H Q := by
  obtain ⟨f, ρ1, H1, e1, q⟩ := h
  cases f with
  | next =>
    obtain ⟨f, ρ2, H2, e2, q⟩ := q
    exact ⟨_, _, _, (by first | exact o2 e1 (e2) | exact o2 e1 (o2 e2 (rfl)) | simp [sSeq, e1, e2]), q⟩
  | brk => exact ⟨_, _, _, (by first | exact e1 | exact o2 e1 (rfl) | simp [sSeq, e1]), q⟩
  | cont => exact ⟨_, _, _, (by first | exact e1 | exact o2 e1 (rfl) | simp [sSeq, e1]), q⟩
  | ret v => exact ⟨_, _, _, (by first | exact e1 | exact o2 e1 (rfl) | simp [sSeq, e1]), q⟩
  | exc c => exact ⟨_, _, _, (by first | exact e1 | exact o2 e1 (rfl) | simp [sSeq, e1]), q⟩
noncomputable abbrev kAs (k : Nat) (ρ : List V) (Q : Cs) : Cv := fun x H1 => Q .next (ρ.set k x) H1
noncomputable abbrev kNr (Q : Cs) (H : Hp) : List V → Prop := fun ρ' => Q .next ρ' H
noncomputable abbrev kNx (ρ : List V) (Q : Cs) : Hp → Prop := fun H4 => Q .next ρ H4
noncomputable abbrev kEx (ρ : List V) (Q : Cs) : Cv := fun _ H1 => Q .next ρ H1
noncomputable abbrev kRt (ρ : List V) (Q : Cs) : Cv := fun x H1 => Q (.ret x) ρ H1
theorem s_assign {k : Nat} (h : wE a ρ H (kAs k ρ Q)) : wS (sAssign k a) ρ H Q := by
  obtain ⟨x, H1, e1, q⟩ := h
  exact ⟨_, _, _, (by first | exact e1 | exact o2 e1 (rfl) | simp [sAssign, e1]), q⟩
noncomputable def wUp (ks : List Nat) (x : V) (ρ : List V) (H : Hp) (Q : List V → Prop) : Prop := ∃ n vs ρ', x = .ref n ∧ H[n]? = some (.tup vs) ∧ setAll ks vs ρ = some ρ' ∧ Q ρ'
theorem up_of {ks : List Nat} {n : Nat} {vs ρ' : List V} {P : List V → Prop} (h : H[n]? = some (.tup vs)) (e : setAll ks vs ρ = some ρ') (q : P ρ') : wUp ks (.ref n) ρ H P := ⟨n, vs, ρ', rfl, h, e, q⟩
noncomputable abbrev kUp (ks : List Nat) (ρ : List V) (Q : Cs) : Cv := fun x H1 => wUp ks x ρ H1 (kNr Q H1)
theorem s_unpack {ks : List Nat} (h : wE a ρ H (kUp ks ρ Q)) : wS (sUnpack ks a) ρ H Q := by
  obtain ⟨x, H1, e1, n, vs, ρ', rfl, e2, e3, q⟩ := h
  exact ⟨_, _, _, (by first | exact o2 e1 (o2 e2 (e3)) | exact o2 e1 (o2 e2 (o2 e3 (rfl))) | simp [sUnpack, e1, e2, e3]), q⟩
noncomputable abbrev kSi3 (x v : V) (ρ : List V) (Q : Cs) : Cv := fun y H3 => wSet x y v H3 (kNx ρ Q)
noncomputable abbrev kSi2 (b : EM) (v : V) (ρ : List V) (Q : Cs) : Cv := fun x H2 => wE b ρ H2 (kSi3 x v ρ Q)
noncomputable abbrev kSi (a b : EM) (ρ : List V) (Q : Cs) : Cv := fun v H1 => wE a ρ H1 (kSi2 b v ρ Q)
theorem s_setItem (h : wE c ρ H (kSi a b ρ Q)) : wS (sSetItem a b c) ρ H Q := by
  obtain ⟨v, H1, e1, x, H2, e2, y, H3, e3, H4, e4, q⟩ := h
  exact ⟨_, _, _, (by first | exact o2 e1 (o2 e2 (o2 e3 (e4))) | exact o2 e1 (o2 e2 (o2 e3 (o2 e4 (rfl)))) | simp [sSetItem, e1, e2, e3, e4]), q⟩
noncomputable def wSA (c k : Nat) (x v : V) (H : Hp) (Q : Hp → Prop) : Prop := ∃ n fs, x = .ref n ∧ H[n]? = some (.inst c fs) ∧ fs.length = k ∧ Q (H.set n (.inst c (fs ++ [v])))
theorem sa_of {c k n : Nat} {fs : List V} {v : V} {P : Hp → Prop} (h : H[n]? = some (.inst c fs)) (l : fs.length = k) (q : P (H.set n (.inst c (fs ++ [v])))) : wSA c k (.ref n) v H P := ⟨n, fs, rfl, h, l, q⟩
noncomputable abbrev kSa2 (k l : Nat) (v : V) (ρ : List V) (Q : Cs) : Cv := fun x H2 => wSA k l x v H2 (kNx ρ Q)
noncomputable abbrev kSa (k l : Nat) (a : EM) (ρ : List V) (Q : Cs) : Cv := fun v H1 => wE a ρ H1 (kSa2 k l v ρ Q)
theorem s_setAttr {k l : Nat} (h : wE b ρ H (kSa k l a ρ Q)) : wS (sSetAttr k l a b) ρ H Q := by
  obtain ⟨v, H1, e1, x, H2, e2, n, fs, rfl, e3, e4, q⟩ := h
  exact ⟨_, _, _, (by first | exact o2 e1 (o2 e2 (o2 e3 (e4))) | exact o2 e1 (o2 e2 (o2 e3 (o2 e4 (rfl)))) | simp [sSetAttr, e1, e2, e3, e4]), q⟩
noncomputable abbrev kAu (op : AOp) (i : Int) (k : Nat) (ρ : List V) (Q : Cs) : Cv := fun y H1 => onI y fun j => ∃ z, arith op i j = some z ∧ Q .next (ρ.set k (.int z)) H1
theorem s_aug {k : Nat} {op : AOp} {i : Int} (e : locV ρ k = some (.int i)) (h : wE a ρ H (kAu op i k ρ Q)) : wS (sAug k op a) ρ H Q := by
  obtain ⟨y, H1, e1, q⟩ := h
  cases y <;> first | exact q.elim | skip
  obtain ⟨z, e2, q⟩ := q
  obtain ⟨v, H', e3, r⟩ := e_loc (H := H) (Q := fun v H' => v = .int i ∧ H' = H) e ⟨rfl, rfl⟩
  obtain ⟨rfl, rfl⟩ := r
  exact ⟨_, _, _, (by first | exact o2 e3 (o2 e1 (e2)) | exact o2 e3 (o2 e1 (o2 e2 (rfl))) | simp [sAug, e3, e1, e2]), q⟩
noncomputable abbrev kAl (k m : Nat) (ρ : List V) (Q : Cs) : Cv := fun y H1 => ∃ n vs ws, y = .ref n ∧ H1[m]? = some (.list vs) ∧ H1[n]? = some (.list ws) ∧ m ≠ n ∧ vs.length + ws.length < 100000 ∧ Q .next (ρ.set k (.ref m)) (H1.set m (.list (vs ++ ws)))
theorem s_augL {k m : Nat} (e : locV ρ k = some (.ref m)) (h : wE a ρ H (kAl k m ρ Q)) : wS (sAug k .add a) ρ H Q := by
  obtain ⟨y, H1, e1, n, vs, ws, rfl, e2, e3, e4, e5, q⟩ := h
  obtain ⟨v, H', e6, r⟩ := e_loc (H := H) (Q := fun v H' => v = .ref m ∧ H' = H) e ⟨rfl, rfl⟩
  obtain ⟨rfl, rfl⟩ := r
  refine ⟨_, _, _, ?_, q⟩
  simp [sAug, e6, e1, e2, e3, e4, lim, e5]
noncomputable abbrev kAg4 (x y v : V) (ρ : List V) (Q : Cs) : Cv := fun z H3 => ∃ n, x = .ref n ∧ onI v fun i => onI z fun j => wSet x y (.int (i + j)) H3 (kNx ρ Q)
noncomputable abbrev kAg3 (x y : V) (c : EM) (ρ : List V) (Q : Cs) (H : Hp) : V → Prop := fun v => wE c ρ H (kAg4 x y v ρ Q)
noncomputable abbrev kAg2 (x : V) (c : EM) (ρ : List V) (Q : Cs) : Cv := fun y H2 => wG x y H2 (kAg3 x y c ρ Q H2)
noncomputable abbrev kAg (b c : EM) (ρ : List V) (Q : Cs) : Cv := fun x H1 => wE b ρ H1 (kAg2 x c ρ Q)
theorem s_augSub (h : wE a ρ H (kAg b c ρ Q)) : wS (sAugSub a b c) ρ H Q := by
  obtain ⟨x, H1, e1, y, H2, e2, v, e3, z, H3, e4, n, rfl, q⟩ := h
  cases v <;> first | exact q.elim | skip
  cases z <;> first | exact q.elim | skip
  obtain ⟨H4, e5, q⟩ := q
  exact ⟨_, _, _, (by first | exact o2 e1 (o2 e2 (o2 e3 (o2 e4 (e5)))) | exact o2 e1 (o2 e2 (o2 e3 (o2 e4 (o2 e5 (rfl))))) | simp [sAugSub, e1, e2, e3, e4, e5]), q⟩
theorem s_expr (h : wE a ρ H (kEx ρ Q)) : wS (sExpr a) ρ H Q := by
  obtain ⟨x, H1, e1, q⟩ := h
  exact ⟨_, _, _, (by first | exact e1 | exact o2 e1 (rfl) | simp [sExpr, e1]), q⟩
noncomputable abbrev onC (r : FR) (P : Fl → Prop) : Prop := match r with
  | .ret _ => P .next
  | .exc c => P (.exc c)
noncomputable abbrev kSr (ρ : List V) (Q : Cs) : FR → Hp → Prop := fun r H2 => onC r fun f => Q f ρ H2
noncomputable abbrev kSc (f : FM) (ρ : List V) (Q : Cs) : List V → Hp → Prop := fun vs H1 => wF f vs H1 (kSr ρ Q)
noncomputable abbrev kSn2 (f : FM) (x : V) (ρ : List V) (Q : Cs) : List V → Hp → Prop := fun vs H2 => wF f (x :: vs) H2 (kSr ρ Q)
noncomputable abbrev kSn (k : Nat) (f : FM) (es : List EM) (ρ : List V) (Q : Cs) : Cv := fun x H1 => wIn k x H1 (wEs es ρ H1 (kSn2 f x ρ Q))
noncomputable def kIf (s t : SM) (ρ : List V) (Q : Cs) : Bool → Hp → Prop := fun x H1 => if x then wS s ρ H1 Q else wS t ρ H1 Q
noncomputable abbrev kFo (slot : Nat) (s : SM) (ρ : List V) (Q : Cs) : It → Hp → Prop := fun it H1 => wL slot it s ρ H1 Q
theorem s_call {f : FM} {es : List EM} (h : wEs es ρ H (kSc f ρ Q)) : wS (sCall f es) ρ H Q := by
  obtain ⟨vs, H1, e1, r, H2, e2, q⟩ := h
  cases r with
  | ret v => exact ⟨_, _, _, (by first | exact o2 e1 (e2) | exact o2 e1 (o2 e2 (rfl)) | simp [sCall, e1, e2]), q⟩
  | exc c => exact ⟨_, _, _, (by first | exact o2 e1 (e2) | exact o2 e1 (o2 e2 (rfl)) | simp [sCall, e1, e2]), q⟩
theorem s_meth {k : Nat} {f : FM} {es : List EM} (h : wE a ρ H (kSn k f es ρ Q)) : wS (sMeth k f a es) ρ H Q := by
  obtain ⟨x, H1, e1, e0, vs, H2, e2, r, H3, e3, q⟩ := h
  cases r with
  | ret v => exact ⟨_, _, _, (by first | exact o2 e1 (o2 e0 (o2 e2 (e3))) | exact o2 e1 (o2 e0 (o2 e2 (o2 e3 (rfl)))) | simp [sMeth, e1, e0, e2, e3]), q⟩
  | exc c => exact ⟨_, _, _, (by first | exact o2 e1 (o2 e0 (o2 e2 (e3))) | exact o2 e1 (o2 e0 (o2 e2 (o2 e3 (rfl)))) | simp [sMeth, e1, e0, e2, e3]), q⟩
theorem s_if {c : TM} (h : wT c ρ H (kIf s t ρ Q)) : wS (sIf c s t) ρ H Q := by
  obtain ⟨x, H1, e1, q⟩ := h
  cases x with
  | true =>
    obtain ⟨f, ρ2, H2, e2, q⟩ := q
    exact ⟨_, _, _, (by first | exact o2 e1 (e2) | exact o2 e1 (o2 e2 (rfl)) | simp [sIf, e1, e2]), q⟩
  | false =>
    obtain ⟨f, ρ2, H2, e2, q⟩ := q
    exact ⟨_, _, _, (by first | exact o2 e1 (e2) | exact o2 e1 (o2 e2 (rfl)) | simp [sIf, e1, e2]), q⟩
theorem s_for {slot : Nat} {it : IM} (h : wI it ρ H (kFo slot s ρ Q)) : wS (sFor slot it s) ρ H Q := by
  obtain ⟨x, H1, e1, f, ρ2, H2, e2, q⟩ := h
  refine ⟨f, ρ2, H2, ?_, q⟩
  unfold sFor
  rw [e1]
  exact e2
theorem k_v {α : Type} {Q : α → Hp → Prop} {v : α} (h : Q v H) : kV Q H v := h
theorem k_if {x : Bool} (h : if x then wS s ρ H Q else wS t ρ H Q) : kIf s t ρ Q x H := h
theorem k_ta {x : Bool} {t : TM} {Q : Cb} (h : if x then wT t ρ H Q else Q false H) : kTa t ρ Q x H := h
theorem k_to {x : Bool} {t : TM} {Q : Cb} (h : if x then Q true H else wT t ρ H Q) : kTo t ρ Q x H := h
theorem k_ch {x : Bool} {op : COp} {y : V} {Q : Cb} (h : if x then wE c ρ H (kTc2 op y Q) else Q false H) : kCh3 op c ρ y Q H x := h
theorem k_and {x : Bool} {v : V} {Q : Cv} (h : if x then wE b ρ H Q else Q v H) : kAnd2 b ρ Q v H x := h
theorem k_eif {x : Bool} {Q : Cv} (h : if x then wE a ρ H Q else wE b ρ H Q) : kEif a b ρ Q x H := h
theorem s_while {c : TM} (h : wW c s ρ H Q) : wS (sWhile c s) ρ H Q := h
theorem s_ret (h : wE a ρ H (kRt ρ Q)) : wS (sRet a) ρ H Q := by
  obtain ⟨x, H1, e1, q⟩ := h
  exact ⟨_, _, _, (by first | exact e1 | exact o2 e1 (rfl) | simp [sRet, e1]), q⟩
theorem s_retN (h : Q (.ret .none) ρ H) : wS sRetN ρ H Q := ⟨_, _, _, rfl, h⟩
theorem s_raise {c : Nat} (h : Q (.exc c) ρ H) : wS (sRaise c) ρ H Q := ⟨_, _, _, rfl, h⟩
noncomputable abbrev kTr (k : Nat) (t : SM) (Q : Cs) : Cs := fun f ρ1 H1 => match f with
    | .exc c => c = k ∧ wS t ρ1 H1 fun f ρ2 H2 => (∀ c, f ≠ .exc c) ∧ Q f ρ2 H2
    | .next => Q .next ρ1 H1
    | .brk => Q .brk ρ1 H1
    | .cont => Q .cont ρ1 H1
    | .ret v => Q (.ret v) ρ1 H1
theorem s_try {k : Nat} (h : wS s ρ H (kTr k t Q)) : wS (sTry s k t) ρ H Q := by
  obtain ⟨f, ρ1, H1, e1, q⟩ := h
  cases f with
  | exc c =>
    obtain ⟨rfl, f, ρ2, H2, e2, ne, q⟩ := q
    refine ⟨f, ρ2, H2, ?_, q⟩
    simp only [sTry, e1, Option.bind_eq_bind, Option.bind_some, e2]
    cases f <;> first | rfl | exact absurd rfl (ne _)
  | next => exact ⟨_, _, _, (by first | exact e1 | exact o2 e1 (rfl) | simp [sTry, e1]), q⟩
  | brk => exact ⟨_, _, _, (by first | exact e1 | exact o2 e1 (rfl) | simp [sTry, e1]), q⟩
  | cont => exact ⟨_, _, _, (by first | exact e1 | exact o2 e1 (rfl) | simp [sTry, e1]), q⟩
  | ret v => exact ⟨_, _, _, (by first | exact e1 | exact o2 e1 (rfl) | simp [sTry, e1]), q⟩
noncomputable abbrev fin (Q : FR → Hp → Prop) : Fl → List V → Hp → Prop := fun f _ H => match f with
  | .next => Q (.ret .none) H
  | .ret v => Q (.ret v) H
  | .exc c => Q (.exc c) H
  | _ => False
theorem f_mk {k n : Nat} {args : List V} {Q : FR → Hp → Prop} (l : args.length = k) (h : wS s (args ++ List.replicate (n - k) .undef) H (fin Q)) : wF (mkF k n s) args H Q := by
  obtain ⟨f, ρ2, H2, e2, q⟩ := h
  cases f with
  | next => exact ⟨_, _, by simp [mkF, l, e2], q⟩
  | ret v => exact ⟨_, _, by simp [mkF, l, e2], q⟩
  | exc c => exact ⟨_, _, by simp [mkF, l, e2], q⟩
  | brk => exact q.elim
  | cont => exact q.elim
end
section
variable {H : Hp} {a b : Int} {Q : V → Hp → Prop}
theorem b_add (h : Q (.int (a + b)) H) : wB .add (.int a) (.int b) H Q := ⟨_, _, rfl, h⟩
theorem b_sub (h : Q (.int (a - b)) H) : wB .sub (.int a) (.int b) H Q := ⟨_, _, rfl, h⟩
theorem b_mul (c : b.natAbs < two64) (h : Q (.int (a * b)) H) : wB .mul (.int a) (.int b) H Q := ⟨_, _, by show (if _ then _ else _ : Option Int).map _ = _; rw [if_pos c]; rfl, h⟩
theorem b_fdiv (c : b ≠ 0) (c' : b.natAbs < two64) (h : Q (.int (a.fdiv b)) H) : wB .fdiv (.int a) (.int b) H Q := ⟨_, _, by show (if _ then _ else _ : Option Int).map _ = _; rw [if_pos ⟨c, c'⟩]; rfl, h⟩
theorem b_mod (c : b ≠ 0) (h : Q (.int (a.fmod b)) H) : wB .mod (.int a) (.int b) H Q := ⟨_, _, by show (if _ then _ else _ : Option Int).map _ = _; rw [if_pos c]; rfl, h⟩
theorem b_pow (c : 0 ≤ b) (c' : b ≤ 1000) (c'' : a.natAbs < two64) (h : Q (.int (a ^ b.toNat)) H) : wB .pow (.int a) (.int b) H Q := ⟨_, _, by show (if _ then _ else _ : Option Int).map _ = _; rw [if_pos ⟨c, c', c''⟩]; rfl, h⟩
theorem b_band (h : Q (.int (Builtin.bitAnd a b)) H) : wB .band (.int a) (.int b) H Q := ⟨_, _, rfl, h⟩
theorem b_bor (h : Q (.int (Builtin.bitOr a b)) H) : wB .bor (.int a) (.int b) H Q := ⟨_, _, rfl, h⟩
theorem b_shl (c : 0 ≤ b) (c' : b ≤ 1000) (c'' : a.natAbs < two64) (h : Q (.int (a * 2 ^ b.toNat)) H) : wB .shl (.int a) (.int b) H Q := ⟨_, _, by show (if _ then _ else _ : Option Int).map _ = _; rw [if_pos ⟨c, c', c''⟩]; rfl, h⟩
theorem b_shr (c : 0 ≤ b) (c' : b ≤ 1000) (h : Q (.int (a.fdiv (2 ^ b.toNat))) H) : wB .shr (.int a) (.int b) H Q := ⟨_, _, by show (if _ then _ else _ : Option Int).map _ = _; rw [if_pos ⟨c, c'⟩]; rfl, h⟩
theorem b_cat {m n : Nat} {vs ws : List V} (h1 : H[m]? = some (.list vs)) (h2 : H[n]? = some (.list ws)) (l : vs.length + ws.length < 100000) (h : ∀ k H', New H H' k (.list (vs ++ ws)) → Q (.ref k) H') : wB .add (.ref m) (.ref n) H Q :=
  ⟨_, _, by simp [binV, h1, h2, lim, l], h _ _ (.of _ _)⟩
theorem b_rep {m : Nat} {v : V} {k : Int} (h1 : H[m]? = some (.list [v])) (l : k.natAbs < 100000) (h : ∀ n H', New H H' n (.list (List.replicate k.toNat v)) → Q (.ref n) H') : wB .mul (.ref m) (.int k) H Q := by
  have e : (List.replicate k.toNat [v]).flatten = List.replicate k.toNat v := by
    induction k.toNat with
    | zero => rfl
    | succ n ih => simp [List.replicate_succ, ih]
  refine ⟨_, _, ?_, h _ _ (.of _ _)⟩
  have l' : k.toNat < lim := by unfold lim; lia
  simp [binV, h1, l, l', e]
end
section
variable {H : Hp} {a b : Int} {Q : Bool → Prop}
theorem c_lt (h : Q (decide (a < b))) : wC .lt (.int a) (.int b) H Q := ⟨_, rfl, h⟩
theorem c_le (h : Q (decide (a ≤ b))) : wC .le (.int a) (.int b) H Q := ⟨_, rfl, h⟩
theorem c_gt (h : Q (decide (b < a))) : wC .gt (.int a) (.int b) H Q := ⟨_, rfl, h⟩
theorem c_ge (h : Q (decide (b ≤ a))) : wC .ge (.int a) (.int b) H Q := ⟨_, rfl, h⟩
theorem eqv_int : PyData.eqv (.int a) (.int b) = decide (a = b) := by
  unfold PyData.eqv
  by_cases h : a = b <;> simp [h]
theorem c_eq (h : Q (decide (a = b))) : wC .eq (.int a) (.int b) H Q := ⟨_, by show some (PyData.eqv (.int a) (.int b)) = _; rw [eqv_int], h⟩
theorem c_ne (h : Q (!decide (a = b))) : wC .ne (.int a) (.int b) H Q := ⟨_, by show some (!PyData.eqv (.int a) (.int b)) = _; rw [eqv_int], h⟩
theorem c_isn (h : Q true) : wC .isn .none .none H Q := ⟨_, rfl, h⟩
theorem c_isn_ref {n : Nat} (h : Q false) : wC .isn (.ref n) .none H Q := ⟨_, rfl, h⟩
theorem c_isn_int (h : Q false) : wC .isn (.int a) .none H Q := ⟨_, rfl, h⟩
theorem c_isnot (h : Q false) : wC .isnot .none .none H Q := ⟨_, rfl, h⟩
theorem c_isnot_int (h : Q true) : wC .isnot (.int a) .none H Q := ⟨_, rfl, h⟩
theorem c_in_tup {n : Nat} {is : List Int} (e : H[n]? = some (.tup (is.map .int))) (h : Q (is.any fun i => i == a)) : wC .inn (.int a) (.ref n) H Q := ⟨_, by simp only [cmpV, e, intsV_map]; rfl, h⟩
theorem c_notin_list {n : Nat} {is : List Int} (e : H[n]? = some (.list (is.map .int))) (h : Q (!(is.any fun i => i == a))) : wC .notin (.int a) (.ref n) H Q := ⟨_, by simp only [cmpV, e, intsV_map]; rfl, h⟩
theorem na0 {n k : Nat} (h : n < k) : (n : Int).natAbs < k := h
theorem na1 {n k : Nat} (h : n + 1 < k) : ((n : Int) + 1).natAbs < k := h
theorem na2 {n k : Nat} (h : n + 1 + 1 < k) : ((n : Int) + 1 + 1).natAbs < k := h
theorem nas {n k : Nat} (h : n < k) (h0 : 0 < n) : ((n : Int) - 1).natAbs < k := by lia
theorem u_bool {x : Bool} (h : Q x) : wU (.bool x) H Q := ⟨_, rfl, h⟩
theorem u_list {n : Nat} {vs : List V} (e : H[n]? = some (.list vs)) (h : Q (!vs.isEmpty)) : wU (.ref n) H Q := ⟨_, by simp [truthV, e], h⟩
end
noncomputable def tab {α : Type} (n : Nat) (f : Nat → α) : List α := (List.range n).map f
section
variable {α β : Type}
theorem tab_len (n : Nat) (f : Nat → α) : (tab n f).length = n := by simp [tab]
theorem tab_get {n : Nat} (f : Nat → α) {i : Nat} (h : i < n) : (tab n f)[i]? = some (f i) := by simp [tab, h]
theorem tab_succ (n : Nat) (f : Nat → α) : tab (n + 1) f = tab n f ++ [f n] := by simp [tab, List.range_succ]
theorem tab_congr {n : Nat} {f g : Nat → α} (h : ∀ i, i < n → f i = g i) : tab n f = tab n g := by
  unfold tab
  exact List.map_congr_left fun i hi => h i (List.mem_range.mp hi)
theorem tab_map (n : Nat) (f : Nat → α) (g : α → β) : (tab n f).map g = tab n fun i => g (f i) := by simp [tab]
theorem tab_set {n : Nat} (f : Nat → α) {i : Nat} (h : i < n) (v : α) : (tab n f).set i v = tab n fun j => if j = i then v else f j := by
  refine List.ext_getElem? fun j => ?_
  by_cases hj : j < n
  · rw [tab_get _ hj]
    by_cases e : j = i
    · subst e
      rw [List.getElem?_set_self (by rw [tab_len]; exact hj)]; simp
    · rw [List.getElem?_set_ne (Ne.symm e), tab_get _ hj]; simp [e]
  · rw [List.getElem?_eq_none (by rw [List.length_set, tab_len]; lia), List.getElem?_eq_none (by rw [tab_len]; lia)]
theorem tab_rep (n : Nat) (v : α) : List.replicate n v = tab n fun _ => v := by
  refine List.ext_getElem? fun j => ?_
  by_cases hj : j < n
  · rw [tab_get _ hj]; simp [hj]
  · rw [List.getElem?_eq_none (by simp; lia), List.getElem?_eq_none (by rw [tab_len]; lia)]
theorem mem_tab {n : Nat} {f : Nat → α} {x : α} : x ∈ tab n f ↔ ∃ i, i < n ∧ f i = x := by simp [tab]
end
theorem tab_nil_iff {α : Type} {n : Nat} {f : Nat → α} : (tab n f).isEmpty = decide (n = 0) := by
  cases n with
  | zero => rfl
  | succ n => rw [tab_succ]; simp
theorem g_tab {H : Hp} {n k : Nat} {f : Nat → V} {e : Int} {P : V → Prop} (h : H[n]? = some (.list (tab k f))) (i : Nat) (he : e = (i : Int)) (l : i < k) (q : P (f i)) : wG (.ref n) (.int e) H P := by
  subst he
  refine ⟨f i, ?_, q⟩
  simp [getV, h, idx, tab_get f l]
theorem g_list {H : Hp} {n : Nat} {vs : List V} {e : Int} {v : V} {P : V → Prop} (h : H[n]? = some (.list vs)) (i : Nat) (he : e = (i : Int)) (hv : vs[i]? = some v) (q : P v) : wG (.ref n) (.int e) H P := by
  subst he
  refine ⟨v, ?_, q⟩
  simp [getV, h, idx, hv]
theorem g_tup {H : Hp} {n : Nat} {vs : List V} {e : Int} {v : V} {P : V → Prop} (h : H[n]? = some (.tup vs)) (i : Nat) (he : e = (i : Int)) (hv : vs[i]? = some v) (q : P v) : wG (.ref n) (.int e) H P := by
  subst he
  refine ⟨v, ?_, q⟩
  simp [getV, h, idx, hv]
theorem g_last {H : Hp} {n : Nat} {vs : List V} {v : V} {P : V → Prop} (h : H[n]? = some (.list (vs ++ [v]))) (q : P v) : wG (.ref n) (.int (-1)) H P := by
  refine ⟨v, ?_, q⟩
  have e : (-1 + ((vs.length : Int) + 1)).toNat = vs.length := by lia
  have e' : (0 : Int) ≤ -1 + ((vs.length : Int) + 1) := by lia
  simp [getV, h, idx, e, e']
theorem g_scr {H : Hp} {is : List Int} {e : Int} {v : Int} {P : V → Prop} (i : Nat) (he : e = (i : Int)) (hv : is[i]? = some v) (q : P (.int v)) : wG (.scr is) (.int e) H P := by
  subst he
  refine ⟨.int v, ?_, q⟩
  simp [getV, hv]
theorem g_dict {H : Hp} {n : Nat} {es : List (Int × V)} {e : Int} {v : V} {P : V → Prop} (h : H[n]? = some (.dict es)) (hv : getD e es = some v) (q : P v) : wG (.ref n) (.int e) H P := ⟨v, by simp [getV, h, hv], q⟩
theorem n_list {H : Hp} {n : Nat} {vs : List V} {P : Int → Prop} (h : H[n]? = some (.list vs)) (q : P vs.length) : wN (.ref n) H P := ⟨_, by simp [lenV, h], q⟩
theorem n_tab {H : Hp} {n k : Nat} {f : Nat → V} {P : Int → Prop} (h : H[n]? = some (.list (tab k f))) (q : P k) : wN (.ref n) H P := ⟨_, by simp [lenV, h, tab_len], q⟩
theorem n_scr {H : Hp} {is : List Int} {P : Int → Prop} (q : P is.length) : wN (.scr is) H P := ⟨_, rfl, q⟩
theorem a_list {H : Hp} {n : Nat} {vs : List V} {P : List V → Prop} (h : H[n]? = some (.list vs)) (q : P vs) : wA (.ref n) H P := ⟨_, by simp [listAt, h], q⟩
theorem set_tab {H : Hp} {n k : Nat} {f : Nat → V} {e : Int} {v : V} {P : Hp → Prop} (h : H[n]? = some (.list (tab k f))) (i : Nat) (he : e = (i : Int)) (l : i < k) (q : P (H.set n (.list (tab k fun j => if j = i then v else f j)))) : wSet (.ref n) (.int e) v H P := by
  subst he
  refine ⟨_, ?_, q⟩
  simp [setV, h, tab_len, l, tab_set]
theorem set_list {H : Hp} {n : Nat} {vs : List V} {e : Int} {v : V} {P : Hp → Prop} (h : H[n]? = some (.list vs)) (i : Nat) (he : e = (i : Int)) (l : i < vs.length) (q : P (H.set n (.list (vs.set i v)))) : wSet (.ref n) (.int e) v H P := by
  subst he
  refine ⟨_, ?_, q⟩
  simp [setV, h, l]
theorem set_dict {H : Hp} {n : Nat} {es : List (Int × V)} {e : Int} {v : V} {P : Hp → Prop} (h : H[n]? = some (.dict es)) (l : es.length < 100000) (q : P (H.set n (.dict ((e, v) :: es)))) : wSet (.ref n) (.int e) v H P := by
  refine ⟨_, ?_, q⟩
  simp [setV, h, lim, l]
theorem rangeL_tab (lo : Int) (n : Nat) : rangeL lo (lo + n) = tab n fun i => .int (lo + i) := by
  unfold rangeL tab
  have : (lo + n - lo).toNat = n := by lia
  rw [this]
noncomputable abbrev lq (Q : Fl → List V → Hp → Prop) (nx : List V → Hp → Prop) : Fl → List V → Hp → Prop := fun f ρ H => match f with
  | .next => nx ρ H
  | .cont => nx ρ H
  | .brk => Q .next ρ H
  | .ret v => Q (.ret v) ρ H
  | .exc c => Q (.exc c) ρ H
theorem loop {slot : Nat} {it : It} {body : SM} {Q : Fl → List V → Hp → Prop} {n : Nat} (item : Nat → V) (I : Nat → List V → Hp → Prop)
    (hi : ∀ i ρ H, i < n → I i ρ H → nextV it i H = some (some (item i))) (he : ∀ ρ H, I n ρ H → nextV it n H = some none)
    (hs : ∀ i ρ H, i < n → I i ρ H → wS body (ρ.set slot (item i)) H (lq Q (I (i + 1)))) (hd : ∀ ρ H, I n ρ H → Q .next ρ H) :
    ∀ (k i : Nat) (ρ : List V) (H : Hp) (f : Nat), i + k = n → k < f → I i ρ H → ∃ fl ρ' H', forL slot it body f i ρ H = some (fl, ρ', H') ∧ Q fl ρ' H' := by
  intro k
  induction k with
  | zero =>
    intro i ρ H f e hf x
    have : i = n := by lia
    subst this
    obtain ⟨f, rfl⟩ : ∃ g, f = g + 1 := ⟨f - 1, by lia⟩
    exact ⟨.next, ρ, H, by simp [forL, he ρ H x], hd ρ H x⟩
  | succ k ih =>
    intro i ρ H f e hf x
    obtain ⟨f, rfl⟩ : ∃ g, f = g + 1 := ⟨f - 1, by lia⟩
    obtain ⟨fl, ρ1, H1, e1, q⟩ := hs i ρ H (by lia) x
    have e0 := hi i ρ H (by lia) x
    cases fl with
    | next =>
      obtain ⟨fl, ρ2, H2, e2, q⟩ := ih (i + 1) ρ1 H1 f (by lia) (by lia) q
      exact ⟨fl, ρ2, H2, by simp [forL, e0, e1, e2], q⟩
    | cont =>
      obtain ⟨fl, ρ2, H2, e2, q⟩ := ih (i + 1) ρ1 H1 f (by lia) (by lia) q
      exact ⟨fl, ρ2, H2, by simp [forL, e0, e1, e2], q⟩
    | brk => exact ⟨_, _, _, by simp [forL, e0, e1], q⟩
    | ret v => exact ⟨_, _, _, by simp [forL, e0, e1], q⟩
    | exc c => exact ⟨_, _, _, by simp [forL, e0, e1], q⟩
section
variable {slot : Nat} {body : SM} {ρ : List V} {H : Hp} {Q : Fl → List V → Hp → Prop}
theorem l_up {lo hi : Int} {n : Nat} (I : Nat → List V → Hp → Prop) (e : hi = lo + n) (hn : n < 1000) (h0 : I 0 ρ H)
    (hs : ∀ i ρ H, i < n → I i ρ H → wS body (ρ.set slot (.int (lo + i))) H (lq Q (I (i + 1)))) (hd : ∀ ρ H, I n ρ H → Q .next ρ H) : wL slot (.rng lo hi 1) body ρ H Q := by
  subst e
  refine loop (fun i => .int (lo + i)) I (fun i ρ H hi _ => ?_) (fun ρ H _ => ?_) hs hd n 0 ρ H fuel (by lia) (by unfold fuel; lia) h0
  · have : lo + (i : Int) < lo + (n : Int) := by lia
    simp [nextV, this]
  · simp [nextV]
theorem l_dn {lo hi : Int} {n : Nat} (I : Nat → List V → Hp → Prop) (e : hi = lo - n) (hn : n < 1000) (h0 : I 0 ρ H)
    (hs : ∀ i ρ H, i < n → I i ρ H → wS body (ρ.set slot (.int (lo - i))) H (lq Q (I (i + 1)))) (hd : ∀ ρ H, I n ρ H → Q .next ρ H) : wL slot (.rng lo hi (-1)) body ρ H Q := by
  subst e
  refine loop (fun i => .int (lo - i)) I (fun i ρ H hi _ => ?_) (fun ρ H _ => ?_) hs hd n 0 ρ H fuel (by lia) (by unfold fuel; lia) h0
  · have : lo - (n : Int) < lo - (i : Int) := by lia
    simp [nextV, this]
  · simp [nextV]
theorem l_lst {n : Nat} {vs : List V} (I : Nat → List V → Hp → Prop) (hn : vs.length < 1000) (hI : ∀ i ρ H, I i ρ H → H[n]? = some (.list vs)) (h0 : I 0 ρ H)
    (hs : ∀ i v ρ H, vs[i]? = some v → I i ρ H → wS body (ρ.set slot v) H (lq Q (I (i + 1)))) (hd : ∀ ρ H, I vs.length ρ H → Q .next ρ H) : wL slot (.lst n) body ρ H Q := by
  refine loop (fun i => vs.getD i .none) I (fun i ρ H hi x => ?_) (fun ρ H x => ?_) (fun i ρ H hi x => ?_) hd vs.length 0 ρ H fuel (by lia) (by unfold fuel; lia) h0
  · simp [nextV, hI i ρ H x, Nat.le_of_lt hi, hi]
  · simp [nextV, hI _ ρ H x]
  · exact hs i _ ρ H (by simp [hi]) x
theorem l_tpl {n : Nat} {vs : List V} (I : Nat → List V → Hp → Prop) (hn : vs.length < 1000) (hI : ∀ i ρ H, I i ρ H → H[n]? = some (.tup vs)) (h0 : I 0 ρ H)
    (hs : ∀ i v ρ H, vs[i]? = some v → I i ρ H → wS body (ρ.set slot v) H (lq Q (I (i + 1)))) (hd : ∀ ρ H, I vs.length ρ H → Q .next ρ H) : wL slot (.tpl n) body ρ H Q := by
  refine loop (fun i => vs.getD i .none) I (fun i ρ H hi x => ?_) (fun ρ H x => ?_) (fun i ρ H hi x => ?_) hd vs.length 0 ρ H fuel (by lia) (by unfold fuel; lia) h0
  · simp [nextV, hI i ρ H x, Nat.le_of_lt hi, hi]
  · simp [nextV, hI _ ρ H x]
  · exact hs i _ ρ H (by simp [hi]) x
end
theorem comp {slot : Nat} {it : It} {cond : Option TM} {elt : EM} {ρ : List V} {n : Nat} {Q : List V → Hp → Prop} (item : Nat → V) (I : Nat → List V → Hp → Prop)
    (hi : ∀ i vs H, i < n → I i vs H → nextV it i H = some (some (item i))) (he : ∀ vs H, I n vs H → nextV it n H = some none)
    (hs : ∀ i vs H, i < n → I i vs H → match cond with
      | none => wE elt (ρ.set slot (item i)) H fun y H' => I (i + 1) (vs ++ [y]) H'
      | some c => wT c (ρ.set slot (item i)) H fun t H1 => if t then wE elt (ρ.set slot (item i)) H1 fun y H' => I (i + 1) (vs ++ [y]) H' else I (i + 1) vs H1) (hd : ∀ vs H, I n vs H → Q vs H) :
    ∀ (k i : Nat) (vs : List V) (H : Hp) (f : Nat), i + k = n → k < f → I i vs H → ∃ vs' H', compL slot it cond elt ρ f i vs H = some (vs', H') ∧ Q vs' H' := by
  intro k
  induction k with
  | zero =>
    intro i vs H f e hf x
    have : i = n := by lia
    subst this
    obtain ⟨f, rfl⟩ : ∃ g, f = g + 1 := ⟨f - 1, by lia⟩
    exact ⟨vs, H, by simp [compL, he vs H x], hd vs H x⟩
  | succ k ih =>
    intro i vs H f e hf x
    obtain ⟨f, rfl⟩ : ∃ g, f = g + 1 := ⟨f - 1, by lia⟩
    have e0 := hi i vs H (by lia) x
    have q := hs i vs H (by lia) x
    cases cond with
    | none =>
      obtain ⟨y, H1, e1, q⟩ := q
      obtain ⟨vs', H2, e2, q⟩ := ih (i + 1) _ H1 f (by lia) (by lia) q
      exact ⟨vs', H2, by simp [compL, e0, e1, e2], q⟩
    | some c =>
      obtain ⟨t, H1, e1, q⟩ := q
      cases t with
      | true =>
        obtain ⟨y, H2, e2, q⟩ := q
        obtain ⟨vs', H3, e3, q⟩ := ih (i + 1) _ H2 f (by lia) (by lia) q
        exact ⟨vs', H3, by simp [compL, e0, e1, e2, e3], q⟩
      | false =>
        obtain ⟨vs', H3, e3, q⟩ := ih (i + 1) _ H1 f (by lia) (by lia) q
        exact ⟨vs', H3, by simp [compL, e0, e1, e3], q⟩
section
variable {slot : Nat} {elt : EM} {c : TM} {ρ : List V} {H : Hp} {Q : List V → Hp → Prop}
theorem m_up {lo hi : Int} {n : Nat} (g : Nat → V) (e : hi = lo + n) (hn : n < 1000)
    (hs : ∀ i H', i < n → Ext H H' → wE elt (ρ.set slot (.int (lo + i))) H' fun y H2 => y = g i ∧ Ext H' H2) (hd : ∀ H', Ext H H' → Q (tab n g) H') : wM slot (.rng lo hi 1) none elt ρ H Q := by
  subst e
  refine comp (fun i => .int (lo + i)) (n := n) (fun i vs H' => vs = tab i g ∧ Ext H H') (fun i vs H hi _ => ?_) (fun vs H _ => ?_) (fun i vs H' hi x => ?_) (fun vs H' x => ?_) n 0 [] H fuel (by lia) (by unfold fuel; lia) ⟨rfl, .refl _⟩
  · have : lo + (i : Int) < lo + (n : Int) := by lia
    simp [nextV, this]
  · simp [nextV]
  · exact (hs i H' hi x.2).mono fun y H2 q => ⟨by rw [x.1, tab_succ, q.1], x.2.trans q.2⟩
  · rw [x.1]; exact hd H' x.2
theorem m_upIf {lo hi : Int} {n : Nat} (p : Nat → Bool) (g : Nat → V) (e : hi = lo + n) (hn : n < 1000)
    (hs : ∀ i H', i < n → Ext H H' → wT c (ρ.set slot (.int (lo + i))) H' fun t H1 => t = p i ∧ Ext H' H1 ∧ (p i = true → wE elt (ρ.set slot (.int (lo + i))) H1 fun y H2 => y = g i ∧ Ext H1 H2)) (hd : ∀ H', Ext H H' → Q (((List.range n).filter p).map g) H') : wM slot (.rng lo hi 1) (some c) elt ρ H Q := by
  subst e
  refine comp (fun i => .int (lo + i)) (n := n) (fun i vs H' => vs = ((List.range i).filter p).map g ∧ Ext H H') (fun i vs H hi _ => ?_) (fun vs H _ => ?_) (fun i vs H' hi x => ?_) (fun vs H' x => ?_) n 0 [] H fuel (by lia) (by unfold fuel; lia) ⟨rfl, .refl _⟩
  · have : lo + (i : Int) < lo + (n : Int) := by lia
    simp [nextV, this]
  · simp [nextV]
  · refine (hs i H' hi x.2).mono fun t H1 q => ?_
    obtain ⟨rfl, e1, q⟩ := q
    rw [List.range_succ, List.filter_append, List.map_append]
    cases hp : p i with
    | true =>
      refine ifT rfl ?_
      refine (q hp).mono fun y H2 r => ⟨?_, x.2.trans (e1.trans r.2)⟩
      simp [x.1, hp, r.1]
    | false =>
      refine ifF (by simp) ?_
      exact ⟨by simp [x.1, hp], x.2.trans e1⟩
  · rw [x.1]; exact hd H' x.2
theorem m_lst {n : Nat} {vs : List V} (g : Nat → V) (hn : vs.length < 1000) (h : H[n]? = some (.list vs))
    (hs : ∀ i v H', vs[i]? = some v → Ext H H' → wE elt (ρ.set slot v) H' fun y H2 => y = g i ∧ Ext H' H2) (hd : ∀ H', Ext H H' → Q (tab vs.length g) H') : wM slot (.lst n) none elt ρ H Q := by
  refine comp (fun i => vs.getD i .none) (n := vs.length) (fun i ws H' => ws = tab i g ∧ Ext H H') (fun i ws H' hi x => ?_) (fun ws H' x => ?_) (fun i ws H' hi x => ?_) (fun ws H' x => ?_) vs.length 0 [] H fuel (by lia) (by unfold fuel; lia) ⟨rfl, .refl _⟩
  · simp [nextV, x.2 _ _ h, Nat.le_of_lt hi, hi]
  · simp [nextV, x.2 _ _ h]
  · exact (hs i _ H' (by simp [hi]) x.2).mono fun y H2 q => ⟨by rw [x.1, tab_succ, q.1], x.2.trans q.2⟩
  · rw [x.1]; exact hd H' x.2
theorem m_lstIf {n : Nat} {vs : List V} (p : V → Bool) (hn : vs.length < 1000) (h : H[n]? = some (.list vs))
    (hs : ∀ (i : Nat) v H', vs[i]? = some v → Ext H H' → wT c (ρ.set slot v) H' fun t H1 => t = p v ∧ Ext H' H1 ∧ (wE elt (ρ.set slot v) H1 fun y H2 => y = v ∧ Ext H1 H2)) (hd : ∀ H', Ext H H' → Q (vs.filter p) H') : wM slot (.lst n) (some c) elt ρ H Q := by
  refine comp (fun i => vs.getD i .none) (n := vs.length) (fun i ws H' => ws = (vs.take i).filter p ∧ Ext H H') (fun i ws H' hi x => ?_) (fun ws H' x => ?_) (fun i ws H' hi x => ?_) (fun ws H' x => ?_) vs.length 0 [] H fuel (by lia) (by unfold fuel; lia) ⟨rfl, .refl _⟩
  · simp [nextV, x.2 _ _ h, Nat.le_of_lt hi, hi]
  · simp [nextV, x.2 _ _ h]
  · have hv : vs[i]? = some (vs.getD i .none) := by simp [hi]
    refine (hs i _ H' hv x.2).mono fun t H1 q => ?_
    obtain ⟨rfl, e1, q⟩ := q
    have ht : vs.take (i + 1) = vs.take i ++ [vs.getD i .none] := by rw [List.take_add_one, hv]; rfl
    rw [ht, List.filter_append]
    cases hp : p (vs.getD i .none) with
    | true =>
      refine ifT rfl ?_
      refine q.mono fun y H2 r => ⟨?_, x.2.trans (e1.trans r.2)⟩
      rw [x.1, r.1, List.filter_cons, if_pos hp, List.filter_nil]
    | false =>
      refine ifF (by simp) ?_
      refine ⟨?_, x.2.trans e1⟩
      rw [x.1, List.filter_cons, if_neg (by simp only [hp]; simp), List.filter_nil, List.append_nil]
  · rw [x.1, List.take_length]; exact hd H' x.2
end
theorem whl {t : TM} {body : SM} {Q : Fl → List V → Hp → Prop} (I : Nat → List V → Hp → Prop)
    (hs : ∀ k ρ H, I k ρ H → wT t ρ H fun b H1 => if b then wS body ρ H1 fun f ρ' H' => match f with
        | .next => ∃ j, j < k ∧ I j ρ' H'
        | .cont => ∃ j, j < k ∧ I j ρ' H'
        | .brk => Q .next ρ' H'
        | .ret v => Q (.ret v) ρ' H'
        | .exc _ => False
      else Q .next ρ H1) : ∀ (f k : Nat) (ρ : List V) (H : Hp), k < f → I k ρ H → ∃ fl ρ' H', whileL t body f ρ H = some (fl, ρ', H') ∧ Q fl ρ' H' := by
  intro f
  induction f with
  | zero => intro k ρ H h; lia
  | succ f ih =>
    intro k ρ H hf x
    obtain ⟨b, H1, e1, q⟩ := hs k ρ H x
    cases b with
    | false => exact ⟨.next, ρ, H1, by simp [whileL, e1], q⟩
    | true =>
      obtain ⟨fl, ρ2, H2, e2, q⟩ := q
      cases fl with
      | next =>
        obtain ⟨j, hj, q⟩ := q
        obtain ⟨fl, ρ3, H3, e3, q⟩ := ih j ρ2 H2 (by lia) q
        exact ⟨fl, ρ3, H3, by simp [whileL, e1, e2, e3], q⟩
      | cont =>
        obtain ⟨j, hj, q⟩ := q
        obtain ⟨fl, ρ3, H3, e3, q⟩ := ih j ρ2 H2 (by lia) q
        exact ⟨fl, ρ3, H3, by simp [whileL, e1, e2, e3], q⟩
      | brk => exact ⟨_, _, _, by simp [whileL, e1, e2], q⟩
      | ret v => exact ⟨_, _, _, by simp [whileL, e1, e2], q⟩
      | exc => exact q.elim
theorem w_while {t : TM} {body : SM} {ρ : List V} {H : Hp} {Q : Fl → List V → Hp → Prop} (I : Nat → List V → Hp → Prop) (k : Nat) (hk : k < 1000) (h0 : I k ρ H)
    (hs : ∀ k ρ H, I k ρ H → wT t ρ H fun b H1 => if b then wS body ρ H1 fun f ρ' H' => match f with
        | .next => ∃ j, j < k ∧ I j ρ' H'
        | .cont => ∃ j, j < k ∧ I j ρ' H'
        | .brk => Q .next ρ' H'
        | .ret v => Q (.ret v) ρ' H'
        | .exc _ => False
      else Q .next ρ H1) : wW t body ρ H Q := whl I hs fuel k ρ H (by unfold fuel; lia) h0
local macro_rules | `(tactic| walk_at "x1") => do
  let ts ← ("s_seq s_assign s_if s_expr s_pass s_ret s_retN s_raise s_for s_meth s_call s_setItem s_setAttr s_unpack s_brk s_cont s_augSub e_int e_none e_bool e_sub e_attr e_bin e_neg e_not e_and e_cmp e_if e_list e_tup e_len e_call e_meth e_append e_pop e_copy e_butLast e_get e_listRange e_min2 e_max2 e_max1 e_sum e_sorted e_comp e_dict0 es_cons es_nil i_range1 i_range2 i_rangeDn i_seq t_val t_not t_and t_or t_cmp t_chain b_add b_sub b_band b_bor c_lt c_le c_gt c_ge c_eq c_ne u_bool u_int k_if k_ta k_to k_ch k_and k_eif k_v".splitOn " ").toArray.mapM fun s => `(tactic| with_reducible refine $(Lean.mkIdent s.toName):ident ?_)
  `(tactic| first | refine e_loc rfl ?_ $[| $ts:tactic]*)
local macro_rules | `(tactic| walk_at "x") => `(tactic| repeat (walk_at "x1"))
local macro_rules | `(tactic| walk_at "y") => do
  let ts ← ("g_last in_of l1_of n_tab n_list a_list u_list".splitOn " ").toArray.mapM fun s => `(tactic| refine $(Lean.mkIdent s.toName):ident (by assumption) ?_)
  `(tactic| repeat (first | walk_at "x1" | refine at_of (by assumption) (by rfl) ?_ | refine n_scr ?_ $[| $ts:tactic]*))
local macro_rules | `(tactic| walk_at "z") => `(tactic| repeat (first | with_reducible refine k_v ?_ | with_reducible refine k_if ?_ | with_reducible refine k_ta ?_ | with_reducible refine k_to ?_ | with_reducible refine k_ch ?_ | with_reducible refine k_and ?_ | with_reducible refine k_eif ?_))
local macro_rules | `(tactic| walk_at "w") => `(tactic| first | exact na0 (by lia) | exact na1 (by lia) | exact na3 (by lia) | exact nas (by lia) (by lia) | exact ⟨na1 (by lia), na2 (by lia)⟩ | lia)
structure Tr where
  sz : Nat
  cnt : Nat → Nat
  kid : Nat → Nat → Nat
  va : Nat → Int
  ck : Nat → Bool
  dr : Nat → Bool
  no : Nat → Nat → Bool
  ga : Nat → Nat → Int
structure Tr.Ok (T : Tr) : Prop where
  szl : 8 ≤ T.sz
  szh : T.sz ≤ 12
  cnt : ∀ n, T.cnt n ≤ 3
  kid : ∀ n j, n < T.sz → j < T.cnt n → n < T.kid n j ∧ T.kid n j < T.sz
  val : ∀ n, -50 ≤ T.va n
  vah : ∀ n, T.va n ≤ 50
structure Lay where
  tree : Nat
  ch : Nat
  va : Nat
  ck : Nat
  dr : Nat
  no : Nat
  ga : Nat
  g : Nat
  pa : Nat
  chA : Nat → Nat
  noA : Nat → Nat
  gaA : Nat → Nat
structure TreeAt (H : Hp) (L : Lay) (T : Tr) : Prop where
  tree : H[L.tree]? = some (.tup [.ref L.ch, .ref L.va, .ref L.ck, .ref L.dr, .ref L.no])
  ch : H[L.ch]? = some (.list (tab T.sz fun i => .ref (L.chA i)))
  va : H[L.va]? = some (.list (tab T.sz fun i => .int (T.va i)))
  ck : H[L.ck]? = some (.list (tab T.sz fun i => .bool (T.ck i)))
  dr : H[L.dr]? = some (.list (tab T.sz fun i => .bool (T.dr i)))
  no : H[L.no]? = some (.list (tab T.sz fun i => .ref (L.noA i)))
  chA : ∀ i, i < T.sz → H[L.chA i]? = some (.list (tab (T.cnt i) fun j => .int (T.kid i j)))
  noA : ∀ i, i < T.sz → H[L.noA i]? = some (.list (tab (T.cnt i) fun j => .bool (T.no i j)))
structure GainAt (H : Hp) (L : Lay) (T : Tr) : Prop where
  ga : H[L.ga]? = some (.list (tab T.sz fun i => .ref (L.gaA i)))
  gaA : ∀ i, i < T.sz → H[L.gaA i]? = some (.list (tab (T.cnt i) fun j => .int (T.ga i j)))
theorem TreeAt.mono {H H' : Hp} {L : Lay} {T : Tr} (x : TreeAt H L T) (e : Ext H H') : TreeAt H' L T :=
  ⟨e _ _ x.tree, e _ _ x.ch, e _ _ x.va, e _ _ x.ck, e _ _ x.dr, e _ _ x.no, fun i h => e _ _ (x.chA i h), fun i h => e _ _ (x.noA i h)⟩
theorem GainAt.mono {H H' : Hp} {L : Lay} {T : Tr} (x : GainAt H L T) (e : Ext H H') : GainAt H' L T :=
  ⟨e _ _ x.ga, fun i h => e _ _ (x.gaA i h)⟩
noncomputable def nd (n : Nat) : V := .int (n : Int)
structure GameAt (H : Hp) (L : Lay) (T : Tr) (path : List Nat) (n : Nat) : Prop where
  tr : TreeAt (H.set L.pa .aux) L T
  gn : GainAt (H.set L.pa .aux) L T
  inst : (H.set L.pa .aux)[L.g]? = some (.inst 0 [.ref L.ch, .ref L.va, .ref L.ck, .ref L.dr, .ref L.no, .ref L.ga, .ref L.pa])
  path : H[L.pa]? = some (.list (path.map nd ++ [nd n]))
  lt : n < T.sz
theorem unset {H : Hp} {p n : Nat} {o : O} (e : (H.set p .aux)[n]? = some o) (ne : o ≠ .aux) : H[n]? = some o := by
  by_cases q : p = n
  · subst q
    have hl := (List.getElem?_eq_some_iff.mp e).1
    rw [List.getElem?_set_self (by simpa using hl)] at e
    exact absurd (Option.some.inj e).symm ne
  · rwa [List.getElem?_set_ne q] at e
theorem Ext.under {H H' : Hp} (x : Ext H H') (p : Nat) {o : O} (hp : H[p]? = some o) : Ext (H.set p .aux) (H'.set p .aux) := fun m q e => by
  by_cases k : p = m
  · subst k
    have hl := (List.getElem?_eq_some_iff.mp hp).1
    have hl' := (List.getElem?_eq_some_iff.mp (x _ _ hp)).1
    rw [List.getElem?_set_self hl] at e
    rw [List.getElem?_set_self hl', e]
  · rw [List.getElem?_set_ne k] at e ⊢
    exact x _ _ e
namespace GameAt
variable {H H' : Hp} {L : Lay} {T : Tr} {path : List Nat} {n : Nat}
theorem mono (x : GameAt H L T path n) (e : Ext H H') : GameAt H' L T path n :=
  have e' := e.under L.pa x.path
  ⟨x.tr.mono e', x.gn.mono e', e' _ _ x.inst, e _ _ x.path, x.lt⟩
theorem ins (x : GameAt H L T path n) : H[L.g]? = some (.inst 0 [.ref L.ch, .ref L.va, .ref L.ck, .ref L.dr, .ref L.no, .ref L.ga, .ref L.pa]) := unset x.inst nofun
theorem treeAt (x : GameAt H L T path n) : TreeAt H L T :=
  ⟨unset x.tr.tree nofun, unset x.tr.ch nofun, unset x.tr.va nofun, unset x.tr.ck nofun, unset x.tr.dr nofun, unset x.tr.no nofun, fun i h => unset (x.tr.chA i h) nofun, fun i h => unset (x.tr.noA i h) nofun⟩
theorem gainAt (x : GameAt H L T path n) : GainAt H L T :=
  ⟨unset x.gn.ga nofun, fun i h => unset (x.gn.gaA i h) nofun⟩
theorem setPath (x : GameAt H L T path n) {path' : List Nat} {n' : Nat} (h : n' < T.sz) : GameAt (H.set L.pa (.list (path'.map nd ++ [nd n']))) L T path' n' := by
  have hl := (List.getElem?_eq_some_iff.mp x.path).1
  refine ⟨?_, ?_, ?_, ?_, h⟩
  · rw [List.set_set]; exact x.tr
  · rw [List.set_set]; exact x.gn
  · rw [List.set_set]; exact x.inst
  · rw [List.getElem?_set_self hl]
theorem back (x : GameAt H L T path n) {o : O} {H' : Hp} (e : Ext (H.set L.pa o) H') : Ext H (H'.set L.pa (.list (path.map nd ++ [nd n]))) := fun m q hm => by
  have hl := (List.getElem?_eq_some_iff.mp x.path).1
  have hl' : L.pa < H'.length := by have := e.len; simp at this; lia
  by_cases k : L.pa = m
  · subst k
    rw [List.getElem?_set_self hl', ← hm, x.path]
  · rw [List.getElem?_set_ne k]
    exact e _ _ (by rw [List.getElem?_set_ne k]; exact hm)
theorem isIn (x : GameAt H L T path n) {P : Prop} (q : P) : wIn 0 (.ref L.g) H P := in_of x.ins q
section
variable {Q : FR → Hp → Prop}
theorem value (x : GameAt H L T path n) (q : Q (.ret (.int (T.va n))) H) : wF f_TreeGame_value [.ref L.g] H Q := by
  have i := x.ins
  have p := x.path
  refine f_mk rfl ?_
  unfold b_TreeGame_value
  walk_at "y"
  exact g_tab x.treeAt.va n rfl x.lt q
theorem in_check (x : GameAt H L T path n) (q : Q (.ret (.bool (T.ck n))) H) : wF f_TreeGame_in_check [.ref L.g] H Q := by
  have i := x.ins
  have p := x.path
  refine f_mk rfl ?_
  unfold b_TreeGame_in_check
  walk_at "y"
  exact g_tab x.treeAt.ck n rfl x.lt q
theorem is_draw (x : GameAt H L T path n) (q : Q (.ret (.bool (T.dr n))) H) : wF f_TreeGame_is_draw [.ref L.g] H Q := by
  have i := x.ins
  have p := x.path
  refine f_mk rfl ?_
  unfold b_TreeGame_is_draw
  walk_at "y"
  exact g_tab x.treeAt.dr n rfl x.lt q
theorem key (x : GameAt H L T path n) (q : Q (.ret (.int (n + 1))) H) : wF f_TreeGame_key [.ref L.g] H Q := by
  have i := x.ins
  have p := x.path
  refine f_mk rfl ?_
  unfold b_TreeGame_key
  walk_at "y"
  exact b_add q
theorem side (x : GameAt H L T path n) (q : Q (.ret (.int (Builtin.bitAnd path.length 1))) H) : wF f_TreeGame_side [.ref L.g] H Q := by
  have i := x.ins
  have p := x.path
  refine f_mk rfl ?_
  unfold b_TreeGame_side
  walk_at "y"
  have e : (((path.map nd ++ [nd n]).length : Nat) : Int) - 1 = path.length := by simp
  rw [e]
  exact q
theorem is_noisy (x : GameAt H L T path n) {e : Int} (j : Nat) (he : e = j + 1) (hj : j < T.cnt n) (q : Q (.ret (.bool (T.no n j))) H) : wF f_TreeGame_is_noisy [.ref L.g, .int e] H Q := by
  have i := x.ins
  have p := x.path
  refine f_mk rfl ?_
  unfold b_TreeGame_is_noisy
  walk_at "y"
  refine g_tab x.treeAt.no n rfl x.lt ?_
  walk_at "y"
  exact g_tab (x.treeAt.noA n x.lt) j (by lia) hj q
theorem gain (x : GameAt H L T path n) {e : Int} (j : Nat) (he : e = j + 1) (hj : j < T.cnt n) (q : Q (.ret (.int (T.ga n j))) H) : wF f_TreeGame_gain [.ref L.g, .int e] H Q := by
  have i := x.ins
  have p := x.path
  refine f_mk rfl ?_
  unfold b_TreeGame_gain
  walk_at "y"
  refine g_tab x.gainAt.ga n rfl x.lt ?_
  walk_at "y"
  exact g_tab (x.gainAt.gaA n x.lt) j (by lia) hj q
theorem moves (x : GameAt H L T path n) (ok : T.Ok) (q : ∀ k H', New H H' k (.list (tab (T.cnt n) fun (i : Nat) => V.int (1 + (i : Int)))) → Q (.ret (.ref k)) H') : wF f_TreeGame_moves [.ref L.g] H Q := by
  have i := x.ins
  have p := x.path
  have c := ok.cnt n
  refine f_mk rfl ?_
  unfold b_TreeGame_moves
  walk_at "y"
  refine g_tab x.treeAt.ch n rfl x.lt ?_
  refine n_tab (x.treeAt.chA n x.lt) ?_
  walk_at "y"
  refine ⟨⟨by walk_at "w", by walk_at "w"⟩, fun k H' N => ?_⟩
  rw [show ((T.cnt n : Int) + 1) = 1 + (T.cnt n : Nat) from by lia, rangeL_tab] at N
  exact q k H' N
theorem noisy (x : GameAt H L T path n) (ok : T.Ok) (q : ∀ k H', New H H' k (.list (((List.range (T.cnt n)).filter (T.no n)).map fun (i : Nat) => V.int (1 + (i : Int)))) → Q (.ret (.ref k)) H') : wF f_TreeGame_noisy [.ref L.g] H Q := by
  have i := x.ins
  have c := ok.cnt n
  refine f_mk rfl ?_
  unfold b_TreeGame_noisy
  walk_at "y"
  refine x.moves ok fun k H1 N1 => ?_
  refine seq_lst N1.is ?_
  refine comp (fun (i : Nat) => V.int (1 + (i : Int))) (n := T.cnt n) (fun i vs H' => vs = ((List.range i).filter (T.no n)).map (fun (i : Nat) => V.int (1 + (i : Int))) ∧ Ext H1 H') (fun i vs H hi z => ?_) (fun vs H z => ?_) (fun i vs H' hi z => ?_) (fun vs H' z => ?_) (T.cnt n) 0 [] H1 fuel (by lia) (by unfold fuel; lia) ⟨rfl, .refl _⟩
  · simp [nextV, z.2 _ _ N1.is, tab_len, Nat.le_of_lt hi, tab_get _ hi]
  · simp [nextV, z.2 _ _ N1.is, tab_len]
  · have y := (x.mono N1.ext).mono z.2
    have i := y.ins
    show wT _ _ _ _
    walk_at "y"
    refine y.is_noisy _ (by lia) hi ?_
    walk_at "y"
    rw [List.range_succ, List.filter_append, List.map_append]
    cases hp : T.no n _ with
    | true =>
      refine ifT rfl ?_
      walk_at "y"
      refine ⟨?_, z.2⟩
      rw [z.1, List.filter_cons, if_pos hp]; rfl
    | false =>
      refine ifF (by simp) ?_
      refine ⟨?_, z.2⟩
      rw [z.1, List.filter_cons, if_neg (by simp [hp]), List.filter_nil, List.map_nil, List.append_nil]
  · intro m H2 N2
    refine q m H2 ⟨N1.ext.trans (z.2.trans N2.ext), by rw [N2.is, z.1], ?_⟩
    have := N1.ext.len; have := z.2.len; have := N2.ge; lia
theorem make (x : GameAt H L T path n) (ok : T.Ok) {e : Int} (j : Nat) (he : e = j + 1) (hj : j < T.cnt n) (hl : path.length < 1000) (q : Q (.ret .none) (H.set L.pa (.list ((path ++ [n]).map nd ++ [nd (T.kid n j)])))) : wF f_TreeGame_make [.ref L.g, .int e] H Q := by
  have i := x.ins
  have p := x.path
  have hc := x.treeAt.chA n x.lt
  refine f_mk rfl ?_
  unfold b_TreeGame_make
  walk_at "y"
  refine g_tab x.treeAt.ch n rfl x.lt ?_
  walk_at "y"
  refine ifF (by simp; lia) ?_
  walk_at "y"
  refine ifF (by simp; lia) ?_
  walk_at "y"
  refine g_tab hc j (by lia) hj ?_
  refine push_of p (by simp; lia) ?_
  rw [List.map_append] at q
  exact q
theorem makeBad (x : GameAt H L T path n) {e : Int} (he : e < 1 ∨ (T.cnt n : Int) < e) (q : Q (.exc 1) H) : wF f_TreeGame_make [.ref L.g, .int e] H Q := by
  have i := x.ins
  have p := x.path
  have hc := x.treeAt.chA n x.lt
  refine f_mk rfl ?_
  unfold b_TreeGame_make
  walk_at "y"
  refine g_tab x.treeAt.ch n rfl x.lt ?_
  walk_at "y"
  by_cases h1 : e < 1
  · refine ifT (by simp; lia) ?_
    refine k_if ?_; refine ifT rfl ?_
    walk_at "y"
    exact q
  · refine ifF (by simp; lia) ?_
    walk_at "y"
    refine ifT (by simp; lia) ?_
    walk_at "y"
    exact q
theorem undo {m : Nat} (x : GameAt H L T (path ++ [m]) n) (q : Q (.ret .none) (H.set L.pa (.list (path.map nd ++ [nd m])))) : wF f_TreeGame_undo [.ref L.g] H Q := by
  have i := x.ins
  have p := x.path
  refine f_mk rfl ?_
  unfold b_TreeGame_undo
  walk_at "y"
  refine ifF (by simp; lia) ?_
  walk_at "y"
  rw [List.map_append] at p
  refine pop_of p q
theorem undoBad (x : GameAt H L T [] n) (q : Q (.exc 1) H) : wF f_TreeGame_undo [.ref L.g] H Q := by
  have i := x.ins
  have p := x.path
  refine f_mk rfl ?_
  unfold b_TreeGame_undo
  walk_at "y"
  refine ifT (by simp) ?_
  walk_at "y"
  exact q
end
end GameAt
namespace Tr
variable (T : Tr)
noncomputable def kids (n : Nat) : List Nat := (List.range (T.cnt n)).map (T.kid n)
noncomputable def nkids (n : Nat) : List Nat := ((List.range (T.cnt n)).filter (T.no n)).map (T.kid n)
noncomputable def quie : Nat → Nat → Nat → Int
  | 0, p, n => if 0 < p ∧ T.dr n = true then 0 else if T.ck n = true then (if T.cnt n = 0 then (p : Int) - 32000 else T.va n) else T.va n
  | q + 1, p, n => if 0 < p ∧ T.dr n = true then 0 else if T.ck n = true then (if T.cnt n = 0 then (p : Int) - 32000 else maxI (-32001) ((T.kids n).map fun k => -quie q (p + 1) k)) else maxI (T.va n) ((T.nkids n).map fun k => -quie q (p + 1) k)
noncomputable def nega (q : Nat) : Nat → Nat → Nat → Int
  | 0, p, n => T.quie q p n
  | d + 1, p, n => if 0 < p ∧ T.dr n = true then 0 else if T.cnt n = 0 then (if T.ck n = true then (p : Int) - 32000 else 0) else maxI (-32001) ((T.kids n).map fun k => -nega q d (p + 1) k)
end Tr
theorem maxI_snoc (v : Int) : ∀ (l : List Int) (b : Int), maxI b (l ++ [v]) = if v > maxI b l then v else maxI b l
  | [], b => rfl
  | i :: r, b => by
    show maxI _ (r ++ [v]) = _
    rw [maxI_snoc v r]; rfl
section
variable {H : Hp} {L : Lay} {T : Tr} {path : List Nat} {n : Nat} {Q : FR → Hp → Prop}
theorem GameAt.max_loop (x : GameAt H L T path n) (ok : T.Ok) (hp : path.length < 900) {Q : Fl → List V → Hp → Prop} {ρ : List V} {k sm sb sv : Nat} {js : List Nat} {g : Nat → Int} {b0 : Int} {ec : EM}
    (hl : H[k]? = some (.list (js.map fun (j : Nat) => V.int (1 + (j : Int))))) (hj : ∀ j ∈ js, j < T.cnt n) (hjl : js.length < 1000)
    (h0 : locV ρ 0 = some (.ref L.g)) (hb : locV ρ sb = some (.int b0)) (hn : 0 < ρ.length ∧ sm < ρ.length ∧ sb < ρ.length ∧ sv < ρ.length) (d1 : sm ≠ 0 ∧ sb ≠ 0 ∧ sv ≠ 0) (d2 : sm ≠ sb ∧ sm ≠ sv ∧ sb ≠ sv)
    (hc : ∀ j ρ' H', j ∈ js → GameAt H' L T (path ++ [n]) (T.kid n j) → (∀ s, s ≠ sm → s ≠ sb → s ≠ sv → locV ρ' s = locV ρ s) → wE ec ρ' H' fun v H2 => v = .int (g j) ∧ Ext H' H2)
    (hQ : ∀ ρ' H', locV ρ' sb = some (.int (maxI b0 (js.map fun j => -g j))) → Ext H H' → Q .next ρ' H') :
    wL sm (.lst k) (sSeq (sMeth 0 f_TreeGame_make (eLoc 0) [(eLoc sm)]) (sSeq (sAssign sv (eNeg ec)) (sSeq (sMeth 0 f_TreeGame_undo (eLoc 0) []) (sIf (tCmp .gt (eLoc sv) (eLoc sb)) (sAssign sb (eLoc sv)) sPass)))) ρ H Q := by
  have lset : ∀ {ρ : List V} {s : Nat} {v : V}, s < ρ.length → v ≠ .undef → locV (ρ.set s v) s = some v := fun {ρ s v} h hv => by
    unfold locV
    rw [List.getElem?_set_self h]
    cases v <;> first | rfl | exact absurd rfl hv
  have lne : ∀ {ρ : List V} {s t : Nat} {v : V}, s ≠ t → locV (ρ.set s v) t = locV ρ t := fun {ρ s t v} h => by
    unfold locV
    rw [List.getElem?_set_ne h]
  refine l_lst (vs := js.map fun (j : Nat) => V.int (1 + (j : Int))) (fun i ρ' H' => Ext H H' ∧ ρ'.length = ρ.length ∧ locV ρ' sb = some (.int (maxI b0 ((js.take i).map fun j => -g j))) ∧ ∀ s, s ≠ sm → s ≠ sb → s ≠ sv → locV ρ' s = locV ρ s) (by simpa using hjl) (fun i ρ' H' z => z.1 _ _ hl) ⟨.refl _, rfl, by rw [List.take_zero]; exact hb, fun _ _ _ _ => rfl⟩ (fun i v ρ' H' hv z => ?_) (fun ρ' H' z => ?_)
  · refine x0_4 z fun e hlen hbest hsame => ?_
    clear z
    obtain ⟨j, hj1, rfl⟩ : ∃ j, js[i]? = some j ∧ v = V.int (1 + (j : Int)) := by
      rw [List.getElem?_map] at hv
      cases q : js[i]? with
      | none => rw [q] at hv; cases hv
      | some j => rw [q] at hv; exact ⟨j, rfl, (Option.some.inj hv).symm⟩
    have hjm : j ∈ js := List.mem_of_getElem? hj1
    have y := x.mono e
    have l0 : ∀ {v w : V}, locV ((ρ'.set sm v).set sv w) 0 = some (.ref L.g) := fun {v w} => by rw [lne d1.2.2, lne d1.1, hsame 0 d1.1.symm d1.2.1.symm d1.2.2.symm, h0]
    refine s_seq (s_meth (e_loc (by rw [lne d1.1, hsame 0 d1.1.symm d1.2.1.symm d1.2.2.symm, h0]) (y.isIn (es_cons (e_loc (lset (by lia) nofun) (es_nil (y.make ok j (by lia) (hj j hjm) (by lia) ?_)))))))
    have y1 := y.setPath (path' := path ++ [n]) (ok.kid n j x.lt (hj j hjm)).2
    refine s_seq (s_assign (e_neg ((hc j _ _ hjm y1 fun s h1 h2 h3 => by rw [lne h1.symm, hsame s h1 h2 h3]).mono fun v H2 r => ?_)))
    refine x0_2 r fun o1 e2 => ?_
    clear r
    subst o1
    have y2 := y1.mono e2
    refine s_seq (s_meth (e_loc l0 (y2.isIn (es_nil (y2.undo ?_)))))
    have e3 := e.trans (y.back e2)
    have hm : (js.take (i + 1)).map (fun j => -g j) = (js.take i).map (fun j => -g j) ++ [-g j] := by
      rw [List.take_add_one, hj1]; simp
    refine s_if (t_cmp (e_loc (lset (by simp; lia) nofun) (e_loc (by rw [lne d2.2.2.symm, lne d2.1, hbest]) (c_gt ?_))))
    by_cases c : maxI b0 ((js.take i).map fun j => -g j) < -g j
    · walk_at "z"; refine ifT (decide_eq_true c) ?_
      refine s_assign (e_loc (lset (by simp; lia) nofun) ⟨e3, by simp [hlen], ?_, fun s h1 h2 h3 => ?_⟩)
      · rw [hm, maxI_snoc, if_pos c]
        exact lset (by simp; lia) nofun
      · rw [lne h2.symm, lne h3.symm, lne h1.symm, hsame s h1 h2 h3]
    · walk_at "z"; refine ifF (by walk_at "z"; rw [decide_eq_false c]; nofun) ?_
      refine s_pass ⟨e3, by simp [hlen], ?_, fun s h1 h2 h3 => ?_⟩
      · rw [hm, maxI_snoc, if_neg c, lne d2.2.2.symm, lne d2.1, hbest]
      · rw [lne h3.symm, lne h1.symm, hsame s h1 h2 h3]
  · refine hQ ρ' H' ?_ z.1
    rw [z.2.2.1]; simp
theorem New.ne {H H' : Hp} {k : Nat} {o : O} (N : New H H' k o) {p : Nat} {o' : O} (h : H[p]? = some o') : k ≠ p := fun e => by
  have := (List.getElem?_eq_some_iff.mp h).1
  have := N.ge; lia
theorem GameAt.t_draw {ρ : List V} {s : Nat} {p : Nat} {Q : Bool → Hp → Prop} (x : GameAt H L T path n) (h0 : locV ρ 0 = some (.ref L.g)) (h1 : locV ρ s = some (.int p)) (q : Q (decide (0 < p ∧ T.dr n = true)) H) :
    wT (tAnd (tCmp .gt (eLoc s) (eInt 0)) (tVal (eMeth 0 f_TreeGame_is_draw (eLoc 0) []))) ρ H Q := by
  refine t_and (t_cmp (e_loc h1 (e_int (c_gt ?_))))
  by_cases h : 0 < p
  · walk_at "z"; refine ifT (decide_eq_true (by lia)) ?_
    refine t_val (e_meth (e_loc h0 (x.isIn (es_nil (x.is_draw (u_bool ?_))))))
    have e : decide (0 < p ∧ T.dr n = true) = T.dr n := by cases T.dr n <;> simp [h]
    rw [e] at q; exact q
  · walk_at "z"; refine ifF (by walk_at "z"; rw [decide_eq_false (by lia)]; nofun) ?_
    have e : decide (0 < p ∧ T.dr n = true) = false := by simp [h]
    rw [e] at q; exact q
theorem GameAt.t_check {ρ : List V} {Q : Bool → Hp → Prop} (x : GameAt H L T path n) (h0 : locV ρ 0 = some (.ref L.g)) (q : Q (T.ck n) H) :
    wT (tVal (eMeth 0 f_TreeGame_in_check (eLoc 0) [])) ρ H Q :=
  t_val (e_meth (e_loc h0 (x.isIn (es_nil (x.in_check (u_bool q))))))
theorem mated {i : Int} (q : Q (.ret (.int (i - 32000))) H) : wF f_mated_in [.int i] H Q := by
  refine f_mk rfl ?_
  unfold b_mated_in
  walk_at "y"
  exact q
theorem kids_map (T : Tr) (n : Nat) (g : Nat → Int) : (List.range (T.cnt n)).map (fun j => -g (T.kid n j)) = (T.kids n).map fun k => -g k := by simp [Tr.kids]
theorem nkids_map (T : Tr) (n : Nat) (g : Nat → Int) : ((List.range (T.cnt n)).filter (T.no n)).map (fun j => -g (T.kid n j)) = (T.nkids n).map fun k => -g k := by simp [Tr.nkids]
theorem quiesce (ok : T.Ok) : ∀ (q f : Nat) {H : Hp} {path : List Nat} {n : Nat} {Q : FR → Hp → Prop}, q < f → GameAt H L T path n → path.length + q < 900 →
    (∀ H', Ext H H' → Q (.ret (.int (T.quie q path.length n))) H') → wF (f_plain_quiesce f) [.ref L.g, .int path.length, .int q] H Q := by
  intro q
  induction q with
  | zero =>
    intro f H path n Q hf x hp k
    obtain ⟨f, rfl⟩ : ∃ g, f = g + 1 := ⟨f - 1, by lia⟩
    have i := x.ins
    have cn := ok.cnt n
    refine f_mk rfl ?_
    unfold b_plain_quiesce
    unfold Tr.quie at k
    refine s_seq (s_if (x.t_draw rfl rfl ?_))
    by_cases h1 : 0 < path.length ∧ T.dr n = true
    · walk_at "z"; refine ifT (decide_eq_true h1) ?_
      rw [if_pos h1] at k
      walk_at "y"
      exact k _ (.refl _)
    · walk_at "z"; refine ifF (by walk_at "z"; rw [decide_eq_false h1]; nofun) ?_
      rw [if_neg h1] at k
      walk_at "y"
      refine x.in_check ?_
      walk_at "y"
      by_cases h2 : T.ck n = true
      · refine ifT h2 ?_
        rw [if_pos h2] at k
        walk_at "y"
        refine x.moves ok fun m H1 N1 => ?_
        have y := x.mono N1.ext
        have i := y.ins
        walk_at "y"
        refine u_list N1.is ?_
        rw [tab_nil_iff]
        by_cases h3 : T.cnt n = 0
        · walk_at "z"; refine ifT (by simp [h3]) ?_
          rw [if_pos h3] at k
          walk_at "y"
          refine mated ?_
          exact k _ N1.ext
        · walk_at "z"; refine ifF (by simp [h3]) ?_
          rw [if_neg h3] at k
          walk_at "y"
          refine ifT (by simp) ?_
          walk_at "y"
          refine y.value ?_
          exact k _ N1.ext
      · refine ifF h2 ?_
        rw [if_neg h2] at k
        walk_at "y"
        refine x.value ?_
        walk_at "y"
        refine ifT (by simp) ?_
        walk_at "y"
        exact k _ (.refl _)
  | succ q ih =>
    intro f H path n Q hf x hp k
    obtain ⟨f, rfl⟩ : ∃ g, f = g + 1 := ⟨f - 1, by lia⟩
    have i := x.ins
    have cn := ok.cnt n
    refine f_mk rfl ?_
    unfold b_plain_quiesce
    unfold Tr.quie at k
    refine s_seq (s_if (x.t_draw rfl rfl ?_))
    by_cases h1 : 0 < path.length ∧ T.dr n = true
    · walk_at "z"; refine ifT (decide_eq_true h1) ?_
      rw [if_pos h1] at k
      walk_at "y"
      exact k _ (.refl _)
    · walk_at "z"; refine ifF (by walk_at "z"; rw [decide_eq_false h1]; nofun) ?_
      rw [if_neg h1] at k
      walk_at "y"
      refine x.in_check ?_
      walk_at "y"
      have rec_ : ∀ {ρ0 : List V} (j : Nat) (ρ' : List V) (H' : Hp), locV ρ0 0 = some (.ref L.g) → locV ρ0 1 = some (.int path.length) → locV ρ0 2 = some (.int ((q + 1 : Nat) : Int)) → j < T.cnt n → GameAt H' L T (path ++ [n]) (T.kid n j) → (∀ s, s ≠ 5 → s ≠ 4 → s ≠ 6 → locV ρ' s = locV ρ0 s) →
          wE (eCall (f_plain_quiesce f) [eLoc 0, eBin .add (eLoc 1) (eInt 1), eBin .sub (eLoc 2) (eInt 1)]) ρ' H' fun v H2 => v = .int (T.quie q (path.length + 1) (T.kid n j)) ∧ Ext H' H2 := by
        intro ρ0 j ρ' H' a1 a2 a3 hj y hs
        refine e_call (es_cons (e_loc ((hs 0 (by decide) (by decide) (by decide)).trans a1) (es_cons (e_bin (e_loc ((hs 1 (by decide) (by decide) (by decide)).trans a2) (e_int (b_add (es_cons (e_bin (e_loc ((hs 2 (by decide) (by decide) (by decide)).trans a3) (e_int (b_sub (es_nil ?_)))))))))))))
        have e1 : ((path.length : Int) + 1) = ((path ++ [n]).length : Nat) := by simp
        have e2 : (((q + 1 : Nat) : Int) - 1) = (q : Nat) := by lia
        rw [e1, e2]
        refine ih f (by lia) y (by simp; lia) fun H2 e => ⟨?_, e⟩
        simp
      by_cases h2 : T.ck n = true
      · refine ifT h2 ?_
        rw [if_pos h2] at k
        walk_at "y"
        refine x.moves ok fun m H1 N1 => ?_
        have y := x.mono N1.ext
        have i := y.ins
        walk_at "y"
        refine u_list N1.is ?_
        rw [tab_nil_iff]
        by_cases h3 : T.cnt n = 0
        · walk_at "z"; refine ifT (by simp [h3]) ?_
          rw [if_pos h3] at k
          walk_at "y"
          refine mated ?_
          exact k _ N1.ext
        · walk_at "z"; refine ifF (by simp [h3]) ?_
          rw [if_neg h3] at k
          walk_at "y"
          refine ifF (by first | (simp; done) | (simp; lia)) ?_
          walk_at "y"
          refine seq_lst N1.is ?_
          refine y.max_loop ok (by lia) (js := List.range (T.cnt n)) (g := fun j => T.quie q (path.length + 1) (T.kid n j)) (b0 := -32001) N1.is (by simp) (by simp; lia) rfl rfl (by simp) (by decide) (by decide) (fun j ρ' H' hj y hs => rec_ j ρ' H' rfl rfl rfl (by simpa using hj) y hs) (fun ρ' H' hb e => ?_)
          rw [kids_map T n (fun k => T.quie q (path.length + 1) k)] at hb
          exact s_ret (e_loc hb (k _ (N1.ext.trans e)))
      · refine ifF h2 ?_
        rw [if_neg h2] at k
        walk_at "y"
        refine x.value ?_
        walk_at "y"
        refine ifF (by first | (simp; done) | (simp; lia)) ?_
        walk_at "y"
        refine x.noisy ok fun m H1 N1 => ?_
        have y := x.mono N1.ext
        walk_at "y"
        refine seq_lst N1.is ?_
        refine y.max_loop ok (by lia) (js := (List.range (T.cnt n)).filter (T.no n)) (g := fun j => T.quie q (path.length + 1) (T.kid n j)) (b0 := T.va n) N1.is (by simp; intro j h _; exact h) (by have := List.length_filter_le (T.no n) (List.range (T.cnt n)); simp at this; lia) rfl rfl (by simp) (by decide) (by decide) (fun j ρ' H' hj y hs => rec_ j ρ' H' rfl rfl rfl (by simp at hj; exact hj.1) y hs) (fun ρ' H' hb e => ?_)
        rw [nkids_map T n (fun k => T.quie q (path.length + 1) k)] at hb
        exact s_ret (e_loc hb (k _ (N1.ext.trans e)))
theorem negamax (ok : T.Ok) (q : Nat) (hq : q < 10) : ∀ (d f : Nat) {H : Hp} {path : List Nat} {n : Nat} {Q : FR → Hp → Prop}, d < f → GameAt H L T path n → path.length + d + q < 900 →
    (∀ H', Ext H H' → Q (.ret (.int (T.nega q d path.length n))) H') → wF (f_negamax f) [.ref L.g, .int d, .int path.length, .int q] H Q := by
  intro d
  induction d with
  | zero =>
    intro f H path n Q hf x hp k
    obtain ⟨f, rfl⟩ : ∃ g, f = g + 1 := ⟨f - 1, by lia⟩
    have i := x.ins
    refine f_mk rfl ?_
    unfold b_negamax
    unfold Tr.nega at k
    refine s_seq (s_if (x.t_draw rfl rfl ?_))
    by_cases h1 : 0 < path.length ∧ T.dr n = true
    · walk_at "z"; refine ifT (decide_eq_true h1) ?_
      walk_at "y"
      have e : T.quie q path.length n = 0 := by cases q <;> simp [Tr.quie, h1.1, h1.2]
      rw [e] at k
      exact k _ (.refl _)
    · walk_at "z"; refine ifF (by walk_at "z"; rw [decide_eq_false h1]; nofun) ?_
      walk_at "y"
      refine ifT (by simp) ?_
      walk_at "y"
      exact quiesce ok q 10 hq x (by lia) k
  | succ d ih =>
    intro f H path n Q hf x hp k
    obtain ⟨f, rfl⟩ : ∃ g, f = g + 1 := ⟨f - 1, by lia⟩
    have i := x.ins
    have cn := ok.cnt n
    refine f_mk rfl ?_
    unfold b_negamax
    unfold Tr.nega at k
    refine s_seq (s_if (x.t_draw rfl rfl ?_))
    by_cases h1 : 0 < path.length ∧ T.dr n = true
    · walk_at "z"; refine ifT (decide_eq_true h1) ?_
      rw [if_pos h1] at k
      walk_at "y"
      exact k _ (.refl _)
    · walk_at "z"; refine ifF (by walk_at "z"; rw [decide_eq_false h1]; nofun) ?_
      rw [if_neg h1] at k
      walk_at "y"
      refine ifF (by first | (simp; done) | (simp; lia)) ?_
      walk_at "y"
      refine x.moves ok fun m H1 N1 => ?_
      have y := x.mono N1.ext
      have i := y.ins
      walk_at "y"
      refine u_list N1.is ?_
      rw [tab_nil_iff]
      by_cases h3 : T.cnt n = 0
      · walk_at "z"; refine ifT (by simp [h3]) ?_
        rw [if_pos h3] at k
        walk_at "y"
        refine f_mk rfl ?_
        unfold b_end_value
        refine s_seq (s_if (y.t_check rfl ?_))
        by_cases h2 : T.ck n = true
        · walk_at "z"; refine ifT h2 ?_
          rw [if_pos h2] at k
          walk_at "y"
          refine mated ?_
          exact k _ N1.ext
        · walk_at "z"; refine ifF h2 ?_
          rw [if_neg h2] at k
          walk_at "y"
          exact k _ N1.ext
      · walk_at "z"; refine ifF (by simp [h3]) ?_
        rw [if_neg h3] at k
        walk_at "y"
        refine seq_lst N1.is ?_
        refine y.max_loop ok (by lia) (js := List.range (T.cnt n)) (g := fun j => T.nega q d (path.length + 1) (T.kid n j)) (b0 := -32001) N1.is (by simp) (by simp; lia) rfl rfl (by simp) (by decide) (by decide) (fun j ρ' H' hj y hs => ?_) (fun ρ' H' hb e => ?_)
        · have hj : j < T.cnt n := by simpa using hj
          refine e_call (es_cons (e_loc ((hs 0 (by decide) (by decide) (by decide)).trans rfl) ?_))
          refine es_cons (e_bin (e_loc ((hs 1 (by decide) (by decide) (by decide)).trans rfl) (e_int (b_sub ?_))))
          refine es_cons (e_bin (e_loc ((hs 2 (by decide) (by decide) (by decide)).trans rfl) (e_int (b_add ?_))))
          refine es_cons (e_loc ((hs 3 (by decide) (by decide) (by decide)).trans rfl) (es_nil ?_))
          have e1 : ((path.length : Int) + 1) = ((path ++ [n]).length : Nat) := by simp
          have e2 : (((d + 1 : Nat) : Int) - 1) = (d : Nat) := by lia
          rw [e1, e2]
          refine ih f (by lia) y (by simp; lia) fun H2 e => ⟨?_, e⟩
          simp
        · rw [kids_map T n (fun k => T.nega q d (path.length + 1) k)] at hb
          exact s_ret (e_loc hb (k _ (N1.ext.trans e)))
end
noncomputable def Tr.at_ (T : Tr) (js : List Nat) : Nat := js.foldl T.kid 0
noncomputable def Tr.pth (T : Tr) (js : List Nat) (i : Nat) : List Nat := tab i fun i => T.at_ (js.take i)
noncomputable def Line (T : Tr) (js : List Nat) : Prop := ∀ (i j : Nat), js[i]? = some j → j < T.cnt (T.at_ (js.take i))
theorem at_snoc (T : Tr) (js : List Nat) (j : Nat) : T.at_ (js ++ [j]) = T.kid (T.at_ js) j := by simp [Tr.at_]
theorem at_succ (T : Tr) {js : List Nat} {i j : Nat} (h : js[i]? = some j) : T.at_ (js.take (i + 1)) = T.kid (T.at_ (js.take i)) j := by
  rw [List.take_add_one, h]
  exact at_snoc T _ j
theorem Line.lt {T : Tr} (ok : T.Ok) {js : List Nat} (l : Line T js) : ∀ i, i ≤ js.length → T.at_ (js.take i) < T.sz
  | 0, _ => by have := ok.szl; simp [Tr.at_]; lia
  | i + 1, h => by
    have hi : i < js.length := h
    have e : js[i]? = some js[i] := List.getElem?_eq_getElem hi
    rw [at_succ T e]
    exact (ok.kid _ _ (l.lt ok i (by lia)) (l i _ e)).2
theorem Line.lt' {T : Tr} (ok : T.Ok) {js : List Nat} (l : Line T js) : T.at_ js < T.sz := by
  have := l.lt ok js.length (Nat.le_refl _)
  rwa [List.take_length] at this
theorem pth_succ (T : Tr) (js : List Nat) (i : Nat) : T.pth js (i + 1) = T.pth js i ++ [T.at_ (js.take i)] := tab_succ _ _
theorem pth_len (T : Tr) (js : List Nat) (i : Nat) : (T.pth js i).length = i := tab_len _ _
noncomputable def mv (j : Nat) : V := .int ((j : Int) + 1)
theorem loc_set {ρ : List V} {s : Nat} {v : V} (h : s < ρ.length) (hv : v ≠ .undef) : locV (ρ.set s v) s = some v := by
  unfold locV
  rw [List.getElem?_set_self h]
  cases v <;> first | rfl | exact absurd rfl hv
theorem loc_ne {ρ : List V} {s t : Nat} {v : V} (h : s ≠ t) : locV (ρ.set s v) t = locV ρ t := by
  unfold locV
  rw [List.getElem?_set_ne h]
theorem map_get {α β : Type} {f : α → β} {l : List α} {i : Nat} {v : β} (h : (l.map f)[i]? = some v) : ∃ j, l[i]? = some j ∧ v = f j := by
  rw [List.getElem?_map] at h
  cases q : l[i]? with
  | none => rw [q] at h; cases h
  | some j => rw [q] at h; exact ⟨j, rfl, (Option.some.inj h).symm⟩
theorem set_id {H : Hp} {p : Nat} {o : O} (h : H[p]? = some o) : H.set p o = H := by
  refine List.ext_getElem? fun i => ?_
  by_cases e : p = i
  · subst e
    rw [List.getElem?_set_self (List.getElem?_eq_some_iff.mp h).1, h]
  · rw [List.getElem?_set_ne e]
noncomputable def pathO (T : Tr) (js : List Nat) (i : Nat) : O := .list ((T.pth js i).map nd ++ [nd (T.at_ (js.take i))])
section
variable {H : Hp} {L : Lay} {T : Tr} {path : List Nat} {n : Nat}
theorem GameAt.setLine (x : GameAt H L T path n) (ok : T.Ok) {js : List Nat} (l : Line T js) {i : Nat} (hi : i ≤ js.length) : GameAt (H.set L.pa (pathO T js i)) L T (T.pth js i) (T.at_ (js.take i)) := x.setPath (l.lt ok i hi)
theorem GameAt.step (ok : T.Ok) {js : List Nat} (l : Line T js) (hl : js.length < 100) {i j : Nat} (hj : js[i]? = some j) (x : GameAt H L T (T.pth js i) (T.at_ (js.take i))) {Q : FR → Hp → Prop} (q : Q (.ret .none) (H.set L.pa (pathO T js (i + 1)))) :
    wF f_TreeGame_make [.ref L.g, mv j] H Q := by
  have hi : i < js.length := (List.getElem?_eq_some_iff.mp hj).1
  refine x.make ok j rfl (l i j hj) (by rw [pth_len]; lia) ?_
  rw [← pth_succ, ← at_succ T hj]
  exact q
theorem GameAt.unstep {js : List Nat} {i : Nat} (x : GameAt H L T (T.pth js (i + 1)) n) {Q : FR → Hp → Prop} (q : Q (.ret .none) (H.set L.pa (pathO T js i))) :
    wF f_TreeGame_undo [.ref L.g] H Q := by
  rw [pth_succ] at x
  exact x.undo q
theorem make_loop (ok : T.Ok) {js : List Nat} (x : GameAt H L T [] 0) (l : Line T js) (hl : js.length < 100) {Q : Fl → List V → Hp → Prop} {ρ : List V} {k s : Nat}
    (hk : H[k]? = some (.list (js.map mv))) (hne : k ≠ L.pa) (h0 : locV ρ 0 = some (.ref L.g)) (hs : s ≠ 0) (hs' : s < ρ.length)
    (hQ : ∀ ρ', ρ'.length = ρ.length → (∀ t, t ≠ s → locV ρ' t = locV ρ t) → Q .next ρ' (H.set L.pa (pathO T js js.length))) :
    wL s (.lst k) (sMeth 0 f_TreeGame_make (eLoc 0) [eLoc s]) ρ H Q := by
  refine l_lst (vs := js.map mv) (fun i ρ' H' => ρ'.length = ρ.length ∧ (∀ t, t ≠ s → locV ρ' t = locV ρ t) ∧ H' = H.set L.pa (pathO T js i)) (by simp; lia) (fun i ρ' H' z => ?_) ?_ (fun i v ρ' H' hv z => ?_) (fun ρ' H' z => ?_)
  · refine x0_3 z fun _ _ o1 => ?_
    clear z
    subst o1
    rw [List.getElem?_set_ne hne.symm]; exact hk
  · exact ⟨rfl, fun _ _ => rfl, (set_id x.path).symm⟩
  · refine x0_3 z fun z1 z2 o2 => ?_
    clear z
    subst o2
    refine x1_2 (map_get hv) fun j hj o3 => ?_
    subst o3
    have hi : i < js.length := (List.getElem?_eq_some_iff.mp hj).1
    have y := x.setLine ok l (i := i) (by lia)
    refine s_meth (e_loc ((loc_ne hs).trans ((z2 0 hs.symm).trans h0)) (y.isIn (es_cons (e_loc (loc_set (by lia) nofun) (es_nil (y.step ok l hl hj ?_))))))
    exact ⟨by simp [z1], fun t ht => (loc_ne (Ne.symm ht)).trans (z2 t ht), by rw [List.set_set]⟩
  · refine x0_3 z fun z1 z2 o4 => ?_
    clear z
    subst o4
    rw [List.length_map]
    exact hQ ρ' z1 z2
theorem undo_loop (ok : T.Ok) {js : List Nat} (x : GameAt H L T (T.pth js js.length) (T.at_ (js.take js.length))) (l : Line T js) (hl : js.length < 100) {Q : Fl → List V → Hp → Prop} {ρ : List V} {k s : Nat} {vs : List V}
    (hk : H[k]? = some (.list vs)) (hvs : vs.length = js.length) (hne : k ≠ L.pa) {sg : Nat} (h0 : locV ρ sg = some (.ref L.g)) (hs : s ≠ sg) (hs' : s < ρ.length)
    (hQ : ∀ ρ', ρ'.length = ρ.length → (∀ t, t ≠ s → locV ρ' t = locV ρ t) → Q .next ρ' (H.set L.pa (pathO T js 0))) :
    wL s (.lst k) (sMeth 0 f_TreeGame_undo (eLoc sg) []) ρ H Q := by
  refine l_lst (vs := vs) (fun i ρ' H' => ρ'.length = ρ.length ∧ (∀ t, t ≠ s → locV ρ' t = locV ρ t) ∧ H' = H.set L.pa (pathO T js (js.length - i))) (by lia) (fun i ρ' H' z => ?_) ?_ (fun i v ρ' H' hv z => ?_) (fun ρ' H' z => ?_)
  · refine x0_3 z fun _ _ o5 => ?_
    clear z
    subst o5
    rw [List.getElem?_set_ne hne.symm]; exact hk
  · exact ⟨rfl, fun _ _ => rfl, (set_id x.path).symm⟩
  · refine x0_3 z fun z1 z2 o6 => ?_
    clear z
    subst o6
    have hi : i < js.length := by have := (List.getElem?_eq_some_iff.mp hv).1; lia
    have y := x.setLine ok l (i := js.length - i) (by lia)
    have e : js.length - i = (js.length - (i + 1)) + 1 := by lia
    rw [e] at y
    rw [e]
    refine s_meth (e_loc ((loc_ne hs).trans ((z2 sg hs.symm).trans h0)) (y.isIn (es_nil (y.unstep ?_))))
    exact ⟨by simp [z1], fun t ht => (loc_ne (Ne.symm ht)).trans (z2 t ht), by rw [List.set_set]⟩
  · refine x0_3 z fun z1 z2 o7 => ?_
    clear z
    subst o7
    rw [hvs, Nat.sub_self]
    exact hQ ρ' z1 z2
theorem line_value (ok : T.Ok) {js : List Nat} (x : GameAt H L T [] 0) (l : Line T js) {d q k : Nat} (hl : js.length ≤ d) (hd : d < 10) (hq : q < 10) (hk : H[k]? = some (.list (js.map mv))) (hne : k ≠ L.pa) {Q : FR → Hp → Prop}
    (h : ∀ H', Ext H H' → Q (.ret (.int (if js.length % 2 = 1 then -T.nega q (d - js.length) js.length (T.at_ js) else T.nega q (d - js.length) js.length (T.at_ js)))) H') : wF f_line_value [.ref L.g, .ref k, .int d, .int q] H Q := by
  refine f_mk rfl ?_
  unfold b_line_value
  walk_at "y"
  refine seq_lst hk ?_
  refine make_loop ok x l (by lia) hk hne rfl (by decide) (by simp) fun ρ hρ same => ?_
  have y := x.setLine ok l (Nat.le_refl _)
  have hk1 : (H.set L.pa (pathO T js js.length))[k]? = some (.list (js.map mv)) := by rw [List.getElem?_set_ne hne.symm]; exact hk
  refine s_seq (s_assign (e_call (es_cons (e_loc ((same 0 (by decide)).trans rfl) ?_))))
  refine es_cons (e_bin (e_loc ((same 2 (by decide)).trans rfl) (e_len (e_loc ((same 1 (by decide)).trans rfl) (n_list hk1 (b_sub ?_))))))
  refine es_cons (e_len (e_loc ((same 1 (by decide)).trans rfl) (n_list hk1 ?_)))
  refine es_cons (e_loc ((same 3 (by decide)).trans rfl) (es_nil ?_))
  rw [List.length_map, show ((d : Int) - (js.length : Nat)) = ((d - js.length : Nat) : Int) by lia]
  have key := negamax ok q hq (d - js.length) 10 (by lia) y (by rw [pth_len]; lia) (Q := fun r H2 => onR r fun v => thn (sSeq (sFor 6 (iSeq (eLoc 1)) (sMeth 0 f_TreeGame_undo (eLoc 0) [])) (sSeq (sIf (tCmp .eq (eBin .mod (eLen (eLoc 1)) (eInt 2)) (eInt 1)) (sRet (eNeg (eLoc 5))) sPass) (sRet (eLoc 5)))) (fin Q) .next (ρ.set 5 v) H2)
  rw [pth_len, List.take_length] at key
  refine key fun H2 e2 => ?_
  have y2 := y.mono e2
  have hk2 := e2 _ _ hk1
  refine s_seq (s_for (i_seq (e_loc ((loc_ne (by decide)).trans ((same 1 (by decide)).trans rfl)) (seq_lst hk2 ?_))))
  refine undo_loop ok y2 l (by lia) hk2 (by simp) hne ((loc_ne (by decide)).trans ((same 0 (by decide)).trans rfl)) (by decide) (by simp [hρ]) fun ρ2 hρ2 same2 => ?_
  have e3 : Ext H (H2.set L.pa (pathO T js 0)) := x.back e2
  have l1 : locV ρ2 1 = some (.ref k) := (same2 1 (by decide)).trans ((loc_ne (by decide)).trans ((same 1 (by decide)).trans rfl))
  have l5 : locV ρ2 5 = some (.int (T.nega q (d - js.length) js.length (T.at_ js))) := (same2 5 (by decide)).trans (loc_set (by rw [hρ]; simp) nofun)
  refine s_seq (s_if (t_cmp (e_bin (e_len (e_loc l1 (n_list (e3 _ _ hk) (e_int (b_mod (by decide) ?_))))))))
  refine e_int (c_eq ?_)
  have hm : Int.fmod ((js.map mv).length : Nat) 2 = ((js.length % 2 : Nat) : Int) := by
    rw [List.length_map, Int.fmod_eq_emod_of_nonneg _ (by decide)]; lia
  rw [hm]
  by_cases c : js.length % 2 = 1
  · walk_at "z"; refine ifT (decide_eq_true (by lia)) ?_
    rw [if_pos c] at h
    exact s_ret (e_neg (e_loc l5 (h _ e3)))
  · walk_at "z"; refine ifF (by walk_at "z"; rw [decide_eq_false (by lia)]; nofun) ?_
    rw [if_neg c] at h
    exact s_pass (s_ret (e_loc l5 (h _ e3)))
end
namespace Tr
variable (T : Tr)
noncomputable def en (D ply n j : Nat) : Bool := decide (ply < D) || (T.ck n || T.no n j)
noncomputable def steps (D ply n : Nat) : List Nat := (List.range (T.cnt n)).filter (T.en D ply n)
noncomputable def cnF (D : Nat) : Nat → Nat → Nat → Int
  | 0, _, _ => 0
  | r + 1, ply, n => 1 + (if 0 < ply ∧ T.dr n = true then 0 else ((T.steps D ply n).map fun j => cnF D r (ply + 1) (T.kid n j)).sum)
end Tr
theorem sum_zero {α : Type} (l : List α) : (l.map fun _ => (0 : Int)).sum = 0 := by
  induction l with
  | nil => rfl
  | cons a l ih => simp [ih]
theorem cnF_one (T : Tr) (D ply n : Nat) : T.cnF D 1 ply n = 1 := by
  unfold Tr.cnF
  split
  · rfl
  · rw [show (fun j => T.cnF D 0 (ply + 1) (T.kid n j)) = fun _ => (0 : Int) from rfl, sum_zero]; rfl
section
variable {H : Hp} {L : Lay} {T : Tr} {path : List Nat} {n : Nat}
theorem GameAt.sum_loop (x : GameAt H L T path n) (ok : T.Ok) (hp : path.length < 900) {Q : Fl → List V → Hp → Prop} {ρ : List V} {k : Nat} {js : List Nat} {g : Nat → Int} {ec : EM}
    (hl : H[k]? = some (.list (js.map fun (j : Nat) => V.int (1 + (j : Int))))) (hj : ∀ j ∈ js, j < T.cnt n) (hjl : js.length < 1000)
    (h0 : locV ρ 0 = some (.ref L.g)) (hb : locV ρ 5 = some (.int 1)) (hn : ρ.length = 7)
    (hc : ∀ j ρ' H', j ∈ js → GameAt H' L T (path ++ [n]) (T.kid n j) → (∀ s, s ≠ 6 → s ≠ 5 → locV ρ' s = locV ρ s) → wE ec ρ' H' fun v H2 => v = .int (g j) ∧ Ext H' H2)
    (hQ : ∀ ρ' H', locV ρ' 5 = some (.int (1 + (js.map g).sum)) → Ext H H' → Q .next ρ' H') :
    wL 6 (.lst k) (sSeq (sMeth 0 f_TreeGame_make (eLoc 0) [(eLoc 6)]) (sSeq (sAug 5 .add ec) (sMeth 0 f_TreeGame_undo (eLoc 0) []))) ρ H Q := by
  refine l_lst (vs := js.map fun (j : Nat) => V.int (1 + (j : Int))) (fun i ρ' H' => Ext H H' ∧ ρ'.length = 7 ∧ locV ρ' 5 = some (.int (1 + ((js.take i).map g).sum)) ∧ ∀ s, s ≠ 6 → s ≠ 5 → locV ρ' s = locV ρ s) (by simpa using hjl) (fun i ρ' H' z => z.1 _ _ hl) ⟨.refl _, hn, by rw [List.take_zero]; exact hb, fun _ _ _ => rfl⟩ (fun i v ρ' H' hv z => ?_) (fun ρ' H' z => ?_)
  · refine x0_4 z fun e hlen hbest hsame => ?_
    clear z
    refine x1_2 (map_get hv) fun j hj1 o1 => ?_
    subst o1
    have hjm : j ∈ js := List.mem_of_getElem? hj1
    have y := x.mono e
    refine s_seq (s_meth (e_loc (by rw [loc_ne (by decide), hsame 0 (by decide) (by decide), h0]) (y.isIn (es_cons (e_loc (loc_set (by lia) nofun) (es_nil (y.make ok j (by lia) (hj j hjm) (by lia) ?_)))))))
    have y1 := y.setPath (path' := path ++ [n]) (ok.kid n j x.lt (hj j hjm)).2
    refine s_seq (s_aug (by rw [loc_ne (by decide), hbest]) ((hc j _ _ hjm y1 fun s h1 h2 => by rw [loc_ne h1.symm, hsame s h1 h2]).mono fun v H2 r => ?_))
    refine x0_2 r fun o2 e2 => ?_
    clear r
    subst o2
    have y2 := y1.mono e2
    refine ⟨_, rfl, ?_⟩
    refine s_meth (e_loc (by rw [loc_ne (by decide), loc_ne (by decide), hsame 0 (by decide) (by decide), h0]) (y2.isIn (es_nil (y2.undo ?_))))
    have e3 := e.trans (y.back e2)
    refine ⟨e3, by simp [hlen], ?_, fun s h1 h2 => ?_⟩
    · refine (loc_set (v := V.int _) (by simp; lia) nofun).trans ?_
      rw [List.take_add_one, hj1]
      simp [Int.add_assoc]
    · rw [loc_ne h2.symm, loc_ne h1.symm, hsame s h1 h2]
  · refine hQ ρ' H' ?_ z.1
    have := z.2.2.1
    rwa [List.length_map, List.take_length] at this
theorem count_nodes (ok : T.Ok) (D q : Nat) : ∀ (r f : Nat) {H : Hp} {path : List Nat} {n : Nat} {qq : Int} {Q : FR → Hp → Prop}, r < f → GameAt H L T path n → r + path.length = D + q → path.length + r < 900 → (path.length ≤ D → qq = q) → (D ≤ path.length → qq = r) →
    (∀ H', Ext H H' → Q (.ret (.int (T.cnF D (r + 1) path.length n))) H') → wF (f_count_nodes f) [.ref L.g, .int ((D : Int) - path.length), .int path.length, .int qq] H Q := by
  intro r
  induction r with
  | zero =>
    intro f H path n qq Q hf x hr hp hq1 hq2 k
    obtain ⟨f, rfl⟩ : ∃ g, f = g + 1 := ⟨f - 1, by lia⟩
    have i := x.ins
    rw [cnF_one] at k
    refine f_mk rfl ?_
    unfold b_count_nodes
    refine s_seq (s_if (x.t_draw rfl rfl ?_))
    by_cases h1 : 0 < path.length ∧ T.dr n = true
    · walk_at "z"; refine ifT (decide_eq_true h1) ?_
      walk_at "y"
      exact k _ (.refl _)
    · walk_at "z"; refine ifF (by walk_at "z"; rw [decide_eq_false h1]; nofun) ?_
      walk_at "y"
      refine ifF (by rw [decide_eq_false (by lia)]; nofun) ?_
      walk_at "y"
      refine x.in_check ?_
      walk_at "y"
      have fin_ : ∀ {m : Nat} {H1 : Hp}, Ext H H1 → wS (sSeq (sIf (tCmp .le (eLoc 1) (eInt 0)) (sSeq (sIf (tCmp .le (eLoc 3) (eInt 0)) (sRet (eInt 1)) sPass) (sAug 3 .sub (eInt 1))) sPass) (sSeq (sAssign 5 (eInt 1)) (sSeq (sFor 6 (iSeq (eLoc 4)) (sSeq (sMeth 0 f_TreeGame_make (eLoc 0) [(eLoc 6)]) (sSeq (sAug 5 .add (eCall (f_count_nodes f) [(eLoc 0), (eBin .sub (eLoc 1) (eInt 1)), (eBin .add (eLoc 2) (eInt 1)), (eLoc 3)])) (sMeth 0 f_TreeGame_undo (eLoc 0) [])))) (sRet (eLoc 5))))) (([V.ref L.g, V.int (↑D - ↑path.length), V.int ↑path.length, V.int qq] ++ List.replicate (7 - 4) V.undef).set 4 (V.ref m)) H1 (fin Q) := by
        intro m H1 e
        walk_at "y"
        refine ifT (decide_eq_true (by lia)) ?_
        walk_at "y"
        refine ifT (decide_eq_true (by have := hq2 (by lia); lia)) ?_
        walk_at "y"
        exact k _ e
      cases T.ck n with
      | true =>
        refine ifT rfl ?_
        walk_at "y"
        refine x.moves ok fun m H1 N1 => ?_
        exact fin_ N1.ext
      | false =>
        refine ifF nofun ?_
        walk_at "y"
        refine x.noisy ok fun m H1 N1 => ?_
        exact fin_ N1.ext
  | succ r ih =>
    intro f H path n qq Q hf x hr hp hq1 hq2 k
    obtain ⟨f, rfl⟩ : ∃ g, f = g + 1 := ⟨f - 1, by lia⟩
    have i := x.ins
    have cn := ok.cnt n
    unfold Tr.cnF at k
    refine f_mk rfl ?_
    unfold b_count_nodes
    refine s_seq (s_if (x.t_draw rfl rfl ?_))
    by_cases h1 : 0 < path.length ∧ T.dr n = true
    · walk_at "z"; refine ifT (decide_eq_true h1) ?_
      rw [if_pos h1] at k
      walk_at "y"
      exact k _ (.refl _)
    · walk_at "z"; refine ifF (by walk_at "z"; rw [decide_eq_false h1]; nofun) ?_
      rw [if_neg h1] at k
      have fin_ : ∀ {m : Nat} {H1 : Hp} {js : List Nat}, Ext H H1 → H1[m]? = some (.list (js.map fun (j : Nat) => V.int (1 + (j : Int)))) → js = T.steps D path.length n → wS (sSeq (sIf (tCmp .le (eLoc 1) (eInt 0)) (sSeq (sIf (tCmp .le (eLoc 3) (eInt 0)) (sRet (eInt 1)) sPass) (sAug 3 .sub (eInt 1))) sPass) (sSeq (sAssign 5 (eInt 1)) (sSeq (sFor 6 (iSeq (eLoc 4)) (sSeq (sMeth 0 f_TreeGame_make (eLoc 0) [(eLoc 6)]) (sSeq (sAug 5 .add (eCall (f_count_nodes f) [(eLoc 0), (eBin .sub (eLoc 1) (eInt 1)), (eBin .add (eLoc 2) (eInt 1)), (eLoc 3)])) (sMeth 0 f_TreeGame_undo (eLoc 0) [])))) (sRet (eLoc 5))))) (([V.ref L.g, V.int (↑D - ↑path.length), V.int ↑path.length, V.int qq] ++ List.replicate (7 - 4) V.undef).set 4 (V.ref m)) H1 (fin Q) := by
        intro m H1 js e hm hjs
        have y := x.mono e
        have main : ∀ {q2 : Int} {ρ : List V}, ρ.length = 7 → locV ρ 0 = some (.ref L.g) → locV ρ 1 = some (.int ((D : Int) - path.length)) → locV ρ 2 = some (.int path.length) → locV ρ 3 = some (.int q2) → locV ρ 4 = some (.ref m) → (path.length + 1 ≤ D → q2 = q) → (D ≤ path.length + 1 → q2 = r) →
            wS (sSeq (sAssign 5 (eInt 1)) (sSeq (sFor 6 (iSeq (eLoc 4)) (sSeq (sMeth 0 f_TreeGame_make (eLoc 0) [(eLoc 6)]) (sSeq (sAug 5 .add (eCall (f_count_nodes f) [(eLoc 0), (eBin .sub (eLoc 1) (eInt 1)), (eBin .add (eLoc 2) (eInt 1)), (eLoc 3)])) (sMeth 0 f_TreeGame_undo (eLoc 0) [])))) (sRet (eLoc 5)))) ρ H1 (fin Q) := by
          intro q2 ρ hlen a0 a1 a2 a3 a4 b1 b2
          refine s_seq (s_assign (e_int ?_))
          have l0 : ∀ t, t ≠ 5 → locV (ρ.set 5 (.int 1)) t = locV ρ t := fun t ht => loc_ne ht.symm
          refine s_seq (s_for (i_seq (e_loc ((l0 4 (by decide)).trans a4) (seq_lst hm ?_))))
          refine y.sum_loop ok (by lia) (js := js) (g := fun j => T.cnF D (r + 1) (path.length + 1) (T.kid n j)) hm (by intro j hj; rw [hjs] at hj; unfold Tr.steps at hj; simp at hj; exact hj.1) (by rw [hjs]; have := List.length_filter_le (T.en D path.length n) (List.range (T.cnt n)); unfold Tr.steps; simp at this; lia) ((l0 0 (by decide)).trans a0) (loc_set (by lia) nofun) (by simp [hlen]) (fun j ρ' H' hj z same => ?_) (fun ρ' H' hb e' => ?_)
          · have s' : ∀ t, t ≠ 6 → t ≠ 5 → locV ρ' t = locV ρ t := fun t h1 h2 => (same t h1 h2).trans (l0 t h2)
            refine e_call (es_cons (e_loc ((s' 0 (by decide) (by decide)).trans a0) ?_))
            refine es_cons (e_bin (e_loc ((s' 1 (by decide) (by decide)).trans a1) (e_int (b_sub ?_))))
            refine es_cons (e_bin (e_loc ((s' 2 (by decide) (by decide)).trans a2) (e_int (b_add ?_))))
            refine es_cons (e_loc ((s' 3 (by decide) (by decide)).trans a3) (es_nil ?_))
            have hpl : (path ++ [n]).length = path.length + 1 := by simp
            have key := ih f (by lia) z (qq := q2) (Q := fun rr H2 => onR rr fun v => v = .int (T.cnF D (r + 1) (path.length + 1) (T.kid n j)) ∧ Ext H' H2) (by rw [hpl]; lia) (by rw [hpl]; lia) (by rw [hpl]; exact b1) (by rw [hpl]; exact b2) (fun H2 e => ⟨by rw [hpl], e⟩)
            rw [hpl] at key
            have c1 : ((D : Int) - (path.length + 1 : Nat)) = (D : Int) - path.length - 1 := by lia
            have c2 : ((path.length + 1 : Nat) : Int) = (path.length : Int) + 1 := by lia
            rw [c1, c2] at key
            exact key
          · rw [hjs] at hb
            exact s_ret (e_loc hb (k _ (e.trans e')))
        walk_at "y"
        by_cases c : D ≤ path.length
        · refine ifT (decide_eq_true (by lia)) ?_
          have := hq2 c
          walk_at "y"
          refine ifF (by rw [decide_eq_false (by lia)]; nofun) ?_
          walk_at "y"
          refine s_aug rfl (e_int ⟨_, rfl, ?_⟩)
          refine main (q2 := qq - 1) ?_ ?_ ?_ ?_ ?_ ?_ (by lia) (by lia)
          · simp
          all_goals rfl
        · refine ifF (by rw [decide_eq_false (by lia)]; nofun) ?_
          have := hq1 (by lia)
          refine s_pass ?_
          refine main (q2 := qq) ?_ ?_ ?_ ?_ ?_ ?_ (by lia) (by lia)
          · simp
          all_goals rfl
      have all : ∀ {m : Nat} {H1 : Hp}, (∀ j, T.en D path.length n j = true) → New H H1 m (.list (tab (T.cnt n) fun (i : Nat) => V.int (1 + (i : Int)))) → H1[m]? = some (.list ((T.steps D path.length n).map fun (j : Nat) => V.int (1 + (j : Int)))) := fun h N => by
        have : T.steps D path.length n = List.range (T.cnt n) := by
          unfold Tr.steps
          rw [List.filter_eq_self]
          intro j _; exact h j
        rw [this]; exact N.is
      walk_at "y"
      by_cases c : path.length < D
      · refine ifT (decide_eq_true (by lia)) ?_
        walk_at "z"; refine ifT rfl ?_
        walk_at "y"
        refine x.moves ok fun m H1 N1 => ?_
        exact fin_ N1.ext (all (fun j => by simp [Tr.en, c]) N1) rfl
      · refine ifF (by rw [decide_eq_false (by lia)]; nofun) ?_
        walk_at "y"
        refine x.in_check ?_
        walk_at "y"
        cases hck : T.ck n with
        | true =>
          refine ifT rfl ?_
          walk_at "y"
          refine x.moves ok fun m H1 N1 => ?_
          exact fin_ N1.ext (all (fun j => by simp [Tr.en, hck]) N1) rfl
        | false =>
          refine ifF nofun ?_
          walk_at "y"
          refine x.noisy ok fun m H1 N1 => ?_
          have e : T.steps D path.length n = (List.range (T.cnt n)).filter (T.no n) := by
            unfold Tr.steps
            congr 1
            funext j
            simp [Tr.en, hck, c]
          exact fin_ N1.ext N1.is e.symm
end
theorem New.lt {H H' : Hp} {k : Nat} {o : O} (N : New H H' k o) : k < H'.length := (List.getElem?_eq_some_iff.mp N.is).1
noncomputable def START : List Int := [9210, 16, 10, 110102055, 220212030, 110202762, 30102071, 210212044, 110011038, 100001063, 720]
noncomputable def atS (is : List Int) (i : Nat) : Int := if i < is.length then is.getD i 0 else START.getD i 0
noncomputable def dig (x : Int) (i : Nat) : Int := (x.fdiv (10 ^ i)).fmod 10
theorem dig_lo (x : Int) (i : Nat) : 0 ≤ dig x i := Int.fmod_nonneg_of_pos _ (by decide)
theorem dig_hi (x : Int) (i : Nat) : dig x i < 10 := Int.fmod_lt_of_pos _ (by decide)
theorem law_at {H : Hp} {is : List Int} {e : Int} (i : Nat) (he : e = i) (hi : i < 11 ∨ i < is.length) {Q : FR → Hp → Prop} (q : ∀ H', Ext H H' → Q (.ret (.int (atS is i))) H') : wF f_law_at [.scr is, .int e] H Q := by
  subst he
  unfold atS at q
  refine f_mk rfl ?_
  unfold b_law_at
  walk_at "y"
  by_cases c : i < is.length
  · refine ifT (decide_eq_true (by lia)) ?_
    rw [if_pos c] at q
    walk_at "y"
    refine g_scr i rfl (v := is.getD i 0) (by simp [c]) ?_
    exact q _ (.refl _)
  · refine ifF (by rw [decide_eq_false (by lia)]; nofun) ?_
    rw [if_neg c] at q
    walk_at "y"
    refine f_mk rfl ?_
    unfold b_law_START
    walk_at "y"
    intro n H1 N
    have N' : H1[n]? = some (.list (START.map V.int)) := N.is
    walk_at "y"
    refine g_list N' i rfl (v := .int (START.getD i 0)) ?_ ?_
    · have : i < START.length := by show i < 11; lia
      simp [this]
    · exact q _ N.ext
theorem law_digit {H : Hp} {x e : Int} (i : Nat) (he : e = i) (hi : i < 19) {Q : FR → Hp → Prop} (q : Q (.ret (.int (dig x i))) H) : wF f_law_digit [.int x, .int e] H Q := by
  subst he
  refine f_mk rfl ?_
  unfold b_law_digit
  walk_at "y"
  refine b_pow (by lia) (by lia) (by decide) ?_
  have e : ((i : Int)).toNat = i := by lia
  have hp : (0 : Int) < 10 ^ i := Int.pow_pos (by decide)
  rw [e]
  refine b_fdiv (by lia) ?_ ?_
  · have h1 : ((10 : Int) ^ i).natAbs = 10 ^ i := by rw [Int.natAbs_pow]; rfl
    rw [h1]
    exact Nat.lt_of_le_of_lt (Nat.pow_le_pow_right (by decide) (show i ≤ 18 by lia)) (by decide)
  · walk_at "y"
    exact b_mod (by decide) q
noncomputable def szS (is : List Int) : Nat := min (max 8 (is.length - 3)) 12
noncomputable def xS (is : List Int) (n : Nat) : Int := atS is (3 + n)
noncomputable def treeS (is : List Int) : Tr where
  sz := szS is
  cnt n := if n + 1 < szS is then ((dig (xS is n) 3).fmod 4).toNat else 0
  kid n j := n + 1 + ((dig (xS is n) (4 + j)).fmod ((szS is : Int) - 1 - n)).toNat
  va n := (xS is n).fmod 100 - 50
  ck n := decide (7 ≤ dig (xS is n) 2)
  dr n := [6, 9].any fun i => i == dig (xS is n) 2
  no n j := decide (((dig (xS is n) 7).fdiv (2 ^ j)).fmod 2 = 1)
  ga n j := dig (xS is n) (10 + j) - 5
theorem szS_lo (is : List Int) : 8 ≤ szS is := Nat.le_min.mpr ⟨Nat.le_max_left _ _, by decide⟩
theorem szS_hi (is : List Int) : szS is ≤ 12 := Nat.min_le_right _ _
theorem treeS_ok (is : List Int) : (treeS is).Ok where
  szl := szS_lo is
  szh := szS_hi is
  cnt n := by
    show (if n + 1 < szS is then _ else _) ≤ 3
    have h1 : (dig (xS is n) 3).fmod 4 < 4 := Int.fmod_lt_of_pos _ (by decide)
    split <;> lia
  kid n j hn hj := by
    have hn : n < szS is := hn
    have hj : j < (if n + 1 < szS is then ((dig (xS is n) 3).fmod 4).toNat else 0) := hj
    show n < n + 1 + ((dig (xS is n) (4 + j)).fmod ((szS is : Int) - 1 - n)).toNat ∧ n + 1 + ((dig (xS is n) (4 + j)).fmod ((szS is : Int) - 1 - n)).toNat < szS is
    split at hj
    · have h0 : (0 : Int) < (szS is : Int) - 1 - n := by lia
      have h1 := Int.fmod_lt_of_pos (dig (xS is n) (4 + j)) h0
      have h2 := Int.fmod_nonneg_of_pos (dig (xS is n) (4 + j)) h0
      revert h1 h2
      generalize (dig (xS is n) (4 + j)).fmod ((szS is : Int) - 1 - n) = y
      intro h1 h2
      exact ⟨Nat.lt_of_lt_of_le (Nat.lt_succ_self n) (Nat.le_add_right _ _), by lia⟩
    · lia
  val n := by
    show -50 ≤ (xS is n).fmod 100 - 50
    have := Int.fmod_nonneg_of_pos (xS is n) (show (0 : Int) < 100 by decide)
    lia
  vah n := by
    show (xS is n).fmod 100 - 50 ≤ 50
    have := Int.fmod_lt_of_pos (xS is n) (show (0 : Int) < 100 by decide)
    lia
structure Part (H : Hp) (T : Tr) (B i c v k d o : Nat) (chA noA : Nat → Nat) : Prop where
  ch : H[c]? = some (.list (tab i fun i => .ref (chA i)))
  va : H[v]? = some (.list (tab i fun i => .int (T.va i)))
  ck : H[k]? = some (.list (tab i fun i => .bool (T.ck i)))
  dr : H[d]? = some (.list (tab i fun i => .bool (T.dr i)))
  no : H[o]? = some (.list (tab i fun i => .ref (noA i)))
  chA : ∀ j, j < i → B ≤ chA j ∧ H[chA j]? = some (.list (tab (T.cnt j) fun l => .int (T.kid j l)))
  noA : ∀ j, j < i → B ≤ noA j ∧ H[noA j]? = some (.list (tab (T.cnt j) fun l => .bool (T.no j l)))
theorem ite_e {p : Bool} {a b : EM} {v : V} {ρ : List V} {H : Hp} {Q : V → Hp → Prop} (ha : p = true → wE a ρ H fun x H' => x = v ∧ H' = H) (hb : p = false → wE b ρ H fun x H' => x = v ∧ H' = H) (q : Q v H) : if p = true then wE a ρ H Q else wE b ρ H Q := by
  cases p with
  | true =>
    refine ifT rfl ?_
    exact (ha rfl).mono fun x H' ⟨e1, e2⟩ => by rw [e1, e2]; exact q
  | false =>
    refine ifF nofun ?_
    exact (hb rfl).mono fun x H' ⟨e1, e2⟩ => by rw [e1, e2]; exact q
theorem Part.mono {H H' : Hp} {T : Tr} {B i c v k d o : Nat} {chA noA : Nat → Nat} (x : Part H T B i c v k d o chA noA) (e : Ext H H') : Part H' T B i c v k d o chA noA :=
  ⟨e _ _ x.ch, e _ _ x.va, e _ _ x.ck, e _ _ x.dr, e _ _ x.no, fun j h => ⟨(x.chA j h).1, e _ _ (x.chA j h).2⟩, fun j h => ⟨(x.noA j h).1, e _ _ (x.noA j h).2⟩⟩
theorem tab_up {α : Type} (i : Nat) (f : Nat → α) (w : α) : tab i f ++ [w] = tab (i + 1) fun j => if j = i then w else f j := by
  rw [tab_succ]
  congr 1
  · exact tab_congr fun j h => by rw [if_neg (by lia)]
  · simp
theorem tab_up' {α : Type} {i : Nat} {f : Nat → α} {w : α} (h : w = f i) : tab i f ++ [w] = tab (i + 1) f := by rw [tab_succ, h]
theorem Part.next {H9 H11 H15 : Hp} {T : Tr} {B i c v k d o n1 n2 : Nat} {chA noA : Nat → Nat} (P9 : Part H9 T B i c v k d o chA noA)
    (E2 : Ext (H9.set c (.list ((tab i fun i => V.ref (chA i)) ++ [.ref n1]))) H11)
    (E3 : Ext (((H11.set o (.list ((tab i fun i => V.ref (noA i)) ++ [.ref n2]))).set v (.list ((tab i fun i => V.int (T.va i)) ++ [.int (T.va i)]))).set k (.list ((tab i fun i => V.bool (T.ck i)) ++ [.bool (T.ck i)]))) H15)
    (hc : c < B) (hv : v < B) (hk : k < B) (hd : d < B) (ho : o < B) (h1 : B ≤ n1) (h2 : B ≤ n2) (ne : c < v ∧ v < k ∧ k < d ∧ d < o)
    (q1 : H9[n1]? = some (.list (tab (T.cnt i) fun l => .int (T.kid i l)))) (q2 : H11[n2]? = some (.list (tab (T.cnt i) fun l => .bool (T.no i l)))) :
    Part (H15.set d (.list ((tab i fun i => V.bool (T.dr i)) ++ [.bool (T.dr i)]))) T B (i + 1) c v k d o (fun j => if j = i then n1 else chA j) (fun j => if j = i then n2 else noA j) := by
  have up15 : ∀ p x, p ≠ o → p ≠ v → p ≠ k → H11[p]? = some x → H15[p]? = some x := fun p x a1 a2 a3 h => by
    refine E3 _ _ ?_
    rw [List.getElem?_set_ne (Ne.symm a3), List.getElem?_set_ne (Ne.symm a2), List.getElem?_set_ne (Ne.symm a1)]; exact h
  have fn : ∀ p x, p ≠ d → H15[p]? = some x → (H15.set d (.list ((tab i fun i => V.bool (T.dr i)) ++ [.bool (T.dr i)])))[p]? = some x := fun p x a1 h => by
    rw [List.getElem?_set_ne (Ne.symm a1)]; exact h
  have up11 : ∀ p x, p ≠ c → H9[p]? = some x → H11[p]? = some x := fun p x a1 h => E2 _ _ (by rw [List.getElem?_set_ne (Ne.symm a1)]; exact h)
  have len : ∀ {K : Hp} {p : Nat} {x : O}, K[p]? = some x → p < K.length := fun h => (List.getElem?_eq_some_iff.mp h).1
  have fv := up11 v _ (by lia) P9.va
  have fk := up11 k _ (by lia) P9.ck
  have fd := up11 d _ (by lia) P9.dr
  have fo := up11 o _ (by lia) P9.no
  refine ⟨?_, ?_, ?_, ?_, ?_, fun j h => ?_, fun j h => ?_⟩
  · refine fn c _ (by lia) (up15 c _ (by lia) (by lia) (by lia) (E2 _ _ ?_))
    rw [List.getElem?_set_self (len P9.ch), tab_up]
    simp only [apply_ite V.ref]
  · refine fn v _ (by lia) (E3 _ _ ?_)
    rw [List.getElem?_set_ne (by lia), List.getElem?_set_self (by rw [List.length_set]; exact len fv), tab_up' rfl]
  · refine fn k _ (by lia) (E3 _ _ ?_)
    rw [List.getElem?_set_self (by rw [List.length_set, List.length_set]; exact len fk), tab_up' rfl]
  · rw [List.getElem?_set_self (len (up15 d _ (by lia) (by lia) (by lia) fd)), tab_up' rfl]
  · refine fn o _ (by lia) (E3 _ _ ?_)
    rw [List.getElem?_set_ne (by lia), List.getElem?_set_ne (by lia), List.getElem?_set_self (len fo), tab_up]
    simp only [apply_ite V.ref]
  · by_cases e : j = i
    · subst e
      simp only [if_true]
      exact ⟨h1, fn _ _ (by lia) (up15 _ _ (by lia) (by lia) (by lia) (up11 _ _ (by lia) q1))⟩
    · simp only [if_neg e]
      refine x0_2 (P9.chA j (by lia)) fun z1 z2 => ?_
      exact ⟨z1, fn _ _ (by lia) (up15 _ _ (by lia) (by lia) (by lia) (up11 _ _ (by lia) z2))⟩
  · by_cases e : j = i
    · subst e
      simp only [if_true]
      exact ⟨h2, fn _ _ (by lia) (up15 _ _ (by lia) (by lia) (by lia) q2)⟩
    · simp only [if_neg e]
      refine x0_2 (P9.noA j (by lia)) fun z1 z2 => ?_
      exact ⟨z1, fn _ _ (by lia) (up15 _ _ (by lia) (by lia) (by lia) (up11 _ _ (by lia) z2))⟩
theorem law_tree {H : Hp} {is : List Int} (hl : is.length ≤ 63) {Q : FR → Hp → Prop}
    (q : ∀ (L : Lay) (H' : Hp), Ext H H' → TreeAt H' L (treeS is) → Q (.ret (.ref L.tree)) H') : wF f_law_tree [.scr is] H Q := by
  have ok := treeS_ok is
  have lo := szS_lo is
  have hi := szS_hi is
  refine f_mk rfl ?_
  unfold b_law_tree
  walk_at "y"
  have e1 : (if (12 : Int) < (if ((is.length : Int) - 3) > 8 then (is.length : Int) - 3 else 8) then (12 : Int) else (if ((is.length : Int) - 3) > 8 then (is.length : Int) - 3 else 8)) = (szS is : Nat) := by
    unfold szS
    by_cases c : ((is.length : Int) - 3) > 8
    · rw [if_pos c, Nat.max_eq_right (by lia)]
      by_cases c2 : (12 : Int) < (is.length : Int) - 3
      · rw [if_pos c2, Nat.min_eq_right (by lia)]; rfl
      · rw [if_neg c2, Nat.min_eq_left (by lia)]; lia
    · rw [if_neg c, if_neg (by decide), Nat.max_eq_left (by lia)]; rfl
  rw [e1]
  walk_at "y"
  intro c H1 N1
  walk_at "y"
  intro v H2 N2
  walk_at "y"
  intro k H3 N3
  walk_at "y"
  intro d H4 N4
  walk_at "y"
  intro o H5 N5
  walk_at "y"
  intro t0 H6 N6
  refine up_of N6.is rfl ?_
  walk_at "y"
  refine ⟨by walk_at "w", ?_⟩
  have a1 := N1.lt
  have a2 := N2.lt
  have a3 := N3.lt
  have a4 := N4.lt
  have a5 := N5.lt
  have a6 := N6.lt
  have b1 := N1.ge
  have b2 := N2.ge
  have b3 := N3.ge
  have b4 := N4.ge
  have b5 := N5.ge
  have b6 := N6.ge
  have e6 : Ext H H6 := N1.ext.trans (N2.ext.trans (N3.ext.trans (N4.ext.trans (N5.ext.trans N6.ext))))
  refine l_up (n := szS is) (fun i ρ' H' => (∃ w1 w2 w3 w4 w5 w6, ρ' = [.scr is, .int (szS is), .ref c, .ref v, .ref k, .ref d, .ref o, w1, w2, w3, w4, w5, w6]) ∧ Ext H H' ∧ H6.length ≤ H'.length ∧ ∃ chA noA, Part H' (treeS is) H6.length i c v k d o chA noA) (by lia) (by lia) ?_ (fun i ρ' H' hi z => ?_) (fun ρ' H' z => ?_)
  · refine ⟨⟨_, _, _, _, _, _, rfl⟩, e6, Nat.le_refl _, fun _ => 0, fun _ => 0, ?_⟩
    have x5 := N6.ext
    have x4 := N5.ext.trans x5
    have x3 := N4.ext.trans x4
    have x2 := N3.ext.trans x3
    have x1 := N2.ext.trans x2
    exact ⟨x1 _ _ N1.is, x2 _ _ N2.is, x3 _ _ N3.is, x4 _ _ N4.is, x5 _ _ N5.is, fun j h => absurd h (by lia), fun j h => absurd h (by lia)⟩
  · refine x0_4 z fun o1 e0 hB o2 => ?_
    clear z
    refine x6_1 o1 fun w1 w2 w3 w4 w5 w6 o5 => ?_
    clear o1
    subst o5
    refine x2_1 o2 fun chA noA P => ?_
    clear o2
    walk_at "y"
    refine law_at (3 + i) (by lia) (by unfold szS at hi; lia) fun H7 e7 => ?_
    walk_at "y"
    refine ite_e (v := .int ((treeS is).cnt i)) (fun h => ?_) (fun h => ?_) ?_
    · have h := of_decide_eq_true h
      walk_at "y"
      refine law_digit 3 rfl (by decide) ?_
      walk_at "y"
      refine b_mod (by decide) ⟨?_, rfl⟩
      have : (treeS is).cnt i = ((dig (xS is i) 3).fmod 4).toNat := if_pos (by lia)
      rw [this, Int.toNat_of_nonneg (Int.fmod_nonneg_of_pos _ (by decide))]; rfl
    · have h := of_decide_eq_false h
      walk_at "y"
      have : (treeS is).cnt i = 0 := if_neg (by lia)
      rw [this]; exact ⟨rfl, rfl⟩
    have P7 := P.mono e7
    have f7 := P7.ch
    have cn := ok.cnt i
    walk_at "y"
    refine ⟨by walk_at "w", ?_⟩
    refine m_up (n := (treeS is).cnt i) (fun j => .int ((treeS is).kid i j)) (by lia) (by lia) (fun j H8 hj e8 => ?_) (fun H8 e8 => ?_)
    · have hr : i + 1 < szS is := by
        refine Nat.lt_of_not_le fun h => ?_
        have : (treeS is).cnt i = 0 := if_neg (by lia)
        lia
      walk_at "y"
      refine law_digit (4 + j) (by lia) (by lia) ?_
      walk_at "y"
      have hp : (0 : Int) < (szS is : Int) - 1 - i := by lia
      refine b_mod (by lia) ?_
      walk_at "y"
      refine ⟨?_, .refl _⟩
      have h2 := Int.toNat_of_nonneg (Int.fmod_nonneg_of_pos (dig (xS is i) (4 + j)) hp)
      have e0' : ((0 : Int) + (i : Int)) = i := by lia
      have h3 : (((treeS is).kid i j : Nat) : Int) = (i : Int) + 1 + (dig (xS is i) (4 + j)).fmod ((szS is : Int) - 1 - i) := by
        rw [← h2]
        show ((i + 1 + ((dig (xS is i) (4 + j)).fmod ((szS is : Int) - 1 - i)).toNat : Nat) : Int) = _
        lia
      rw [h3, e0']
      rfl
    intro n1 H9 M1
    have P9 := (P7.mono e8).mono M1.ext
    refine push_of P9.ch (by rw [tab_len]; lia) ?_
    have l9 : H6.length ≤ n1 := by have := e7.len; have := e8.len; have := M1.ge; lia
    have n9 : H9.length ≤ (H9.set c (.list ((tab i fun i => .ref (chA i)) ++ [.ref n1]))).length := by simp
    have f10 : (H9.set c (.list ((tab i fun i => .ref (chA i)) ++ [.ref n1])))[o]? = some (.list (tab i fun i => .ref (noA i))) := by
      rw [List.getElem?_set_ne (by lia)]; exact P9.no
    walk_at "y"
    refine ⟨by walk_at "w", ?_⟩
    refine m_up (n := (treeS is).cnt i) (fun j => .bool ((treeS is).no i j)) (by lia) (by lia) (fun j H10 hj e10 => ?_) (fun H10 e10 => ?_)
    · walk_at "y"
      refine law_digit 7 rfl (by decide) ?_
      walk_at "y"
      refine b_shr (by lia) (by lia) ?_
      walk_at "y"
      refine b_mod (by decide) ?_
      walk_at "y"
      refine ⟨?_, .refl _⟩
      have e0' : ((0 : Int) + (j : Int)).toNat = j := by lia
      have e1' : ((0 : Int) + (i : Int)) = i := by lia
      rw [e0']
      rfl
    intro n2 H11 M2
    have E2 := e10.trans M2.ext
    refine push_of (E2 _ _ f10) (by rw [tab_len]; lia) ?_
    have fv := E2 v _ ((List.getElem?_set_ne (by lia)).trans P9.va)
    have fk := E2 k _ ((List.getElem?_set_ne (by lia)).trans P9.ck)
    have fd := E2 d _ ((List.getElem?_set_ne (by lia)).trans P9.dr)
    have g12 : (H11.set o (.list ((tab i fun i => V.ref (noA i)) ++ [.ref n2])))[v]? = _ := (List.getElem?_set_ne (by lia)).trans fv
    walk_at "y"
    refine b_mod (by decide) ?_
    walk_at "y"
    refine push_of g12 (by rw [tab_len]; lia) ?_
    have g13 : ((H11.set o (.list ((tab i fun i => V.ref (noA i)) ++ [.ref n2]))).set v (.list ((tab i fun i => V.int ((treeS is).va i)) ++ [.int ((treeS is).va i)])))[k]? = _ := (List.getElem?_set_ne (by lia)).trans ((List.getElem?_set_ne (by lia)).trans fk)
    show wS _ _ ((H11.set o (.list ((tab i fun i => V.ref (noA i)) ++ [.ref n2]))).set v (.list ((tab i fun i => V.int ((treeS is).va i)) ++ [.int ((treeS is).va i)]))) _
    walk_at "y"
    refine law_digit 2 rfl (by decide) ?_
    walk_at "y"
    refine push_of g13 (by rw [tab_len]; lia) ?_
    have g14 : (((H11.set o (.list ((tab i fun i => V.ref (noA i)) ++ [.ref n2]))).set v (.list ((tab i fun i => V.int ((treeS is).va i)) ++ [.int ((treeS is).va i)]))).set k (.list ((tab i fun i => V.bool ((treeS is).ck i)) ++ [.bool ((treeS is).ck i)])))[d]? = _ := (List.getElem?_set_ne (by lia)).trans ((List.getElem?_set_ne (by lia)).trans ((List.getElem?_set_ne (by lia)).trans fd))
    show wS _ _ (((H11.set o (.list ((tab i fun i => V.ref (noA i)) ++ [.ref n2]))).set v (.list ((tab i fun i => V.int ((treeS is).va i)) ++ [.int ((treeS is).va i)]))).set k (.list ((tab i fun i => V.bool ((treeS is).ck i)) ++ [.bool ((treeS is).ck i)]))) _
    walk_at "y"
    refine law_digit 2 rfl (by decide) ?_
    walk_at "y"
    intro n3 H15 M3
    refine c_in_tup (is := [6, 9]) M3.is ?_
    refine push_of (M3.ext _ _ g14) (by rw [tab_len]; lia) ?_
    have s1 := e0.trans (e7.trans (e8.trans M1.ext))
    have s2 := (s1.set (n := c) (by lia) (.list ((tab i fun i => V.ref (chA i)) ++ [.ref n1]))).trans E2
    have s3 := (((s2.set (n := o) (by lia) (.list ((tab i fun i => V.ref (noA i)) ++ [.ref n2]))).set (n := v) (by lia) (.list ((tab i fun i => V.int ((treeS is).va i)) ++ [.int ((treeS is).va i)]))).set (n := k) (by lia) (.list ((tab i fun i => V.bool ((treeS is).ck i)) ++ [.bool ((treeS is).ck i)]))).trans M3.ext
    have l2 : H6.length ≤ n2 := by
      have := e7.len; have := e8.len; have := M1.ext.len; have z := e10.len; have := M2.ge
      rw [List.length_set] at z
      lia
    refine ⟨⟨_, _, _, _, _, _, rfl⟩, s3.set (n := d) (by lia) _, ?_, _, _, P9.next E2 M3.ext (by lia) (by lia) (by lia) (by lia) (by lia) l9 l2 (by lia) M1.is M2.is⟩
    have := e7.len; have := e8.len; have := M1.ext.len; have h3 := E2.len; have h4 := M3.ext.len
    rw [List.length_set] at h3
    rw [List.length_set, List.length_set, List.length_set] at h4
    rw [List.length_set]
    lia
  · refine x0_4 z fun o3 e0 hB o4 => ?_
    clear z
    refine x6_1 o3 fun w1 w2 w3 w4 w5 w6 o6 => ?_
    clear o3
    subst o6
    refine x2_1 o4 fun chA noA P => ?_
    clear o4
    walk_at "y"
    intro t H7 N7
    refine q { tree := t, ch := c, va := v, ck := k, dr := d, no := o, ga := 0, g := 0, pa := 0, chA := chA, noA := noA, gaA := fun _ => 0 } H7 (e0.trans N7.ext) ?_
    have P := P.mono N7.ext
    exact ⟨N7.is, P.ch, P.va, P.ck, P.dr, P.no, fun i h => (P.chA i h).2, fun i h => (P.noA i h).2⟩
noncomputable def upI (s : Int) : Int := if s > 31000 then 1 - s else if s < -31000 then -1 - s else -s
noncomputable def maxL : List Int → Int
  | [] => 0
  | i :: r => maxI i r
namespace Tr
variable (T : Tr)
noncomputable def lnode (lower : Option (Nat → Int)) (full : Bool) (n : Nat) : Int :=
  if 0 < n ∧ T.dr n = true then 0 else if (full || T.ck n) = true ∧ T.cnt n = 0 then (if T.ck n = true then -32000 else 0) else match lower with
    | none => T.va n
    | some f => if (full || T.ck n) = true then maxL ((T.kids n).map fun k => upI (f k)) else maxL (T.va n :: (T.nkids n).map fun k => upI (f k))
noncomputable def lev (q : Nat) : Nat → Nat → Int
  | 0, n => T.lnode none false n
  | l + 1, n => T.lnode (some (lev q l)) (decide (q < l + 1)) n
end Tr
section
variable {H : Hp} {L : Lay} {T : Tr} {n : Nat} {Q : FR → Hp → Prop}
theorem law_up {s : Int} (q : Q (.ret (.int (upI s))) H) : wF f_law_up [.int s] H Q := by
  unfold upI at q
  refine f_mk rfl ?_
  unfold b_law_up
  walk_at "y"
  by_cases c : 31000 < s
  · refine ifT (decide_eq_true c) ?_
    rw [if_pos c] at q
    walk_at "y"
    exact q
  · refine ifF (by rw [decide_eq_false c]; nofun) ?_
    rw [if_neg c] at q
    walk_at "y"
    by_cases c2 : s < -31000
    · refine ifT (decide_eq_true c2) ?_
      rw [if_pos c2] at q
      walk_at "y"
      exact q
    · refine ifF (by rw [decide_eq_false c2]; nofun) ?_
      rw [if_neg c2] at q
      walk_at "y"
      exact q
noncomputable def LowAt (H : Hp) (T : Tr) (lo : V) (f : Option (Nat → Int)) : Prop := match f with
  | none => lo = .none
  | some f => ∃ a, lo = .ref a ∧ H[a]? = some (.list (tab T.sz fun i => .int (f i)))
theorem LowAt.mono {H H' : Hp} {lo : V} {f : Option (Nat → Int)} (x : LowAt H T lo f) (e : Ext H H') : LowAt H' T lo f := by
  cases f with
  | none => exact x
  | some f => obtain ⟨a, h1, h2⟩ := x; exact ⟨a, h1, e _ _ h2⟩
theorem LowAt.loc {H : Hp} {lo : V} {f : Option (Nat → Int)} (x : LowAt H T lo f) : lo ≠ .undef := by
  cases f with
  | none => intro e; rw [e] at x; cases x
  | some f => obtain ⟨a, rfl, _⟩ := x; nofun
theorem law_node (t : TreeAt H L T) (ok : T.Ok) (hn : n < T.sz) {lo : V} {f : Option (Nat → Int)} {full : Bool} (hlo : LowAt H T lo f)
    (q : ∀ H', Ext H H' → Q (.ret (.int (T.lnode f full n))) H') : wF f_law_node [.ref L.tree, .int n, lo, .bool full] H Q := by
  have cn := ok.cnt n
  unfold Tr.lnode at q
  refine f_mk rfl ?_
  unfold b_law_node
  walk_at "y"
  refine up_of t.tree rfl ?_
  refine s_seq (s_if (t_and (t_cmp (e_loc (v := .int n) rfl (e_int (c_gt ?_))))))
  have draws : ∀ (P : Bool → Hp → Prop), P (decide (0 < n ∧ T.dr n = true)) H → if decide ((0 : Int) < (n : Int)) = true then wT (tVal (eSub (eLoc 7) (eLoc 1))) [V.ref L.tree, V.int n, lo, V.bool full, .ref L.ch, .ref L.va, .ref L.ck, .ref L.dr, .ref L.no, .undef, .undef, .undef] H P else P false H := by
    intro P h
    by_cases c : 0 < n
    · refine ifT (decide_eq_true (by lia)) ?_
      walk_at "y"
      refine g_tab t.dr n rfl hn ?_
      walk_at "y"
      have e : decide (0 < n ∧ T.dr n = true) = T.dr n := by cases T.dr n <;> simp [c]
      rwa [e] at h
    · refine ifF (by rw [decide_eq_false (by lia)]; nofun) ?_
      have e : decide (0 < n ∧ T.dr n = true) = false := by simp [c]
      rwa [e] at h
  refine draws _ ?_
  by_cases c : 0 < n ∧ T.dr n = true
  · walk_at "z"; refine ifT (decide_eq_true c) ?_
    rw [if_pos c] at q
    walk_at "y"
    exact q _ (.refl _)
  · walk_at "z"; refine ifF (by walk_at "z"; rw [decide_eq_false c]; nofun) ?_
    rw [if_neg c] at q
    refine s_pass ?_
    refine s_seq (s_assign ?_)
    walk_at "y"
    refine g_tab t.ch n rfl hn ?_
    have hch := t.chA n hn
    have fck : ∀ {ρ : List V} (P : Bool → Hp → Prop), locV ρ 3 = some (.bool full) → locV ρ 6 = some (.ref L.ck) → locV ρ 1 = some (.int n) → P (full || T.ck n) H → wT (tOr (tVal (eLoc 3)) (tVal (eSub (eLoc 6) (eLoc 1)))) ρ H P := by
      intro ρ P h3 h6 h1 h
      refine t_or (t_val (e_loc h3 (u_bool ?_)))
      cases full with
      | true => walk_at "z"; refine ifT rfl ?_; exact h
      | false =>
        walk_at "z"; refine ifF nofun ?_
        exact t_val (e_sub (e_loc h6 (e_loc h1 (g_tab t.ck n rfl hn (u_bool h)))))
    refine s_seq (s_if (t_and (fck _ rfl rfl rfl ?_)))
    have rest : ¬ ((full || T.ck n) = true ∧ T.cnt n = 0) → wS (sSeq (sIf (tCmp .isn (eLoc 2) eNone)
    (sRet (eSub (eLoc 5) (eLoc 1)))
    sPass)
  (sSeq (sIf (tOr (tVal (eLoc 3)) (tVal (eSub (eLoc 6) (eLoc 1))))
    (sRet (eMax1 (eComp 11 (iSeq (eLoc 9)) none (eCall f_law_up [(eSub (eLoc 2) (eLoc 11))]))))
    sPass)
  (sRet (eMax1 (eBin .add (eList [(eSub (eLoc 5) (eLoc 1))]) (eComp 10 (iRange1 (eLen (eLoc 9))) (some (tVal (eSub (eSub (eLoc 8) (eLoc 1)) (eLoc 10)))) (eCall f_law_up [(eSub (eLoc 2) (eSub (eLoc 9) (eLoc 10)))]))))))) [V.ref L.tree, V.int n, lo, V.bool full, .ref L.ch, .ref L.va, .ref L.ck, .ref L.dr, .ref L.no, .ref (L.chA n), .undef, .undef] H (fin Q) := by
      intro hne
      rw [if_neg hne] at q
      cases f with
      | none =>
        obtain rfl : lo = .none := hlo
        walk_at "y"
        refine c_isn ?_
        walk_at "z"; refine ifT rfl ?_
        walk_at "y"
        exact g_tab t.va n rfl hn (q _ (.refl _))
      | some f =>
        refine x1_2 hlo fun a o1 hf => ?_
        clear hlo
        subst o1
        walk_at "y"
        refine c_isn_ref ?_
        walk_at "z"; refine ifF nofun ?_
        refine s_pass ?_
        refine s_seq (s_if (fck _ rfl rfl rfl ?_))
        by_cases c3 : (full || T.ck n) = true
        · walk_at "z"; refine ifT c3 ?_
          simp only [if_pos c3] at q
          walk_at "x"
          refine seq_lst hch ?_
          refine m_lst (fun j => .int (upI (f (T.kid n j)))) (by rw [tab_len]; lia) hch (fun i v H' hv e => ?_) (fun H' e => ?_)
          · have hi : i < T.cnt n := by have := (List.getElem?_eq_some_iff.mp hv).1; rwa [tab_len] at this
            rw [tab_get _ hi] at hv
            cases hv
            walk_at "x"
            refine g_tab (e _ _ hf) (T.kid n i) rfl (ok.kid n i hn hi).2 ?_
            walk_at "x"
            exact law_up ⟨rfl, .refl _⟩
          · intro k H2 N
            rw [tab_len] at N
            have e4 : tab (T.cnt n) (fun j => V.int (upI (f (T.kid n j)))) = ((T.kids n).map fun k => upI (f k)).map V.int := by simp [tab, Tr.kids]
            have hk : H2[k]? = some (.list (((T.kids n).map fun k => upI (f k)).map V.int)) := by rw [← e4]; exact N.is
            refine ints_of hk ?_
            have : T.cnt n ≠ 0 := fun h => hne ⟨c3, h⟩
            cases hK : (T.kids n).map fun k => upI (f k) with
            | nil => exact absurd (congrArg List.length hK) (by simp [Tr.kids, this])
            | cons i r =>
              rw [hK] at q
              exact ⟨i, r, rfl, q _ (e.trans N.ext)⟩
        · walk_at "z"; refine ifF c3 ?_
          simp only [if_neg c3] at q
          walk_at "y"
          refine g_tab t.va n rfl hn ?_
          walk_at "y"
          intro k1 H1 N1
          have hch1 := N1.ext _ _ hch
          walk_at "y"
          refine ⟨by walk_at "w", ?_⟩
          refine m_upIf (n := T.cnt n) (T.no n) (fun j => .int (upI (f (T.kid n j)))) (by lia) (by lia) (fun i H' hi e => ?_) (fun H' e => ?_)
          · walk_at "x"
            refine g_tab (e _ _ (N1.ext _ _ t.no)) n rfl hn ?_
            walk_at "x"
            refine g_tab (e _ _ (N1.ext _ _ (t.noA n hn))) i (by lia) hi ?_
            walk_at "x"
            refine ⟨rfl, .refl _, fun _ => ?_⟩
            walk_at "x"
            refine g_tab (e _ _ hch1) i (by lia) hi ?_
            refine g_tab (e _ _ (N1.ext _ _ hf)) (T.kid n i) rfl (ok.kid n i hn hi).2 ?_
            walk_at "x"
            exact law_up ⟨rfl, .refl _⟩
          · intro k2 H2 N2
            refine b_cat (N2.ext _ _ (e _ _ N1.is)) N2.is (by have := List.length_filter_le (T.no n) (List.range (T.cnt n)); simp at this ⊢; lia) ?_
            intro k3 H3 N3
            have hk : H3[k3]? = some (.list ((T.va n :: (T.nkids n).map fun k => upI (f k)).map V.int)) := by rw [N3.is]; simp [Tr.nkids]
            exact ints_of hk ⟨_, _, rfl, q _ (N1.ext.trans (e.trans (N2.ext.trans N3.ext)))⟩
    by_cases c2 : (full || T.ck n) = true
    · walk_at "z"; refine ifT c2 ?_
      walk_at "y"
      rw [tab_nil_iff]
      by_cases c3 : T.cnt n = 0
      · refine ifT (by simp [c3]) ?_
        rw [if_pos ⟨c2, c3⟩] at q
        walk_at "y"
        refine g_tab t.ck n rfl hn ?_
        walk_at "y"
        by_cases c4 : T.ck n = true
        · refine ifT c4 ?_
          rw [if_pos c4] at q
          walk_at "y"
          exact q _ (.refl _)
        · refine ifF c4 ?_
          rw [if_neg c4] at q
          walk_at "y"
          exact q _ (.refl _)
      · refine ifF (by simp [c3]) ?_
        refine s_pass ?_
        exact rest fun h => c3 h.2
    · walk_at "z"; refine ifF c2 ?_; walk_at "z"; refine ifF nofun ?_
      refine s_pass ?_
      exact rest fun h => c2 h.1
end
structure LevAt (H : Hp) (T : Tr) (q k i : Nat) (la : Nat → Nat) : Prop where
  tb : H[k]? = some (.list (tab i fun l => .ref (la l)))
  row : ∀ l, l < i → H[la l]? = some (.list (tab T.sz fun n => .int (T.lev q l n)))
section
variable {H : Hp} {L : Lay} {T : Tr} {n : Nat} {Q : FR → Hp → Prop}
theorem law_levels (t : TreeAt H L T) (ok : T.Ok) {d q : Nat} (hd : d < 10) (hq : q < 10)
    (k : ∀ m la H', Ext H H' → H.length ≤ m → LevAt H' T q m (q + d + 1) la → Q (.ret (.ref m)) H') : wF f_law_levels [.ref L.tree, .int d, .int q] H Q := by
  have hz := ok.szh
  refine f_mk rfl ?_
  unfold b_law_levels
  walk_at "y"
  intro m H1 N1
  walk_at "y"
  refine ⟨by walk_at "w", ?_⟩
  have mlt := N1.lt
  refine l_up (n := q + d + 1) (fun i ρ' H' => (∃ lo w5 w6, ρ' = [.ref L.tree, .int d, .int q, .ref m, lo, w5, w6] ∧ LowAt H' T lo (if i = 0 then none else some (T.lev q (i - 1)))) ∧ Ext H H' ∧ H1.length ≤ H'.length ∧ ∃ la, LevAt H' T q m i la ∧ ∀ l, l < i → m < la l) (by lia) (by lia) ?_ (fun i ρ' H' hi z => ?_) (fun ρ' H' z => ?_)
  · exact ⟨⟨_, _, _, rfl, rfl⟩, N1.ext, Nat.le_refl _, fun _ => 0, ⟨N1.is, fun l h => absurd h (by lia)⟩, fun l h => absurd h (by lia)⟩
  · refine x0_4 z fun o1 e hl o2 => ?_
    clear z
    refine x3_2 o1 fun lo w5 w6 o17 hlo => ?_
    clear o1
    subst o17
    refine x1_2 o2 fun la la1 la2 => ?_
    clear o2
    have t' := t.mono e
    have tt := t'.tree
    walk_at "y"
    refine g_tup tt 0 rfl rfl ?_
    refine n_tab t'.ch ?_
    refine ⟨by walk_at "w", ?_⟩
    refine m_up (n := T.sz) (fun n => .int (T.lev q i n)) (by lia) (by lia) (fun n H2 hn e2 => ?_) (fun H2 e2 => ?_)
    · refine e_call (es_cons (e_loc rfl (es_cons (e_loc rfl (es_cons (e_loc (v := lo) ?_ (es_cons ?_)))))))
      · have := hlo.loc
        revert this
        cases lo <;> intro h <;> first | rfl | exact absurd rfl h
      walk_at "x"
      have key := law_node (t'.mono e2) ok hn (full := decide ((q : Int) < 0 + (i : Int))) (hlo.mono e2) (Q := fun r H3 => onR r fun v => v = .int (T.lev q i n) ∧ Ext H2 H3) fun H3 e3 => ?_
      · have e0 : ((0 : Int) + (n : Int)) = n := by lia
        rw [e0]
        exact key
      · refine ⟨?_, e3⟩
        cases i with
        | zero =>
          have : decide ((q : Int) < 0 + ((0 : Nat) : Int)) = false := decide_eq_false (by lia)
          rw [this]; rfl
        | succ i =>
          have : decide ((q : Int) < 0 + ((i + 1 : Nat) : Int)) = decide (q < i + 1) := by
            by_cases c : q < i + 1
            · rw [decide_eq_true c, decide_eq_true (by lia)]
            · rw [decide_eq_false c, decide_eq_false (by lia)]
          rw [this]; rfl
    · intro a H3 N3
      have e3 := e2.trans N3.ext
      have hm := e3 _ _ la1.tb
      walk_at "y"
      refine push_of hm (by rw [tab_len]; lia) ?_
      have ha : m < a := by have := N3.ge; have := e2.len; lia
      have hm' := List.getElem?_eq_some_iff.mp hm
      refine ⟨⟨_, _, _, rfl, ?_⟩, (e.trans e3).set (n := m) N1.ge _, ?_, fun l => if l = i then a else la l, ⟨?_, fun l h => ?_⟩, fun l h => ?_⟩
      · rw [if_neg (by lia)]
        exact ⟨a, rfl, by rw [List.getElem?_set_ne (by lia)]; exact N3.is⟩
      · rw [List.length_set]; have := e3.len; lia
      · rw [List.getElem?_set_self hm'.1, tab_up]
        simp only [apply_ite V.ref]
      · by_cases c : l = i
        · subst c
          simp only [if_true]
          rw [List.getElem?_set_ne (by lia)]; exact N3.is
        · simp only [if_neg c]
          have := la2 l (by lia)
          rw [List.getElem?_set_ne (by lia)]; exact e3 _ _ (la1.row l (by lia))
      · show m < if l = i then a else la l
        by_cases c : l = i
        · rw [if_pos c]; exact ha
        · rw [if_neg c]; exact la2 l (by lia)
  · refine x0_4 z fun o3 e hl o4 => ?_
    clear z
    refine x3_2 o3 fun lo w5 w6 o18 hlo => ?_
    clear o3
    subst o18
    refine x1_2 o4 fun la la1 la2 => ?_
    clear o4
    walk_at "y"
    exact k m la H' e N1.ge la1
end
noncomputable def sumT (n : Nat) (f : Nat → Int) : Int := (tab n f).sum
theorem sumT_succ (n : Nat) (f : Nat → Int) : sumT (n + 1) f = sumT n f + f n := by simp [sumT, tab_succ]
theorem sumT_congr {n : Nat} {f g : Nat → Int} (h : ∀ i, i < n → f i = g i) : sumT n f = sumT n g := by unfold sumT; rw [tab_congr h]
theorem sumT_add (n : Nat) (f g : Nat → Int) : sumT n (fun i => f i + g i) = sumT n f + sumT n g := by
  induction n with
  | zero => rfl
  | succ n ih => rw [sumT_succ, sumT_succ, sumT_succ, ih]; lia
noncomputable def dot (n : Nat) (a f : Nat → Int) : Int := sumT n fun i => a i * f i
theorem dot_upd {n : Nat} {a f : Nat → Int} {k : Nat} (hk : k < n) (c : Int) : dot n (fun i => if i = k then a k + c else a i) f = dot n a f + c * f k := by
  unfold dot
  induction n with
  | zero => lia
  | succ n ih =>
    rw [sumT_succ, sumT_succ]
    dsimp only
    by_cases e : k = n
    · subst e
      rw [if_pos rfl, Int.add_mul, sumT_congr (g := fun i => a i * f i) fun i h => by rw [if_neg (by lia)]]
      lia
    · have := ih (by lia)
      dsimp only at this
      rw [if_neg (by lia), this]
      lia
theorem dot_zero (n : Nat) (f : Nat → Int) : dot n (fun _ => 0) f = 0 := by
  unfold dot
  induction n with
  | zero => rfl
  | succ n ih => rw [sumT_succ, ih]; simp
theorem dot_one (n : Nat) (f : Nat → Int) (h : 0 < n) : dot n (fun i => if i = 0 then 1 else 0) f = f 0 := by
  have := dot_upd (a := fun _ => 0) (f := f) h 1
  rw [dot_zero] at this
  simpa using this
noncomputable def Tr.below (T : Tr) (D r p n : Nat) : Int := if 0 < p ∧ T.dr n = true then 0 else ((T.steps D p n).map fun j => T.cnF D r (p + 1) (T.kid n j)).sum
theorem cnF_succ (T : Tr) (D r p n : Nat) : T.cnF D (r + 1) p n = 1 + T.below D r p n := rfl
structure CD where
  hr : Nat
  tot : Int
  w10 : V
  w11 : V
  w12 : V
  w13 : V
  h : Nat → Int
structure CI (H : Hp) (L : Lay) (T : Tr) (D q p : Nat) (ρ' : List V) (H' : Hp) (C : CD) : Prop where
  env : ρ' = [.ref L.tree, .int D, .int q, .ref L.ch, .ref L.va, .ref L.ck, .ref L.dr, .ref L.no, .ref C.hr, .int C.tot, C.w10, C.w11, C.w12, C.w13]
  gr : H.length ≤ C.hr
  hh : H'[C.hr]? = some (.list (tab T.sz fun n => .int (C.h n)))
  hs : C.tot + dot T.sz C.h (T.cnF D (D + q + 1 - p) p) = T.cnF D (D + q + 1) 0 0
  e : Ext H H'
section
variable {H : Hp} {L : Lay} {T : Tr} {n : Nat} {Q : FR → Hp → Prop}
theorem law_count (t : TreeAt H L T) (ok : T.Ok) {D q : Nat} (hd : D < 10) (hq : q < 10)
    (k : ∀ H', Ext H H' → Q (.ret (.int (T.cnF D (D + q + 1) 0 0))) H') : wF f_law_count [.ref L.tree, .int D, .int q] H Q := by
  have hz := ok.szh
  have hz' := ok.szl
  have tt := t.tree
  have tc := t.ch
  refine f_mk rfl ?_
  unfold b_law_count
  walk_at "y"
  refine up_of tt rfl ?_
  walk_at "y"
  intro b H1 N1
  have tc1 := N1.ext _ _ tc
  walk_at "y"
  refine b_rep N1.is (by lia) ?_
  intro h0 H2 N2
  have e2 := N1.ext.trans N2.ext
  have hh : H2[h0]? = some (.list (tab T.sz fun _ => .int 0)) := by rw [N2.is, Int.toNat_natCast, tab_rep]
  have g0 : H.length ≤ h0 := by have := N2.ge; have := N1.ext.len; lia
  walk_at "y"
  refine set_tab hh 0 rfl (by lia) ?_
  walk_at "y"
  refine ⟨by walk_at "w", ?_⟩
  refine l_up (n := D + q + 1) (fun p ρ' H' => ∃ C, CI H L T D q p ρ' H' C) (by lia) (by lia) ?_ (fun p ρ' H' hp z => ?_) (fun ρ' H' z => ?_)
  · refine ⟨⟨h0, 0, .undef, .undef, .undef, .undef, fun i => if i = 0 then 1 else 0⟩, rfl, g0, ?_, ?_, e2.set (n := h0) g0 _⟩
    · show (List.set H2 h0 _)[h0]? = some (O.list (tab T.sz fun n => .int (if n = 0 then 1 else 0)))
      rw [List.getElem?_set_self (List.getElem?_eq_some_iff.mp hh).1]
      congr 3
      funext j
      by_cases c : j = 0 <;> simp [c]
    · show (0 : Int) + dot T.sz (fun i => if i = 0 then 1 else 0) _ = _
      rw [dot_one _ _ (by lia)]; simp
  · refine x1_1 z fun o5 o6 => ?_
    clear z
    obtain ⟨hr, tot, w10, w11, w12, w13, h⟩ := o5
    obtain ⟨rfl, gr, hh, hs, e⟩ := o6
    dsimp only at gr hh hs e
    obtain ⟨r, hr'⟩ : ∃ r, D + q + 1 - p = r + 1 := ⟨D + q - p, by lia⟩
    have hnext : D + q + 1 - (p + 1) = r := by lia
    rw [hr'] at hs
    have t1 := t.mono e
    have tc1 := t1.ch
    refine s_seq (s_aug rfl (e_sum (e_loc rfl (ints_of (is := tab T.sz h) (by rw [hh, tab_map]) ⟨_, rfl, ?_⟩))))
    walk_at "y"
    intro b' H3 N3
    have tc3 := N3.ext _ _ tc1
    walk_at "y"
    refine b_rep N3.is (by lia) ?_
    intro af H4 N4
    have e4 := N3.ext.trans N4.ext
    have haf : H4[af]? = some (.list (tab T.sz fun _ => .int 0)) := by rw [N4.is, Int.toNat_natCast, tab_rep]
    have gaf : H'.length ≤ af := by have := N4.ge; have := N3.ext.len; lia
    have tc4 := N4.ext _ _ tc3
    walk_at "y"
    refine ⟨by walk_at "w", ?_⟩
    refine l_up (n := T.sz) (fun i ρ' K => (∃ w12 w13, ρ' = [.ref L.tree, .int D, .int q, .ref L.ch, .ref L.va, .ref L.ck, .ref L.dr, .ref L.no, .ref hr, .int (tot + (tab T.sz h).sum), .int (0 + (p : Int)), .ref af, w12, w13]) ∧
      (∃ a : Nat → Int, K[af]? = some (.list (tab T.sz fun n => .int (a n))) ∧ dot T.sz a (T.cnF D r (p + 1)) = sumT i fun n => h n * T.below D r p n) ∧ Ext H' K) (by lia) (by lia) ?_ (fun i ρ' K hi z => ?_) (fun ρ' K z => ?_)
    · refine ⟨⟨_, _, rfl⟩, ⟨fun _ => 0, haf, ?_⟩, e4⟩
      rw [dot_zero]; rfl
    · refine x0_3 z fun o7 o8 eK => ?_
      clear z
      refine x2_1 o7 fun w12 w13 o19 => ?_
      clear o7
      subst o19
      refine x1_2 o8 fun a ha hd1 => ?_
      clear o8
      have tK := t1.mono eK
      have gp : 0 + (p : Int) = (p : Nat) := by lia
      have gi : 0 + (i : Int) = (i : Nat) := by lia
      rw [gp, gi]
      have skip_ : T.below D r p i = 0 → dot T.sz a (T.cnF D r (p + 1)) = sumT (i + 1) fun n => h n * T.below D r p n := fun c => by
        rw [sumT_succ, hd1, c]; simp
      refine s_seq (s_if (t_and (t_cmp (e_loc (v := .int p) rfl (e_int (c_gt ?_))))))
      have draws : ∀ (P : Bool → Hp → Prop), P (decide (0 < p ∧ T.dr i = true)) K → if decide ((0 : Int) < (p : Int)) = true then wT (tVal (eSub (eLoc 6) (eLoc 12))) [.ref L.tree, .int D, .int q, .ref L.ch, .ref L.va, .ref L.ck, .ref L.dr, .ref L.no, .ref hr, .int (tot + (tab T.sz h).sum), .int (p : Int), .ref af, .int (i : Int), w13] K P else P false K := by
        intro P hP
        by_cases c : 0 < p
        · refine ifT (decide_eq_true (by lia)) ?_
          walk_at "y"
          refine g_tab tK.dr i rfl hi ?_
          walk_at "y"
          have e : decide (0 < p ∧ T.dr i = true) = T.dr i := by cases T.dr i <;> simp [c]
          rwa [e] at hP
        · refine ifF (by rw [decide_eq_false (by lia)]; nofun) ?_
          have e : decide (0 < p ∧ T.dr i = true) = false := by simp [c]
          rwa [e] at hP
      refine draws _ ?_
      by_cases c : 0 < p ∧ T.dr i = true
      · walk_at "z"; refine ifT (decide_eq_true c) ?_
        refine s_cont ?_
        exact ⟨⟨_, _, rfl⟩, ⟨a, ha, skip_ (if_pos c)⟩, eK⟩
      · walk_at "z"; refine ifF (by walk_at "z"; rw [decide_eq_false c]; nofun) ?_
        refine s_pass ?_
        have cn := ok.cnt i
        have hch := tK.chA i hi
        refine s_for (i_range1 (e_len (e_sub (e_loc rfl (e_loc rfl (g_tab tK.ch i rfl hi (n_tab hch ⟨by walk_at "w", ?_⟩)))))))
        have fb : T.below D r p i = ((T.steps D p i).map fun j => T.cnF D r (p + 1) (T.kid i j)).sum := if_neg c
        refine l_up (n := T.cnt i) (fun j ρ' K' => (∃ w13, ρ' = [.ref L.tree, .int D, .int q, .ref L.ch, .ref L.va, .ref L.ck, .ref L.dr, .ref L.no, .ref hr, .int (tot + (tab T.sz h).sum), .int (p : Int), .ref af, .int (i : Int), w13]) ∧
          (∃ a : Nat → Int, K'[af]? = some (.list (tab T.sz fun n => .int (a n))) ∧ dot T.sz a (T.cnF D r (p + 1)) = (sumT i fun n => h n * T.below D r p n) + h i * ((((List.range j).filter (T.en D p i)).map fun j => T.cnF D r (p + 1) (T.kid i j)).sum)) ∧ Ext H' K') (by lia) (by lia) ?_ (fun j ρ' K' hj z => ?_) (fun ρ' K' z => ?_)
        · refine ⟨⟨_, rfl⟩, ⟨a, ha, ?_⟩, eK⟩
          rw [hd1]; simp
        · refine x0_3 z fun o9 o10 eK' => ?_
          clear z
          refine x1_1 o9 fun w13 o20 => ?_
          clear o9
          subst o20
          refine x1_2 o10 fun a' ha' hd2 => ?_
          clear o10
          have tK' := t1.mono eK'
          have gj : 0 + (j : Int) = (j : Nat) := by lia
          rw [gj]
          have ens : ∀ (P : Bool → Hp → Prop), P (T.en D p i j) K' → wT (tOr (tCmp .lt (eLoc 10) (eLoc 1)) (tOr (tVal (eSub (eLoc 5) (eLoc 12))) (tVal (eSub (eSub (eLoc 7) (eLoc 12)) (eLoc 13))))) [.ref L.tree, .int D, .int q, .ref L.ch, .ref L.va, .ref L.ck, .ref L.dr, .ref L.no, .ref hr, .int (tot + (tab T.sz h).sum), .int (p : Int), .ref af, .int (i : Int), .int (j : Int)] K' P := by
            intro P hP
            unfold Tr.en at hP
            walk_at "y"
            by_cases c1 : p < D
            · refine ifT (decide_eq_true (by lia)) ?_
              rw [decide_eq_true c1] at hP; exact hP
            · refine ifF (by rw [decide_eq_false (by lia)]; nofun) ?_
              rw [decide_eq_false c1] at hP
              walk_at "y"
              refine g_tab tK'.ck i rfl hi ?_
              walk_at "y"
              cases hck : T.ck i with
              | true => refine ifT rfl ?_; rw [hck] at hP; exact hP
              | false =>
                refine ifF nofun ?_
                rw [hck] at hP
                walk_at "y"
                refine g_tab tK'.no i rfl hi ?_
                walk_at "y"
                refine g_tab (tK'.noA i hi) j rfl hj ?_
                walk_at "y"
                exact hP
          refine s_if (ens _ ?_)
          have hsum : (((List.range (j + 1)).filter (T.en D p i)).map fun j => T.cnF D r (p + 1) (T.kid i j)).sum = (((List.range j).filter (T.en D p i)).map fun j => T.cnF D r (p + 1) (T.kid i j)).sum + (if T.en D p i j = true then T.cnF D r (p + 1) (T.kid i j) else 0) := by
            rw [List.range_succ, List.filter_append, List.map_append, List.sum_append]
            congr 1
            rw [List.filter_cons]
            split <;> simp
          by_cases c2 : T.en D p i j = true
          · walk_at "z"; refine ifT c2 ?_
            have hkid := ok.kid i j hi hj
            refine s_augSub (e_loc rfl (e_sub (e_sub (e_loc rfl (e_loc rfl (g_tab tK'.ch i rfl hi (e_loc rfl (g_tab (tK'.chA i hi) j rfl hj ?_))))))))
            refine g_tab ha' (T.kid i j) rfl hkid.2 (e_sub (e_loc rfl (e_loc rfl (g_tab (eK' _ _ hh) i rfl hi ⟨af, rfl, ?_⟩))))
            refine set_tab ha' (T.kid i j) rfl hkid.2 ?_
            refine ⟨⟨_, rfl⟩, ⟨fun n => if n = T.kid i j then a' (T.kid i j) + h i else a' n, ?_, ?_⟩, eK'.set (n := af) gaf _⟩
            · rw [List.getElem?_set_self (List.getElem?_eq_some_iff.mp ha').1]
              congr 3
              funext n
              by_cases c : n = T.kid i j <;> simp [c]
            · rw [dot_upd hkid.2, hd2, hsum, if_pos c2, Int.mul_add]; lia
          · walk_at "z"; refine ifF c2 ?_
            refine s_pass ⟨⟨_, rfl⟩, ⟨a', ha', ?_⟩, eK'⟩
            rw [hd2, hsum, if_neg c2, Int.add_zero]
        · refine x0_3 z fun o11 o12 eK' => ?_
          clear z
          refine x1_1 o11 fun w13 o21 => ?_
          clear o11
          subst o21
          refine x1_2 o12 fun a' ha' hd2 => ?_
          clear o12
          refine ⟨⟨_, _, rfl⟩, ⟨a', ha', ?_⟩, eK'⟩
          rw [hd2, sumT_succ, fb]; rfl
    · refine x0_3 z fun o13 o14 eK => ?_
      clear z
      refine x2_1 o13 fun w12 w13 o22 => ?_
      clear o13
      subst o22
      refine x1_2 o14 fun a ha hd1 => ?_
      clear o14
      walk_at "y"
      refine ⟨⟨af, tot + (tab T.sz h).sum, .int (0 + (p : Int)), .ref af, w12, w13, a⟩, rfl, ?_, ha, ?_, e.trans eK⟩
      · have := e.len; show H.length ≤ af; lia
      · show tot + (tab T.sz h).sum + dot T.sz a (T.cnF D (D + q + 1 - (p + 1)) (p + 1)) = _
        rw [hnext, hd1, ← hs]
        have : dot T.sz h (T.cnF D (r + 1) p) = sumT T.sz h + sumT T.sz fun n => h n * T.below D r p n := by
          unfold dot
          rw [← sumT_add]
          refine sumT_congr fun i _ => ?_
          rw [cnF_succ, Int.mul_add, Int.mul_one]
        rw [this]
        unfold sumT
        lia
  · refine x1_1 z fun o15 o16 => ?_
    clear z
    obtain ⟨hr, tot, w10, w11, w12, w13, h⟩ := o15
    obtain ⟨rfl, gr, hh, hs, e⟩ := o16
    dsimp only at gr hh hs e
    walk_at "y"
    rw [Nat.sub_self] at hs
    have : dot T.sz h (T.cnF D 0 (D + q + 1)) = 0 := by
      have h2 : dot T.sz h (T.cnF D 0 (D + q + 1)) = dot T.sz (fun _ => 0) fun _ => 0 := by
        unfold dot
        exact sumT_congr fun i _ => by simp [Tr.cnF]
      rw [h2, dot_zero]
    rw [this] at hs
    have hs' : tot = T.cnF D (D + q + 1) 0 0 := by lia
    rw [hs']
    exact k _ e
end
theorem eqv_base {v : V} {d : PyData} (e : dataB v = some d) : PyData.eqv d d = true := by
  match v, e with
  | .none, e => cases e; simp [PyData.eqv]
  | .bool b, e => cases e; simp [PyData.eqv]
  | .int i, e => cases e; simp [PyData.eqv]
theorem eqv_map {f : V → Option PyData} (hf : ∀ v d, f v = some d → PyData.eqv d d = true) : ∀ (vs : List V) (ds : List PyData), mapO f vs = some ds → PyData.eqvAll ds ds = true
  | [], ds, e => by cases e; simp [PyData.eqvAll]
  | v :: r, ds, e => by
    refine x1_2 (Option.bind_eq_some_iff.mp e) fun d e1 e2 => ?_
    refine x1_2 (Option.map_eq_some_iff.mp e2) fun ds' e3 o1 => ?_
    subst o1
    rw [PyData.eqvAll, hf v d e1, eqv_map hf r ds' e3]; rfl
theorem eqv_obj {f : V → Option PyData} (hf : ∀ v d, f v = some d → PyData.eqv d d = true) {o : Option O} {d : PyData} (e : dataO f o = some d) : PyData.eqv d d = true := by
  match o, e with
  | some (.list vs), e =>
    refine x1_2 (Option.map_eq_some_iff.mp e) fun ds e1 o2 => ?_
    subst o2
    show PyData.eqvAll ds ds = true
    exact eqv_map hf vs ds e1
  | some (.tup vs), e =>
    refine x1_2 (Option.map_eq_some_iff.mp e) fun ds e1 o3 => ?_
    subst o3
    show PyData.eqvAll ds ds = true
    exact eqv_map hf vs ds e1
theorem eqv_data {H : Hp} : ∀ (k : Nat) (v : V) (d : PyData), dataV k H v = some d → PyData.eqv d d = true
  | 0, v, d, e => eqv_base e
  | k + 1, .ref n, d, e => eqv_obj (fun v d e => eqv_data k v d e) (o := H[n]?) e
  | k + 1, .none, d, e => eqv_base (v := .none) e
  | k + 1, .bool b, d, e => eqv_base (v := .bool b) e
  | k + 1, .int i, d, e => eqv_base (v := .int i) e
noncomputable abbrev dataVs (k : Nat) (H : Hp) (vs : List V) : Option (List PyData) := mapO (dataV k H) vs
section
variable {H : Hp} {x y : V} {d : PyData} {Q : Bool → Prop}
theorem c_eq_same (h1 : dataV 4 H x = some d) (h2 : dataV 4 H y = some d) (q : Q true) : wC .eq x y H Q := ⟨_, by show (match dataV 4 H x, dataV 4 H y with | some d, some e => some (PyData.eqv d e) | _, _ => none) = _; rw [h1, h2]; show some (PyData.eqv d d) = _; rw [eqv_data 4 x d h1], q⟩
theorem c_ne_same (h1 : dataV 4 H x = some d) (h2 : dataV 4 H y = some d) (q : Q false) : wC .ne x y H Q := ⟨_, by show (match dataV 4 H x, dataV 4 H y with | some d, some e => some (!PyData.eqv d e) | _, _ => none) = _; rw [h1, h2]; show some (!PyData.eqv d d) = _; rw [eqv_data 4 x d h1]; rfl, q⟩
end
theorem map_app {f : V → Option PyData} {v : V} {d : PyData} (e' : f v = some d) : ∀ (l : List V) (ds : List PyData), mapO f l = some ds → mapO f (l ++ [v]) = some (ds ++ [d])
  | [], ds, e => by cases e; show (f v).bind _ = _; rw [e']; rfl
  | a :: l, ds, e => by
    refine x1_2 (Option.bind_eq_some_iff.mp e) fun d0 e1 e2 => ?_
    refine x1_2 (Option.map_eq_some_iff.mp e2) fun ds' e3 o4 => ?_
    subst o4
    show (f a).bind _ = _
    rw [e1]
    show (mapO f (l ++ [v])).map _ = _
    rw [map_app e' l ds' e3]; rfl
theorem data_tab {k : Nat} {H : Hp} {f : Nat → V} {g : Nat → PyData} : ∀ (n : Nat), (∀ i, i < n → dataV k H (f i) = some (g i)) → dataVs k H (tab n f) = some (tab n g)
  | 0, _ => rfl
  | n + 1, h => by
    rw [tab_succ, tab_succ]
    exact map_app (h n (Nat.lt_succ_self n)) _ _ (data_tab n fun i hi => h i (Nat.lt_succ_of_lt hi))
theorem data_int (k : Nat) (H : Hp) (i : Int) : dataV k H (.int i) = some (.int i) := by cases k <;> rfl
theorem data_ints {k : Nat} {H : Hp} : ∀ (is : List Int), dataVs k H (is.map .int) = some (is.map .int)
  | [] => rfl
  | i :: r => by
    show (dataV k H (.int i)).bind _ = _
    rw [data_int]
    show (dataVs k H (r.map .int)).map _ = _
    rw [data_ints r]; rfl
theorem data_list {k n : Nat} {H : Hp} {vs : List V} {ds : List PyData} (h : H[n]? = some (.list vs)) (e : dataVs k H vs = some ds) : dataV (k + 1) H (.ref n) = some (.list ds) := by
  show dataO _ H[n]? = _
  rw [h]
  show (dataVs k H vs).map _ = _
  rw [e]; rfl
theorem data_tup {k n : Nat} {H : Hp} {vs : List V} {ds : List PyData} (h : H[n]? = some (.tup vs)) (e : dataVs k H vs = some ds) : dataV (k + 1) H (.ref n) = some (.tuple ds) := by
  show dataO _ H[n]? = _
  rw [h]
  show (dataVs k H vs).map _ = _
  rw [e]; rfl
theorem Line.snoc {T : Tr} {js : List Nat} (l : Line T js) {j : Nat} (h : j < T.cnt (T.at_ js)) : Line T (js ++ [j]) := fun i j' e => by
  by_cases c : i < js.length
  · rw [List.getElem?_append_left c] at e
    rw [List.take_append_of_le_length (by lia)]
    exact l i j' e
  · have : i = js.length := by have := (List.getElem?_eq_some_iff.mp e).1; simp at this; lia
    subst this
    simp at e
    subst e
    simpa using h
section
variable {H : Hp} {L : Lay} {T : Tr} {path : List Nat} {n : Nat} {Q : FR → Hp → Prop}
theorem law_walk (t : TreeAt H L T) (ok : T.Ok) {x : Int} {c : Nat} (hc : c < 10)
    (k : ∀ js m r H', Line T js → js.length ≤ c → Ext H H' → H.length ≤ m → H'[m]? = some (.list (js.map mv)) → H'[r]? = some (.tup [.ref m, .int (T.at_ js)]) → Q (.ret (.ref r)) H') : wF f_law_walk [.ref L.tree, .int x, .int c] H Q := by
  refine f_mk rfl ?_
  unfold b_law_walk
  walk_at "y"
  intro m H1 N1
  walk_at "y"
  refine s_while (w_while (fun k ρ' H' => ∃ js w5, k = c - js.length ∧ ρ' = [.ref L.tree, .int x, .int c, .int (T.at_ js), .ref m, w5] ∧ Ext H H' ∧ Line T js ∧ js.length ≤ c ∧ H'[m]? = some (.list (js.map mv))) c (by lia) ?_ fun k' ρ' H' z => ?_)
  · exact ⟨[], _, rfl, rfl, N1.ext, fun i j e => by simp at e, by simp, N1.is⟩
  · refine x2_6 z fun js w5 o5 o6 e l hl hm => ?_
    clear z
    subst o5
    subst o6
    have t' := t.mono e
    have hat := l.lt' ok
    have cn := ok.cnt (T.at_ js)
    have fin_ : thn (sRet (eTup [(eLoc 4), (eLoc 3)])) (fin Q) .next [.ref L.tree, .int x, .int c, .int (T.at_ js), .ref m, w5] H' := by
      walk_at "y"
      intro r H2 N2
      exact k js m r H2 l hl (e.trans N2.ext) N1.ge (N2.ext _ _ hm) N2.is
    walk_at "y"
    rw [List.length_map]
    by_cases c1 : js.length < c
    · refine ifT (decide_eq_true (by lia)) ?_
      walk_at "y"
      refine g_tup t'.tree 0 rfl rfl ?_
      walk_at "y"
      refine g_tab t'.ch _ rfl hat ?_
      refine u_list (t'.chA _ hat) ?_
      rw [tab_nil_iff]
      by_cases c2 : T.cnt (T.at_ js) = 0
      · walk_at "z"; refine ifF (by simp [c2]) ?_
        exact fin_
      · walk_at "z"; refine ifT (by simp [c2]) ?_
        walk_at "y"
        rw [List.length_map]
        refine law_digit js.length rfl (by lia) ?_
        walk_at "y"
        refine g_tup t'.tree 0 rfl rfl ?_
        walk_at "y"
        refine g_tab t'.ch _ rfl hat ?_
        refine n_tab (t'.chA _ hat) ?_
        refine b_mod (by lia) ?_
        have hp : (0 : Int) < (T.cnt (T.at_ js) : Nat) := by lia
        have p1 := Int.fmod_nonneg_of_pos (dig x js.length) hp
        have p2 := Int.fmod_lt_of_pos (dig x js.length) hp
        obtain ⟨j, hj⟩ : ∃ j : Nat, (dig x js.length).fmod (T.cnt (T.at_ js) : Nat) = j := ⟨_, (Int.toNat_of_nonneg p1).symm⟩
        rw [hj] at p2 ⊢
        have hj' : j < T.cnt (T.at_ js) := by lia
        walk_at "y"
        refine push_of hm (by simp; lia) ?_
        have e' := e.set (n := m) N1.ge (.list (js.map mv ++ [.int (j + 1)]))
        have t2 := t.mono e'
        walk_at "y"
        refine g_tup t2.tree 0 rfl rfl ?_
        walk_at "y"
        refine g_tab t2.ch _ rfl hat ?_
        walk_at "y"
        refine g_tab (t2.chA _ hat) j rfl hj' ?_
        refine ⟨c - (js ++ [j]).length, by simp; lia, js ++ [j], .int j, rfl, ?_, e', l.snoc hj', by simp; lia, ?_⟩
        · rw [at_snoc]; rfl
        · rw [List.getElem?_set_self (List.getElem?_eq_some_iff.mp hm).1, List.map_append]; rfl
    · rw [if_neg (by rw [decide_eq_false (by lia)]; nofun), if_neg nofun]
      exact fin_
theorem compO {slot : Nat} {it : It} {elt : EM} {ρ : List V} {n : Nat} {H : Hp} {Q : List V → Hp → Prop} (item : Nat → V) (o : Nat → O) (hn : n < 1000)
    (hi : ∀ i H', i < n → Ext H H' → nextV it i H' = some (some (item i))) (he : ∀ H', Ext H H' → nextV it n H' = some none)
    (hs : ∀ i H', i < n → Ext H H' → wE elt (ρ.set slot (item i)) H' fun y H2 => ∃ a, y = .ref a ∧ Ext H' H2 ∧ H.length ≤ a ∧ H2[a]? = some (o i))
    (hd : ∀ (a : Nat → Nat) H', Ext H H' → (∀ i, i < n → H.length ≤ a i ∧ H'[a i]? = some (o i)) → Q (tab n fun i => .ref (a i)) H') : wM slot it none elt ρ H Q := by
  refine comp item (n := n) (fun i vs H' => ∃ a : Nat → Nat, vs = tab i (fun i => .ref (a i)) ∧ Ext H H' ∧ ∀ j, j < i → H.length ≤ a j ∧ H'[a j]? = some (o j)) (fun i vs H' h z => ?_) (fun vs H' z => ?_) (fun i vs H' h z => ?_) (fun vs H' z => ?_) n 0 [] H fuel (by lia) (by unfold fuel; lia) ⟨fun _ => 0, rfl, .refl _, fun j h => absurd h (by lia)⟩
  · obtain ⟨a, _, e, _⟩ := z; exact hi i H' h e
  · obtain ⟨a, _, e, _⟩ := z; exact he H' e
  · obtain ⟨a, rfl, e, ha⟩ := z
    refine (hs i H' h e).mono fun y H2 q => ?_
    obtain ⟨b, rfl, e2, hb, ho⟩ := q
    refine ⟨fun j => if j = i then b else a j, ?_, e.trans e2, fun j hj => ?_⟩
    · rw [tab_up]; simp only [apply_ite V.ref]
    · by_cases c : j = i
      · subst c; simp only [if_true]; exact ⟨hb, ho⟩
      · simp only [if_neg c]
        obtain ⟨h1, h2⟩ := ha j (by lia)
        exact ⟨h1, e2 _ _ h2⟩
  · obtain ⟨a, rfl, e, ha⟩ := z
    exact hd a H' e ha
theorem m_upO {slot : Nat} {elt : EM} {ρ : List V} {H : Hp} {Q : List V → Hp → Prop} {lo hi : Int} {n : Nat} (o : Nat → O) (e : hi = lo + n) (hn : n < 1000)
    (hs : ∀ i H', i < n → Ext H H' → wE elt (ρ.set slot (.int (lo + i))) H' fun y H2 => ∃ a, y = .ref a ∧ Ext H' H2 ∧ H.length ≤ a ∧ H2[a]? = some (o i))
    (hd : ∀ (a : Nat → Nat) H', Ext H H' → (∀ i, i < n → H.length ≤ a i ∧ H'[a i]? = some (o i)) → Q (tab n fun i => .ref (a i)) H') : wM slot (.rng lo hi 1) none elt ρ H Q := by
  subst e
  refine compO (fun i => .int (lo + i)) o hn (fun i H' hi _ => ?_) (fun H' _ => ?_) hs hd
  · have : lo + (i : Int) < lo + (n : Int) := by lia
    simp [nextV, this]
  · simp [nextV]
theorem GameAt.refuses (x : GameAt H L T path n) {e : Int} (he : e < 1 ∨ (T.cnt n : Int) < e) (q : Q (.ret (.bool true)) H) : wF f_law_refuses [.ref L.g, .int e] H Q := by
  have i := x.ins
  refine f_mk rfl ?_
  unfold b_law_refuses
  walk_at "y"
  refine x.key ?_
  refine s_seq (s_try ?_)
  walk_at "y"
  refine c_isn_int ?_
  walk_at "z"; refine ifF nofun ?_
  walk_at "y"
  refine x.makeBad he ⟨rfl, ?_⟩
  walk_at "y"
  refine x.key ?_
  walk_at "y"
  rw [decide_eq_true rfl]
  exact ⟨nofun, q⟩
theorem GameAt.refusesNone (x : GameAt H L T [] n) (q : Q (.ret (.bool true)) H) : wF f_law_refuses [.ref L.g, .none] H Q := by
  have i := x.ins
  refine f_mk rfl ?_
  unfold b_law_refuses
  walk_at "y"
  refine x.key ?_
  refine s_seq (s_try ?_)
  walk_at "y"
  refine c_isn ?_
  walk_at "z"; refine ifT rfl ?_
  walk_at "y"
  refine x.undoBad ⟨rfl, ?_⟩
  walk_at "y"
  refine x.key ?_
  walk_at "y"
  rw [decide_eq_true rfl]
  exact ⟨nofun, q⟩
theorem bit1 : ∀ n : Nat, n < 10 → Builtin.bitAnd (n : Int) 1 = (n : Int).fmod 2 := by decide
theorem tab_filter (n : Nat) (p : Nat → Bool) (f : Nat → V) (g : Nat → Int) (h : ∀ i, f i = .int (g i)) : ((List.range n).filter p).map f = (((List.range n).filter p).map g).map V.int := by
  rw [List.map_map]
  exact List.map_congr_left fun i _ => h i
theorem GameAt.tells (x : GameAt H L T path n) (ok : T.Ok) (hp : path.length < 10) (q : ∀ H', Ext H H' → Q (.ret (.bool true)) H') : wF f_law_tells [.ref L.g, .ref L.tree, .ref L.ga, .int n, .int path.length] H Q := by
  have i := x.ins
  have t := x.treeAt
  have tt := t.tree
  have hn := x.lt
  have cn := ok.cnt n
  refine f_mk rfl ?_
  unfold b_law_tells
  walk_at "y"
  refine up_of tt rfl ?_
  walk_at "y"
  refine g_tab t.ch n rfl hn ?_
  refine n_tab (t.chA n hn) ?_
  walk_at "y"
  refine x.moves ok fun k1 H1 N1 => ?_
  have x1 := x.mono N1.ext
  walk_at "y"
  refine ⟨⟨by walk_at "w", by walk_at "w"⟩, fun k2 H2 N2 => ?_⟩
  rw [show ((T.cnt n : Nat) : Int) + 1 = 1 + (T.cnt n : Nat) from by lia, rangeL_tab] at N2
  have x2 := x1.mono N2.ext
  have d1 : ∀ {K : Hp} {k : Nat}, K[k]? = some (.list (tab (T.cnt n) fun (i : Nat) => V.int (1 + (i : Int)))) → dataV 4 K (.ref k) = some (.list ((tab (T.cnt n) fun (i : Nat) => 1 + (i : Int)).map PyData.int)) := fun h => data_list h (by rw [← data_ints, tab_map])
  refine c_ne_same (d1 (N2.ext _ _ N1.is)) (d1 N2.is) ?_
  walk_at "z"; refine ifF nofun ?_
  walk_at "y"
  refine x2.refuses (.inl (by decide)) ?_
  walk_at "y"
  refine ifF nofun ?_
  have i2 := x2.ins
  walk_at "y"
  refine x2.noisy ok fun k3 H3 N3 => ?_
  have x3 := x2.mono N3.ext
  walk_at "y"
  refine ⟨by walk_at "w", ?_⟩
  refine m_upIf (n := T.cnt n) (T.no n) (fun i => .int (1 + (i : Int))) (by lia) (by lia) (fun i H' hi e => ?_) (fun H4 e4 => ?_)
  · have x4 := x3.mono e
    walk_at "y"
    refine g_tab x4.treeAt.no n rfl hn ?_
    walk_at "y"
    refine g_tab (x4.treeAt.noA n hn) i (by lia) hi ?_
    walk_at "y"
    refine ⟨rfl, .refl _, fun _ => ?_⟩
    walk_at "y"
    exact ⟨by congr 1; lia, .refl _⟩
  intro k4 H5 N5
  have x5 := (x3.mono e4).mono N5.ext
  have d2 : ∀ {K : Hp} {k : Nat}, K[k]? = some (.list (((List.range (T.cnt n)).filter (T.no n)).map fun (i : Nat) => V.int (1 + (i : Int)))) → dataV 4 K (.ref k) = some (.list ((((List.range (T.cnt n)).filter (T.no n)).map fun (i : Nat) => 1 + (i : Int)).map PyData.int)) := fun h => data_list h (by rw [← data_ints, tab_filter _ _ _ (fun (i : Nat) => 1 + (i : Int)) fun i => rfl])
  refine c_ne_same (d2 ((e4.trans N5.ext) _ _ N3.is)) (d2 N5.is) ?_
  walk_at "z"; refine ifF nofun ?_
  walk_at "y"
  refine x5.refuses (.inr (by lia)) ?_
  walk_at "y"
  refine ifF nofun ?_
  walk_at "y"
  refine ⟨by walk_at "w", ?_⟩
  refine m_upO (n := T.cnt n) (fun i => .tup [.bool (T.no n i), .int (T.ga n i)]) (by lia) (by lia) (fun i H6 hi e6 => ?_) (fun a H6 e6 ha => ?_)
  · have x6 := x5.mono e6
    have i6 := x6.ins
    walk_at "y"
    refine x6.is_noisy i (by lia) hi ?_
    walk_at "y"
    refine x6.gain i (by lia) hi ?_
    walk_at "y"
    intro b H7 N7
    exact ⟨b, rfl, N7.ext, by have := N7.ge; have := e6.len; lia, N7.is⟩
  intro k7 H7 N7
  have x7 := (x5.mono e6).mono N7.ext
  walk_at "y"
  refine ⟨by walk_at "w", ?_⟩
  refine m_upO (n := T.cnt n) (fun i => .tup [.bool (T.no n i), .int (T.ga n i)]) (by lia) (by lia) (fun i H8 hi e8 => ?_) (fun a' H8 e8 ha' => ?_)
  · have x8 := x7.mono e8
    walk_at "y"
    refine g_tab x8.treeAt.no n rfl hn ?_
    walk_at "y"
    refine g_tab (x8.treeAt.noA n hn) i (by lia) hi ?_
    walk_at "y"
    refine g_tab x8.gainAt.ga n rfl hn ?_
    walk_at "y"
    refine g_tab (x8.gainAt.gaA n hn) i (by lia) hi ?_
    walk_at "y"
    intro b H9 N9
    exact ⟨b, rfl, N9.ext, by have := N9.ge; have := e8.len; lia, N9.is⟩
  intro k9 H9 N9
  have x9 := (x7.mono e8).mono N9.ext
  have e79 := e8.trans N9.ext
  have d3 : ∀ {K : Hp} {k : Nat} {a : Nat → Nat}, K[k]? = some (.list (tab (T.cnt n) fun (i : Nat) => V.ref (a i))) → (∀ i, i < T.cnt n → K[a i]? = some (.tup [.bool (T.no n i), .int (T.ga n i)])) → dataV 4 K (.ref k) = some (.list (tab (T.cnt n) fun i => .tuple [.bool (T.no n i), .int (T.ga n i)])) := fun h h2 =>
    data_list h (data_tab _ fun i hi => data_tup (h2 i hi) rfl)
  refine c_ne_same (d3 (e79 _ _ N7.is) fun i hi => e79 _ _ (N7.ext _ _ (ha i hi).2)) (d3 N9.is fun i hi => N9.ext _ _ (ha' i hi).2) ?_
  walk_at "z"; refine ifF nofun ?_
  have i9 := x9.ins
  walk_at "y"
  refine x9.value ?_
  walk_at "y"
  refine x9.key ?_
  walk_at "y"
  refine x9.in_check ?_
  walk_at "y"
  refine x9.is_draw ?_
  walk_at "y"
  refine x9.side ?_
  walk_at "y"
  intro k10 H10 N10
  have x10 := x9.mono N10.ext
  walk_at "y"
  refine g_tab x10.treeAt.va n rfl hn ?_
  walk_at "y"
  refine g_tab x10.treeAt.ck n rfl hn ?_
  walk_at "y"
  refine g_tab x10.treeAt.dr n rfl hn ?_
  walk_at "y"
  refine b_mod (by decide) ?_
  walk_at "y"
  intro k11 H11 N11
  have is10 := N10.is
  rw [bit1 _ hp] at is10
  refine c_eq_same (data_tup (N11.ext _ _ is10) rfl) (data_tup N11.is rfl) ?_
  exact q _ (N1.ext.trans (N2.ext.trans (N3.ext.trans (e4.trans (N5.ext.trans (e6.trans (N7.ext.trans (e79.trans (N10.ext.trans N11.ext)))))))))
theorem law_played (ok : T.Ok) (x : GameAt H L T [] 0) {js : List Nat} (l : Line T js) (hl : js.length < 9) {m : Nat} (hm : H[m]? = some (.list (js.map mv))) (hne : m ≠ L.pa)
    (q : ∀ H', Ext H H' → Q (.ret (.bool true)) H') : wF f_law_played [.ref L.g, .ref L.tree, .ref L.ga, .ref m] H Q := by
  refine f_mk rfl ?_
  unfold b_law_played
  walk_at "y"
  refine ⟨by simp; lia, ?_⟩
  refine l_up (n := js.length + 1) (fun i ρ' H' => (∃ w5 w6, ρ' = [.ref L.g, .ref L.tree, .ref L.ga, .ref m, .int (T.at_ (js.take i)), w5, w6]) ∧ ∃ K, Ext H K ∧ H' = K.set L.pa (pathO T js (min i js.length))) (by simp) (by lia) ?_ (fun i ρ' H' hi z => ?_) (fun ρ' H' z => ?_)
  · exact ⟨⟨_, _, rfl⟩, H, .refl _, (set_id x.path).symm⟩
  · refine x0_2 z fun o7 o8 => ?_
    clear z
    refine x2_1 o7 fun w5 w6 o11 => ?_
    clear o7
    subst o11
    refine x1_2 o8 fun K eK o12 => ?_
    clear o8
    subst o12
    have hi' : i ≤ js.length := by lia
    rw [Nat.min_eq_left hi']
    have y := (x.mono eK).setLine ok l hi'
    have e0 : (0 + (i : Int)) = ((T.pth js i).length : Nat) := by rw [pth_len]; lia
    walk_at "y"
    rw [e0]
    refine y.tells ok (by rw [pth_len]; lia) fun H2 e2 => ?_
    have y2 := y.mono e2
    have i2 := y2.ins
    have eb : Ext K (H2.set L.pa (pathO T js 0)) := (x.mono eK).back e2
    have hm2 : H2[m]? = some (.list (js.map mv)) := e2 _ _ (by rw [List.getElem?_set_ne hne.symm]; exact eK _ _ hm)
    walk_at "y"
    refine ifF nofun ?_
    walk_at "y"
    rw [pth_len, List.length_map]
    by_cases c : i < js.length
    · refine ifT (decide_eq_true (by lia)) ?_
      have hj : js[i]? = some js[i] := List.getElem?_eq_getElem c
      walk_at "y"
      refine g_list hm2 i rfl (v := V.int ((js[i] : Int) + 1)) (by rw [List.getElem?_map, hj]; rfl) ?_
      walk_at "y"
      refine y2.step ok l (by lia) hj ?_
      have y3 := y2.setLine ok l (i := i + 1) c
      have hm3 : (H2.set L.pa (pathO T js (i + 1)))[m]? = some (.list (js.map mv)) := by rw [List.getElem?_set_ne hne.symm]; exact hm2
      have hat := l.lt ok i hi'
      walk_at "y"
      refine g_tup y3.treeAt.tree 0 rfl rfl ?_
      walk_at "y"
      refine g_tab y3.treeAt.ch _ rfl hat ?_
      walk_at "y"
      refine g_list hm3 i rfl (v := V.int ((js[i] : Int) + 1)) (by rw [List.getElem?_map, hj]; rfl) ?_
      walk_at "y"
      refine g_tab (y3.treeAt.chA _ hat) js[i] (by lia) (l i _ hj) ?_
      refine ⟨⟨.int i, w6, ?_⟩, _, eK.trans eb, ?_⟩
      · rw [at_succ T hj]; rfl
      · rw [Nat.min_eq_left c, List.set_set]
    · refine ifF (by rw [decide_eq_false (by lia)]; nofun) ?_
      have hij : i = js.length := by lia
      refine s_pass ⟨⟨.int i, w6, ?_⟩, _, eK.trans eb, ?_⟩
      · rw [hij, List.take_of_length_le (Nat.le_refl _), List.take_of_length_le (by lia)]; rfl
      · rw [Nat.min_eq_right (by lia), List.set_set]
        have := set_id y2.path
        rw [hij] at this
        exact this.symm
  · refine x0_2 z fun o9 o10 => ?_
    clear z
    refine x2_1 o9 fun w5 w6 o13 => ?_
    clear o9
    subst o13
    refine x1_2 o10 fun K eK o14 => ?_
    clear o10
    subst o14
    rw [Nat.min_eq_right (by lia)]
    have y := (x.mono eK).setLine ok l (Nat.le_refl _)
    have hm3 : (K.set L.pa (pathO T js js.length))[m]? = some (.list (js.map mv)) := by rw [List.getElem?_set_ne hne.symm]; exact eK _ _ hm
    walk_at "y"
    refine seq_lst hm3 ?_
    refine undo_loop ok y l (by lia) hm3 (by simp) hne rfl (by decide) (by simp) fun ρ2 hρ2 same => ?_
    have e3 : Ext H ((K.set L.pa (pathO T js js.length)).set L.pa (pathO T js 0)) := eK.trans ((x.mono eK).back (.refl _))
    have y3 := x.mono e3
    refine s_ret (e_call (es_cons (e_loc ((same 0 (by decide)).trans rfl) (es_cons (e_none (es_nil ?_))))))
    exact y3.refusesNone (q _ e3)
end
noncomputable def entI (key mv : Int) : Int := Builtin.bitOr (Builtin.bitOr (Builtin.bitOr (Builtin.bitOr (Builtin.bitOr mv ((0 + 32767 + 1) * 2 ^ 16)) ((1 - -8) * 2 ^ 32)) (3 * 2 ^ 40)) (0 * 2 ^ 42)) (key * 2 ^ 48)
noncomputable def entOk (key mv : Int) : Bool := entI key mv != 0 && (entI key mv).fdiv (2 ^ 48) == key && Builtin.bitAnd (entI key mv) 65535 == mv
theorem ent_all : ((List.range 12).all fun n => (List.range 10).all fun m => entOk ((n : Int) + 1) (m : Int)) = true := by decide +kernel
theorem ent_ok {n m : Nat} (hn : n < 12) (hm : m < 10) : entI ((n : Int) + 1) m ≠ 0 ∧ (entI ((n : Int) + 1) m).fdiv (2 ^ 48) = (n : Int) + 1 ∧ Builtin.bitAnd (entI ((n : Int) + 1) m) 65535 = m := by
  have h1 := List.all_eq_true.mp ent_all n (List.mem_range.mpr hn)
  have h2 := List.all_eq_true.mp h1 m (List.mem_range.mpr hm)
  unfold entOk at h2
  simp only [Bool.and_eq_true, bne_iff_ne, ne_eq, beq_iff_eq] at h2
  exact ⟨h2.1.1, h2.1.2, h2.2⟩
structure TabAt (H : Hp) (ta sl : Nat) (s : Nat → Int) : Prop where
  inst : H[ta]? = some (.inst 1 [.int 13, .int 1, .int 0, .ref sl])
  slots : H[sl]? = some (.list (tab 13 fun i => .int (s i)))
theorem TabAt.mono {H H' : Hp} {ta sl : Nat} {s : Nat → Int} (x : TabAt H ta sl s) (e : Ext H H') : TabAt H' ta sl s := ⟨e _ _ x.inst, e _ _ x.slots⟩
theorem TabAt.set {H : Hp} {ta sl p : Nat} {s : Nat → Int} (x : TabAt H ta sl s) {o : O} (h1 : ta ≠ p) (h2 : sl ≠ p) : TabAt (H.set p o) ta sl s :=
  ⟨by rw [List.getElem?_set_ne h1.symm]; exact x.inst, by rw [List.getElem?_set_ne h2.symm]; exact x.slots⟩
section
variable {H : Hp} {ta sl : Nat} {s : Nat → Int} {Q : FR → Hp → Prop}
theorem pack {n m : Nat} (hn : n < 12) (hm : m < 10) (q : Q (.ret (.int (entI ((n : Int) + 1) m))) H) : wF f_pack_entry [.int ((n : Int) + 1), .int m, .int 0, .int 1, .int 3, .int 0] H Q := by
  refine f_mk rfl ?_
  unfold b_pack_entry
  walk_at "y"
  refine ifF (by rw [decide_eq_false (by lia)]; nofun) ?_
  walk_at "y"
  refine ifF (by rw [decide_eq_false (by lia)]; nofun) ?_
  walk_at "y"
  refine ifF (by rw [decide_eq_false (by lia)]; nofun) ?_
  walk_at "y"
  refine ifF (by decide) ?_
  walk_at "y"
  refine ifF (by decide) ?_
  walk_at "y"
  refine ifF (by decide) ?_
  walk_at "y"
  refine ifF (by decide) ?_
  walk_at "y"
  refine ifF (by decide) ?_
  walk_at "y"
  refine ifF (by decide) ?_
  walk_at "y"
  refine ifF (by decide) ?_
  walk_at "y"
  refine ifF (by decide) ?_
  walk_at "y"
  refine b_shl (by decide) (by decide) (by decide) ?_
  walk_at "y"
  refine b_shl (by decide) (by decide) (by decide) ?_
  walk_at "y"
  refine b_shl (by decide) (by decide) (by decide) ?_
  walk_at "y"
  refine b_shl (by decide) (by decide) (by decide) ?_
  walk_at "y"
  refine b_shl (by decide) (by decide) ?_ ?_
  · unfold two64; lia
  walk_at "y"
  exact q
theorem find {n : Nat} (hn : n < 12) (h : H[sl]? = some (.list (tab 13 fun i => .int (s i)))) (hs : s (n + 1) = 0 ∨ ∃ m : Nat, m < 10 ∧ s (n + 1) = entI ((n : Int) + 1) m)
    (q : Q (.ret (.int (if s (n + 1) = 0 then -1 else (n : Int) + 1))) H) : wF f_find_slot [.ref sl, .int ((n : Int) + 1), .int 1, .int ((n : Int) + 1)] H Q := by
  refine f_mk rfl ?_
  unfold b_find_slot
  walk_at "y"
  refine ⟨by walk_at "w", ?_⟩
  refine l_up (n := 1) (fun i ρ' H' => H' = H ∧ (i = 0 → ∃ w, ρ' = [.ref sl, .int ((n : Int) + 1), .int 1, .int ((n : Int) + 1), w]) ∧ (i = 1 → s (n + 1) = 0)) (by lia) (by lia) ?_ (fun i ρ' H' hi z => ?_) (fun ρ' H' z => ?_)
  · exact ⟨rfl, fun _ => ⟨_, rfl⟩, fun h => absurd h (by lia)⟩
  · refine x0_3 z fun o1 z1 _ => ?_
    clear z
    subst o1
    refine x1_1 (z1 (by lia)) fun w o2 => ?_
    subst o2
    walk_at "y"
    refine g_tab h (n + 1) (by lia) (by lia) ?_
    walk_at "y"
    rcases hs with hs | ⟨m, hm, hs⟩
    · refine ifF (by simp [hs]) ?_; walk_at "z"; refine ifF nofun ?_
      walk_at "y"
      exact ⟨rfl, fun h => absurd h (by lia), fun _ => hs⟩
    · have eo := ent_ok hn hm
      refine ifT (by rw [hs]; simp [eo.1]) ?_
      walk_at "y"
      refine g_tab h (n + 1) (by lia) (by lia) ?_
      walk_at "y"
      refine b_shr (by decide) (by decide) ?_
      walk_at "y"
      rw [hs, show Int.toNat 48 = 48 from rfl]
      refine ifT (decide_eq_true eo.2.1) ?_
      walk_at "y"
      rw [hs, if_neg eo.1] at q
      have e : (n : Int) + 1 + ((i : Nat) : Int) = (n : Int) + 1 := by lia
      rw [e]
      exact q
  · refine x0_3 z fun o3 _ z2 => ?_
    clear z
    subst o3
    rw [if_pos (z2 rfl)] at q
    walk_at "y"
    exact q
theorem probe_none (x : TabAt H ta sl s) {n : Nat} (hn : n < 12) (hs : s (n + 1) = 0) (q : Q (.ret .none) H) : wF f_TransTable_probe [.ref ta, .int ((n : Int) + 1)] H Q := by
  have i := x.inst
  refine f_mk rfl ?_
  unfold b_TransTable_probe
  walk_at "y"
  refine b_mod (by decide) ?_
  walk_at "y"
  refine b_mul (by decide) ?_
  have e : ((n : Int) + 1).fmod 13 * 1 = (n : Int) + 1 := by rw [Int.fmod_eq_emod_of_nonneg _ (by decide)]; lia
  rw [e]
  walk_at "y"
  refine find hn x.slots (.inl hs) ?_
  rw [if_pos hs]
  walk_at "y"
  refine ifT (by decide) ?_
  walk_at "y"
  exact q
theorem probe_some (x : TabAt H ta sl s) {n m : Nat} (hn : n < 12) (hm : m < 10) (hs : s (n + 1) = entI ((n : Int) + 1) m) (q : ∀ r v d b H', Ext H H' → H'[r]? = some (.tup [.int m, .int v, .int d, .int b]) → Q (.ret (.ref r)) H') : wF f_TransTable_probe [.ref ta, .int ((n : Int) + 1)] H Q := by
  have i := x.inst
  have eo := ent_ok hn hm
  refine f_mk rfl ?_
  unfold b_TransTable_probe
  walk_at "y"
  refine b_mod (by decide) ?_
  walk_at "y"
  refine b_mul (by decide) ?_
  have e : ((n : Int) + 1).fmod 13 * 1 = (n : Int) + 1 := by rw [Int.fmod_eq_emod_of_nonneg _ (by decide)]; lia
  rw [e]
  walk_at "y"
  refine find hn x.slots (.inr ⟨m, hm, hs⟩) ?_
  rw [if_neg (by rw [hs]; exact eo.1)]
  walk_at "y"
  refine ifF (by rw [decide_eq_false (by lia)]; nofun) ?_
  walk_at "y"
  refine g_tab x.slots (n + 1) (by lia) (by lia) ?_
  walk_at "y"
  refine f_mk rfl ?_
  unfold b_unpack_entry
  walk_at "y"
  refine b_shr (by decide) (by decide) ?_
  walk_at "y"
  refine b_shr (by decide) (by decide) ?_
  walk_at "y"
  refine b_shr (by decide) (by decide) ?_
  walk_at "y"
  refine b_shr (by decide) (by decide) ?_
  walk_at "y"
  refine b_shr (by decide) (by decide) ?_
  walk_at "y"
  intro r H1 N1
  walk_at "y"
  refine g_tup N1.is 1 rfl rfl ?_
  walk_at "y"
  refine g_tup N1.is 2 rfl rfl ?_
  walk_at "y"
  refine g_tup N1.is 3 rfl rfl ?_
  walk_at "y"
  refine g_tup N1.is 4 rfl rfl ?_
  walk_at "y"
  intro r2 H2 N2
  have is2 := N2.is
  rw [hs, eo.2.2] at is2
  exact q r2 _ _ _ H2 (N1.ext.trans N2.ext) is2
theorem save (x : TabAt H ta sl s) {n m : Nat} (hn : n < 12) (hm : m < 10) (hs : s (n + 1) = 0) (q : Q (.ret .none) (H.set sl (.list (tab 13 fun i => .int (if i = n + 1 then entI ((n : Int) + 1) m else s i))))) : wF f_TransTable_save [.ref ta, .int ((n : Int) + 1), .int m, .int 0, .int 1, .int 3] H Q := by
  have i := x.inst
  refine f_mk rfl ?_
  unfold b_TransTable_save
  walk_at "y"
  refine pack hn hm ?_
  walk_at "y"
  refine b_mod (by decide) ?_
  walk_at "y"
  refine b_mul (by decide) ?_
  have e : ((n : Int) + 1).fmod 13 * 1 = (n : Int) + 1 := by rw [Int.fmod_eq_emod_of_nonneg _ (by decide)]; lia
  rw [e]
  walk_at "y"
  refine find hn x.slots (.inl hs) ?_
  rw [if_pos hs]
  walk_at "y"
  refine ifT (by decide) ?_
  walk_at "y"
  refine f_mk rfl ?_
  unfold b_victim_slot
  walk_at "y"
  refine ⟨by walk_at "w", ?_⟩
  refine l_up (n := 1) (fun i ρ' H' => H' = H ∧ (i = 0 → ∃ w w', ρ' = [.ref sl, .int ((n : Int) + 1), .int 1, .int 0, w, w']) ∧ i = 0) (by lia) (by lia) ?_ (fun i ρ' H' hi z => ?_) (fun ρ' H' z => ?_)
  · exact ⟨rfl, fun _ => ⟨_, _, rfl⟩, rfl⟩
  · refine x0_3 z fun o4 z1 o5 => ?_
    clear z
    subst o4
    subst o5
    refine x2_1 (z1 rfl) fun w w' o6 => ?_
    subst o6
    walk_at "y"
    refine g_tab x.slots (n + 1) (by lia) (by lia) ?_
    walk_at "y"
    refine ifT (decide_eq_true hs) ?_
    walk_at "y"
    refine set_tab x.slots (n + 1) (by lia) (by lia) ?_
    walk_at "y"
    have e : (fun j => if j = n + 1 then V.int (entI ((n : Int) + 1) m) else V.int (s j)) = fun i => .int (if i = n + 1 then entI ((n : Int) + 1) m else s i) := by
      funext j; by_cases c : j = n + 1 <;> simp [c]
    rw [e]
    exact q
  · exact absurd z.2.2 (by lia)
theorem new_table {ρ : List V} {Q : V → Hp → Prop} (q : ∀ ta sl H', Ext H H' → H.length ≤ ta → H.length ≤ sl → ta ≠ sl → TabAt H' ta sl (fun _ => 0) → Q (.ref ta) H') : wE (eNew 1 f_TransTable___init__ [(eInt 13), (eInt 1)]) ρ H Q := by
  refine e_new (es_cons (e_int (es_cons (e_int (es_nil ?_)))))
  refine f_mk rfl ?_
  unfold b_TransTable___init__
  have h0 : (H ++ [O.aux, O.inst 1 []])[H.length + 1]? = some (.inst 1 []) := by simp
  have l0 : (H ++ [O.aux, O.inst 1 []]).length = H.length + 2 := by simp
  have e0 : Ext H (H ++ [O.aux, O.inst 1 []]) := .app _ _
  generalize H ++ [O.aux, O.inst 1 []] = H1 at h0 l0 e0
  walk_at "y"
  refine ifF (by decide) ?_
  walk_at "y"
  refine ifF (by decide) ?_
  walk_at "y"
  refine sa_of h0 rfl ?_
  have h1 : (H1.set (H.length + 1) (.inst 1 [.int 13]))[H.length + 1]? = some (.inst 1 [.int 13]) := List.getElem?_set_self (by lia)
  refine s_seq (s_setAttr (e_loc rfl (e_loc rfl (sa_of h1 rfl ?_))))
  rw [List.set_set]
  have h2 : (H1.set (H.length + 1) (.inst 1 [.int 13, .int 1]))[H.length + 1]? = some (.inst 1 [.int 13, .int 1]) := List.getElem?_set_self (by lia)
  refine s_seq (s_setAttr (e_int (e_loc rfl (sa_of h2 rfl ?_))))
  rw [List.set_set]
  have h3 : (H1.set (H.length + 1) (.inst 1 [.int 13, .int 1, .int 0]))[H.length + 1]? = some (.inst 1 [.int 13, .int 1, .int 0]) := List.getElem?_set_self (by lia)
  refine s_setAttr ?_
  walk_at "y"
  intro k H2 N2
  walk_at "y"
  refine b_mul (by decide) ?_
  refine b_rep N2.is (by decide) ?_
  intro sl H3 N3
  have e3 := N2.ext.trans N3.ext
  walk_at "y"
  have h4 := e3 _ _ h3
  refine sa_of h4 rfl ?_
  have l1 : (H1.set (H.length + 1) (O.inst 1 [.int 13, .int 1, .int 0])).length = H.length + 2 := by rw [List.length_set, l0]
  have n2 : H.length + 2 ≤ k := by
    have := N2.ge
    rw [List.length_set, l0] at this
    exact this
  have ls : H.length + 1 < sl := by have := N3.ge; have := N2.lt; lia
  refine ⟨rfl, q _ sl _ ?_ (by lia) (by lia) (by lia) ⟨List.getElem?_set_self (List.getElem?_eq_some_iff.mp h4).1, ?_⟩⟩
  · exact ((e0.set (n := H.length + 1) (by lia) _).trans e3).set (by lia) _
  · rw [List.getElem?_set_ne (by lia), N3.is]
    congr 2
end
noncomputable def kl (T : Tr) (K : Nat → Option Nat) : Nat → Nat → List Nat
  | 0, _ => []
  | l + 1, n => match K n with
    | some (j + 1) => if j < T.cnt n then j :: kl T K l (T.kid n j) else []
    | _ => []
noncomputable def fst_ (T : Tr) (K : Nat → Option Nat) (n : Nat) : Option Nat := match K n with
  | some (j + 1) => if j < T.cnt n then some j else none
  | _ => none
theorem kl_succ (T : Tr) (K : Nat → Option Nat) (l n : Nat) : kl T K (l + 1) n = match fst_ T K n with
    | some j => j :: kl T K l (T.kid n j)
    | none => [] := by
  show (match K n with
    | some (j + 1) => if j < T.cnt n then j :: kl T K l (T.kid n j) else []
    | _ => []) = _
  unfold fst_
  cases K n with
  | none => rfl
  | some m =>
    cases m with
    | zero => rfl
    | succ j =>
      dsimp only
      by_cases c : j < T.cnt n
      · rw [if_pos c, if_pos c]
      · rw [if_neg c, if_neg c]
theorem fst_some {T : Tr} {K : Nat → Option Nat} {n j : Nat} (h : fst_ T K n = some j) : K n = some (j + 1) ∧ j < T.cnt n := by
  unfold fst_ at h
  cases hK : K n with
  | none => rw [hK] at h; cases h
  | some m =>
    rw [hK] at h
    cases m with
    | zero => cases h
    | succ i =>
      dsimp only at h
      by_cases c : i < T.cnt n
      · rw [if_pos c] at h; cases h; exact ⟨rfl, c⟩
      · rw [if_neg c] at h; cases h
theorem fst_none {T : Tr} {K : Nat → Option Nat} {n : Nat} (h : fst_ T K n = none) {m : Nat} (hK : K n = some m) : m = 0 ∨ T.cnt n < m := by
  unfold fst_ at h
  rw [hK] at h
  cases m with
  | zero => exact .inl rfl
  | succ i =>
    dsimp only at h
    by_cases c : i < T.cnt n
    · rw [if_pos c] at h; cases h
    · exact .inr (by lia)
noncomputable def slotF (K : Nat → Option Nat) (i k : Nat) : Int := match k with
  | 0 => 0
  | n + 1 => if n < i then (match K n with
    | some m => entI ((n : Int) + 1) m
    | none => 0) else 0
section
variable {H : Hp} {L : Lay} {T : Tr} {ta sl : Nat} {K : Nat → Option Nat} {Q : FR → Hp → Prop}
theorem table_line (ok : T.Ok) (x : GameAt H L T [] 0) (hK : ∀ n m, K n = some m → m < 10) (y : TabAt H ta sl (slotF K T.sz)) (h1 : ta ≠ L.pa) (h2 : sl ≠ L.pa) {lim : Nat} (hl : lim < 10)
    (q : ∀ r H', Ext H H' → H'[r]? = some (.list ((kl T K lim 0).map mv)) → Q (.ret (.ref r)) H') : wF f_table_line [.ref ta, .ref L.g, .int lim] H Q := by
  have hz := ok.szh
  have hpa := (List.getElem?_eq_some_iff.mp x.path).1
  refine f_mk rfl ?_
  unfold b_table_line
  walk_at "y"
  intro ln H1 N1
  have lne : ln ≠ L.pa := by have := N1.ge; lia
  walk_at "y"
  refine s_while (w_while (fun k ρ' H' => ∃ js w4 w5, k = lim - js.length ∧ ρ' = [.ref ta, .ref L.g, .int lim, .ref ln, w4, w5] ∧ Line T js ∧ js.length ≤ lim ∧ js ++ kl T K (lim - js.length) (T.at_ js) = kl T K lim 0 ∧
    H'[ln]? = some (.list (js.map mv)) ∧ ∃ M, Ext H M ∧ H' = M.set L.pa (pathO T js js.length)) lim (by lia) ?_ fun k' ρ' H' z => ?_)
  · exact ⟨[], _, _, rfl, rfl, fun i j e => by simp at e, by simp, rfl, N1.is, H1, N1.ext, (set_id (N1.ext _ _ x.path)).symm⟩
  · refine x3_7 z fun js w4 w5 o1 o2 l hjl hkl hln o3 => ?_
    clear z
    subst o1
    subst o2
    refine x1_2 o3 fun M eM o12 => ?_
    clear o3
    subst o12
    have z := (x.mono eM).setLine ok l (Nat.le_refl _)
    rw [List.take_length] at z
    have zt : TabAt _ ta sl (slotF K T.sz) := (y.mono eM).set (o := pathO T js js.length) h1 h2
    have hat := z.lt
    have i := z.ins
    have out : ∀ {w4' w5' : V} {H2 : Hp}, js = kl T K lim 0 → Ext (M.set L.pa (pathO T js js.length)) H2 → thn (sSeq (sFor 5 (iSeq (eLoc 3)) (sMeth 0 f_TreeGame_undo (eLoc 1) [])) (sRet (eLoc 3))) (fin Q) .next [.ref ta, .ref L.g, .int lim, .ref ln, w4', w5'] H2 := by
      intro w4' w5' H2 hjs e2
      have z2 := ((x.mono eM).setLine ok l (Nat.le_refl _)).mono e2
      have hln2 := e2 _ _ hln
      walk_at "y"
      refine seq_lst hln2 ?_
      refine undo_loop ok z2 l (by lia) hln2 (by simp) lne rfl (by decide) (by simp) fun ρ2 hρ2 same => ?_
      have e3 : Ext H (H2.set L.pa (pathO T js 0)) := eM.trans ((x.mono eM).back e2)
      refine s_ret (e_loc ((same 3 (by decide)).trans rfl) (q ln _ e3 ?_))
      rw [List.getElem?_set_ne lne.symm, hln2, hjs]
    walk_at "y"
    rw [List.length_map]
    by_cases c : js.length < lim
    · refine ifT (decide_eq_true (by lia)) ?_
      obtain ⟨l', hl'⟩ : ∃ l', lim - js.length = l' + 1 := ⟨lim - js.length - 1, by lia⟩
      rw [hl', kl_succ] at hkl
      have it := zt.inst
      walk_at "y"
      refine z.key ?_
      walk_at "y"
      cases hKn : K (T.at_ js) with
      | none =>
        have hf : fst_ T K (T.at_ js) = none := by unfold fst_; rw [hKn]
        rw [hf, List.append_nil] at hkl
        refine probe_none zt (by lia) (by show (if _ then _ else _) = _; rw [if_pos hat, hKn]) ?_
        walk_at "y"
        refine c_isn ?_
        walk_at "z"; refine ifT rfl ?_; walk_at "z"; refine ifT rfl ?_
        refine s_brk ?_
        exact out hkl (.refl _)
      | some m =>
        refine probe_some zt (by lia) (hK _ _ hKn) (by show (if _ then _ else _) = _; rw [if_pos hat, hKn]) fun r v d b H2 e2 hr => ?_
        have z2 := z.mono e2
        have i2 := z2.ins
        have hln2 := e2 _ _ hln
        walk_at "y"
        refine c_isn_ref ?_
        walk_at "z"; refine ifF nofun ?_
        walk_at "y"
        refine g_tup hr 0 rfl rfl ?_
        walk_at "y"
        refine z2.moves ok fun k3 H3 N3 => ?_
        have hr3 := N3.ext _ _ hr
        have z3 := z2.mono N3.ext
        have i3 := z3.ins
        have hln3 := N3.ext _ _ hln2
        refine c_notin_list (is := tab (T.cnt (T.at_ js)) fun i => 1 + (i : Int)) (by rw [N3.is, tab_map]) ?_
        cases hf : fst_ T K (T.at_ js) with
        | none =>
          rw [hf, List.append_nil] at hkl
          have hm := fst_none hf hKn
          have : ((tab (T.cnt (T.at_ js)) fun i => 1 + (i : Int)).any fun i => i == (m : Int)) = false := by
            rw [List.any_eq_false]
            intro a ha
            refine x1_2 (mem_tab.mp ha) fun i hi o4 => ?_
            subst o4
            simp only [beq_iff_eq]
            lia
          rw [this]; walk_at "z"; refine ifT (show (!false) = true from rfl) ?_
          refine s_brk ?_
          exact out hkl (e2.trans N3.ext)
        | some j =>
          rw [hf] at hkl
          refine x0_2 (fst_some hf) fun hm hj => ?_
          rw [hKn] at hm
          obtain rfl : m = j + 1 := Option.some.inj hm
          have : ((tab (T.cnt (T.at_ js)) fun i => 1 + (i : Int)).any fun i => i == (((j + 1 : Nat)) : Int)) = true := by
            rw [List.any_eq_true]
            refine ⟨1 + (j : Int), mem_tab.mpr ⟨j, hj, rfl⟩, ?_⟩
            simp only [beq_iff_eq]
            lia
          rw [this]; walk_at "z"; refine ifF (show ¬ (!true) = true from nofun) ?_
          walk_at "y"
          refine g_tup hr3 0 rfl rfl ?_
          walk_at "y"
          have l2 : Line T (js ++ [j]) := l.snoc hj
          have hlen : (js ++ [j]).length = js.length + 1 := by simp
          have pj : T.pth (js ++ [j]) js.length = T.pth js js.length := tab_congr fun i hi => by rw [List.take_append_of_le_length (by lia)]
          have tj : (js ++ [j]).take js.length = js := by simp
          have z4 : GameAt H3 L T (T.pth (js ++ [j]) js.length) (T.at_ ((js ++ [j]).take js.length)) := by rw [pj, tj]; exact z3
          refine z4.step ok l2 (by lia) (i := js.length) (j := j) (by simp) ?_
          walk_at "y"
          have hln4 : (H3.set L.pa (pathO T (js ++ [j]) (js.length + 1)))[ln]? = some (.list (js.map mv)) := by rw [List.getElem?_set_ne lne.symm]; exact hln3
          have hr4 : (H3.set L.pa (pathO T (js ++ [j]) (js.length + 1)))[r]? = some (.tup [.int ((j + 1 : Nat) : Int), .int v, .int d, .int b]) := by
            by_cases e : L.pa = r
            · subst e
              have := z3.path
              rw [hr3] at this; cases this
            · rw [List.getElem?_set_ne e]; exact hr3
          walk_at "y"
          refine g_tup hr4 0 rfl rfl ?_
          refine push_of hln4 (by simp; lia) ?_
          refine ⟨lim - (js ++ [j]).length, by simp; lia, js ++ [j], _, _, rfl, rfl, l2, by simp; lia, ?_, ?_, (H3.set L.pa (pathO T js 0)).set ln (.list (js.map mv ++ [.int ((j + 1 : Nat) : Int)])), ?_, ?_⟩
          · rw [hlen, show lim - (js.length + 1) = l' by lia, at_snoc, List.append_assoc]
            exact hkl
          · rw [List.getElem?_set_self (List.getElem?_eq_some_iff.mp hln4).1, List.map_append]; rfl
          · exact (eM.trans ((x.mono eM).back (e2.trans N3.ext))).set (n := ln) N1.ge _
          · rw [hlen, List.set_comm _ _ lne, List.set_set, List.set_comm _ _ lne.symm]
    · refine ifF (by rw [decide_eq_false (by lia)]; nofun) ?_
      have : lim - js.length = 0 := by lia
      rw [this] at hkl
      have hkl : js ++ [] = kl T K lim 0 := hkl
      rw [List.append_nil] at hkl
      exact out hkl (.refl _)
noncomputable def keepS (is : List Int) (n : Nat) : Option Nat := if (dig (xS is n) 9).fmod 2 = 0 then some (dig (xS is n) 8).toNat else none
theorem keepS_lt {is : List Int} {n m : Nat} (h : keepS is n = some m) : m < 10 := by
  unfold keepS at h
  split at h
  · cases h
    have := dig_hi (xS is n) 8
    lia
  · cases h
theorem law_kept {is : List Int} (hlen : is.length ≤ 63) (x : GameAt H L (treeS is) [] 0) {lim : Nat} (hl : lim < 10)
    (q : ∀ H', Ext H H' → Q (.ret (.bool true)) H') : wF f_law_kept [.scr is, .ref L.tree, .ref L.g, .int lim] H Q := by
  have ok := treeS_ok is
  have hz := szS_hi is
  have hz' := szS_lo is
  have hpa := (List.getElem?_eq_some_iff.mp x.path).1
  refine f_mk rfl ?_
  unfold b_law_kept
  refine s_seq (s_assign (new_table fun ta sl H1 e1 g1 g2 ne y1 => ?_))
  walk_at "y"
  intro dk H2 N2
  have x2 := (x.mono e1).mono N2.ext
  have dlt := N2.ge
  have sllt : sl < H1.length := (List.getElem?_eq_some_iff.mp y1.slots).1
  have talt : ta < H1.length := (List.getElem?_eq_some_iff.mp y1.inst).1
  walk_at "y"
  refine g_tup x2.treeAt.tree 0 rfl rfl ?_
  refine n_tab x2.treeAt.ch ?_
  refine ⟨na0 (by show szS is < _; lia), ?_⟩
  refine l_up (n := szS is) (fun i ρ' H' => (∃ w6 w7 w8, ρ' = [.scr is, .ref L.tree, .ref L.g, .int lim, .ref ta, .ref dk, w6, w7, w8]) ∧ Ext H H' ∧ TabAt H' ta sl (slotF (keepS is) i) ∧ ∃ es : List (Int × V), H'[dk]? = some (.dict es) ∧ es.length ≤ i ∧ ∀ n : Nat, getD (n : Int) es = if n < i then (keepS is n).map nd else none) (by show ((szS is : Nat) : Int) = _; lia) (by lia) ?_ (fun i ρ' H' hi z => ?_) (fun ρ' H' z => ?_)
  · refine ⟨⟨_, _, _, rfl⟩, e1.trans N2.ext, ?_, [], N2.is, by simp, fun n => by simp [getD]⟩
    have e : slotF (keepS is) 0 = fun _ => 0 := by
      funext k; cases k <;> simp [slotF]
    rw [e]
    exact y1.mono N2.ext
  · refine x0_4 z fun o5 e y o6 => ?_
    clear z
    refine x3_1 o5 fun w6 w7 w8 o13 => ?_
    clear o5
    subst o13
    refine x1_3 o6 fun es hes hel hget => ?_
    clear o6
    walk_at "y"
    refine law_at (3 + i) (by lia) (by unfold szS at hi; lia) fun H3 e3 => ?_
    rw [show atS is (3 + i) = xS is i from rfl]
    have y3 := y.mono e3
    have hes3 := e3 _ _ hes
    have i3 := y3.inst
    walk_at "y"
    refine law_digit 9 rfl (by decide) ?_
    walk_at "y"
    refine b_mod (by decide) ?_
    walk_at "y"
    have hsi : slotF (keepS is) i (i + 1) = 0 := by show (if _ then _ else _) = _; rw [if_neg (by lia)]
    have gi : (0 : Int) + (i : Int) = i := by lia
    by_cases c : (dig (xS is i) 9).fmod 2 = 0
    · refine ifT (decide_eq_true c) ?_
      have hk : keepS is i = some (dig (xS is i) 8).toNat := if_pos c
      have h8 : (((dig (xS is i) 8).toNat : Nat) : Int) = dig (xS is i) 8 := Int.toNat_of_nonneg (dig_lo _ _)
      walk_at "y"
      refine law_digit 8 rfl (by decide) ?_
      walk_at "y"
      rw [gi, ← h8]
      refine save y3 (by lia) (keepS_lt hk) hsi ?_
      have hes4 : (H3.set sl (.list (tab 13 fun k => .int (if k = i + 1 then entI ((i : Int) + 1) ((dig (xS is i) 8).toNat : Nat) else slotF (keepS is) i k))))[dk]? = some (.dict es) := by
        rw [List.getElem?_set_ne (by lia)]; exact hes3
      walk_at "y"
      refine law_digit 8 rfl (by decide) ?_
      walk_at "y"
      rw [← h8]
      refine set_dict hes4 (by lia) ?_
      refine ⟨⟨_, _, _, rfl⟩, ((e.trans e3).set (n := sl) (by lia) _).set (n := dk) (by have := e1.len; lia) _, ⟨?_, ?_⟩, _, List.getElem?_set_self (List.getElem?_eq_some_iff.mp hes4).1, by simp; lia, fun n => ?_⟩
      · rw [List.getElem?_set_ne (by lia), List.getElem?_set_ne (by lia)]; exact y3.inst
      · rw [List.getElem?_set_ne (by lia), List.getElem?_set_self (List.getElem?_eq_some_iff.mp y3.slots).1]
        congr 3
        funext k
        congr 1
        cases k with
        | zero => simp [slotF]
        | succ n =>
          by_cases cn : n = i
          · subst cn
            simp [slotF, hk]
          · rw [if_neg (by lia)]
            show (if _ then _ else _) = (if _ then _ else _)
            by_cases c1 : n < i
            · rw [if_pos c1, if_pos (by lia)]
            · rw [if_neg c1, if_neg (by lia)]
      · show (if (i : Int) = (n : Int) then _ else _) = _
        by_cases cn : n = i
        · subst cn
          rw [if_pos rfl, if_pos (by lia), hk]; rfl
        · rw [if_neg (by lia), hget]
          by_cases c1 : n < i
          · rw [if_pos c1, if_pos (by lia)]
          · rw [if_neg c1, if_neg (by lia)]
    · refine ifF (by rw [decide_eq_false c]; nofun) ?_
      have hk : keepS is i = none := if_neg c
      refine s_pass ⟨⟨_, _, _, rfl⟩, e.trans e3, ?_, es, hes3, by lia, fun n => ?_⟩
      · have : slotF (keepS is) (i + 1) = slotF (keepS is) i := by
          funext k
          cases k with
          | zero => rfl
          | succ n =>
            show (if _ then _ else _) = (if _ then _ else _)
            by_cases cn : n = i
            · subst cn
              rw [if_pos (by lia), if_neg (by lia), hk]
            · by_cases c1 : n < i
              · rw [if_pos c1, if_pos (by lia)]
              · rw [if_neg c1, if_neg (by lia)]
        rw [this]; exact y3
      · rw [hget]
        by_cases cn : n = i
        · subst cn
          rw [if_neg (by lia), if_pos (by lia), hk]; rfl
        · by_cases c1 : n < i
          · rw [if_pos c1, if_pos (by lia)]
          · rw [if_neg c1, if_neg (by lia)]
  · refine x0_4 z fun o7 e y o8 => ?_
    clear z
    refine x3_1 o7 fun w6 w7 w8 o14 => ?_
    clear o7
    subst o14
    refine x1_3 o8 fun es hes hel hget => ?_
    clear o8
    have x3 := x.mono e
    walk_at "y"
    intro ml H3 N3
    walk_at "y"
    refine s_while (w_while (fun k ρ' H' => ∃ js w7, k = lim - js.length ∧ ρ' = [.scr is, .ref L.tree, .ref L.g, .int lim, .ref ta, .ref dk, .int ((treeS is).at_ js), w7, .ref ml] ∧ Line (treeS is) js ∧ js.length ≤ lim ∧ js ++ kl (treeS is) (keepS is) (lim - js.length) ((treeS is).at_ js) = kl (treeS is) (keepS is) lim 0 ∧
      H'[ml]? = some (.list (js.map mv)) ∧ Ext H' H' ∧ ∃ M, Ext H3 M ∧ H' = M.set ml (.list (js.map mv))) lim (by lia) ?_ fun k' ρ' H' z => ?_)
    · exact ⟨[], _, rfl, rfl, fun i j e => by simp at e, by simp, rfl, N3.is, .refl _, H3, .refl _, (set_id N3.is).symm⟩
    · refine x2_8 z fun js w7 o9 o10 l hjl hkl hml _ o11 => ?_
      clear z
      subst o9
      subst o10
      refine x1_2 o11 fun M eM o15 => ?_
      clear o11
      subst o15
      have eH : Ext _ (M.set ml (.list (js.map mv))) := (N3.ext.trans eM).set (n := ml) N3.ge (.list (js.map mv))
      have t := (x3.mono eH).treeAt
      have hes4 := eH _ _ hes
      have hat := l.lt' ok
      have hat' : (treeS is).at_ js < szS is := hat
      have out : js = kl (treeS is) (keepS is) lim 0 → thn (sRet (eCmp .eq (eCall f_table_line [(eLoc 4), (eLoc 2), (eLoc 3)]) (eLoc 8))) (fin Q) .next [.scr is, .ref L.tree, .ref L.g, .int lim, .ref ta, .ref dk, .int ((treeS is).at_ js), w7, .ref ml] (M.set ml (.list (js.map mv))) := by
        intro hjs
        refine s_ret (e_cmp (e_call (es_cons (e_loc rfl (es_cons (e_loc rfl (es_cons (e_loc rfl (es_nil ?_)))))))))
        refine table_line ok (x3.mono eH) (fun n m h => keepS_lt h) (y.mono eH) (by lia) (by lia) hl fun r H4 e4 hr => ?_
        refine e_loc rfl ?_
        have hml4 := e4 _ _ hml
        have conv : ∀ {K : Hp} {k : Nat} {ls : List Nat}, K[k]? = some (.list (ls.map mv)) → dataV 4 K (.ref k) = some (.list ((ls.map fun (j : Nat) => (j : Int) + 1).map PyData.int)) := fun {K k ls} h => data_list h (by rw [← data_ints, List.map_map]; rfl)
        rw [hjs] at hml4
        refine c_eq_same (conv hr) (conv hml4) ?_
        exact q _ (e.trans (eH.trans e4))
      walk_at "y"
      rw [List.length_map]
      by_cases c : js.length < lim
      · refine ifT (decide_eq_true (by lia)) ?_
        obtain ⟨l', hl'⟩ : ∃ l', lim - js.length = l' + 1 := ⟨lim - js.length - 1, by lia⟩
        rw [hl', kl_succ] at hkl
        walk_at "y"
        refine d1_of hes4 ?_
        walk_at "y"
        refine get_of hes4 ?_
        rw [hget, if_pos hat']
        cases hf : fst_ (treeS is) (keepS is) ((treeS is).at_ js) with
        | none =>
          rw [hf, List.append_nil] at hkl
          cases hKn : keepS is ((treeS is).at_ js) with
          | none =>
            show wC .le (.int 1) (.int 0) _ _
            refine c_le ?_
            walk_at "z"; rw [if_neg (by decide), if_neg nofun]
            exact out hkl
          | some m =>
            have hm := fst_none hf hKn
            show wC .le (.int 1) (.int m) _ _
            refine c_le ?_
            by_cases c1 : m = 0
            · walk_at "z"; rw [if_neg (by walk_at "z"; rw [decide_eq_false (by lia)]; nofun), if_neg nofun]
              exact out hkl
            · walk_at "z"; refine ifT (decide_eq_true (by lia)) ?_
              walk_at "y"
              refine g_tup t.tree 0 rfl rfl ?_
              walk_at "y"
              refine g_tab t.ch _ rfl hat ?_
              refine n_tab (t.chA _ hat) ?_
              refine c_le ?_
              walk_at "z"; refine ifF (by walk_at "z"; rw [decide_eq_false (by lia)]; nofun) ?_
              exact out hkl
        | some j =>
          rw [hf] at hkl
          refine x0_2 (fst_some hf) fun hKn hj => ?_
          rw [hKn]
          show wC .le (.int 1) (.int ((j + 1 : Nat) : Int)) _ _
          refine c_le ?_
          walk_at "z"; refine ifT (decide_eq_true (by lia)) ?_
          walk_at "y"
          refine g_tup t.tree 0 rfl rfl ?_
          walk_at "y"
          refine g_tab t.ch _ rfl hat ?_
          refine n_tab (t.chA _ hat) ?_
          refine c_le ?_
          walk_at "z"; refine ifT (decide_eq_true (by lia)) ?_
          have hgd : getD (((treeS is).at_ js : Nat) : Int) es = some (.int ((j + 1 : Nat) : Int)) := by rw [hget, if_pos hat', hKn]; rfl
          walk_at "y"
          refine g_dict hes4 hgd ?_
          refine push_of hml (by simp; lia) ?_
          rw [List.set_set]
          have eH2 : Ext _ (M.set ml (.list (js.map mv ++ [.int ((j + 1 : Nat) : Int)]))) := (N3.ext.trans eM).set (n := ml) N3.ge (.list (js.map mv ++ [.int ((j + 1 : Nat) : Int)]))
          have t2 := (x3.mono eH2).treeAt
          have hes5 := eH2 _ _ hes
          walk_at "y"
          refine g_tup t2.tree 0 rfl rfl ?_
          walk_at "y"
          refine g_tab t2.ch _ rfl hat ?_
          walk_at "y"
          refine g_dict hes5 hgd ?_
          walk_at "y"
          refine g_tab (t2.chA _ hat) j (by lia) hj ?_
          have hmm : M[ml]? ≠ none := by rw [eM _ _ N3.is]; nofun
          have hml' : ml < M.length := (List.getElem?_eq_some_iff.mp (eM _ _ N3.is)).1
          have em : (js.map mv ++ [V.int ((j + 1 : Nat) : Int)]) = (js ++ [j]).map mv := by rw [List.map_append]; rfl
          refine ⟨lim - (js ++ [j]).length, by simp; lia, js ++ [j], w7, rfl, ?_, l.snoc hj, by simp; lia, ?_, ?_, .refl _, M, eM, ?_⟩
          · rw [at_snoc]; rfl
          · rw [at_snoc, show lim - (js ++ [j]).length = l' by simp; lia, List.append_assoc]
            exact hkl
          · rw [List.getElem?_set_self hml', em]
          · rw [em]
      · rw [if_neg (by rw [decide_eq_false (by lia)]; nofun), if_neg nofun]
        have : lim - js.length = 0 := by lia
        rw [this] at hkl
        have hkl : js ++ [] = kl (treeS is) (keepS is) lim 0 := hkl
        rw [List.append_nil] at hkl
        exact out hkl
end
theorem mem_insI {a x : Int} : ∀ {l : List Int}, a ∈ insI x l ↔ a = x ∨ a ∈ l
  | [] => by simp [insI]
  | y :: r => by
    unfold insI
    split
    · simp
    · rw [List.mem_cons, mem_insI, List.mem_cons]
      constructor
      · rintro (h | h | h) <;> simp [h]
      · rintro (h | h | h) <;> simp [h]
theorem pw_insI {x : Int} : ∀ {l : List Int}, l.Pairwise (· < ·) → x ∉ l → (insI x l).Pairwise (· < ·)
  | [], _, _ => by simp [insI]
  | y :: r, h, hx => by
    refine x0_2 (List.pairwise_cons.mp h) fun h1 h2 => ?_
    have hxy : x ≠ y := fun e => hx (by simp [e])
    have hxr : x ∉ r := fun e => hx (by simp [e])
    unfold insI
    split
    · rename_i c
      refine List.pairwise_cons.mpr ⟨fun a ha => ?_, h⟩
      rcases List.mem_cons.mp ha with rfl | ha
      · lia
      · have := h1 a ha; lia
    · rename_i c
      refine List.pairwise_cons.mpr ⟨fun a ha => ?_, pw_insI h2 hxr⟩
      rcases mem_insI.mp ha with rfl | ha
      · lia
      · exact h1 a ha
theorem mem_sortI {a : Int} : ∀ {l : List Int}, a ∈ sortI l ↔ a ∈ l
  | [] => by simp [sortI]
  | x :: r => by unfold sortI; rw [mem_insI, mem_sortI, List.mem_cons]
theorem pw_sortI : ∀ {l : List Int}, l.Nodup → (sortI l).Pairwise (· < ·)
  | [], _ => by simp [sortI]
  | x :: r, h => by
    refine x0_2 (List.nodup_cons.mp h) fun h1 h2 => ?_
    exact pw_insI (pw_sortI h2) fun e => h1 (mem_sortI.mp e)
theorem pw_eq : ∀ {l l' : List Int}, l.Pairwise (· < ·) → l'.Pairwise (· < ·) → (∀ a, a ∈ l ↔ a ∈ l') → l = l'
  | [], [], _, _, _ => rfl
  | [], y :: r, _, _, h => by have := (h y).mpr (by simp); simp at this
  | x :: r, [], _, _, h => by have := (h x).mp (by simp); simp at this
  | x :: r, y :: r', h, h', e => by
    refine x0_2 (List.pairwise_cons.mp h) fun a1 a2 => ?_
    refine x0_2 (List.pairwise_cons.mp h') fun b1 b2 => ?_
    have hxy : x = y := by
      rcases List.mem_cons.mp ((e x).mp (by simp)) with h1 | h1
      · exact h1
      · rcases List.mem_cons.mp ((e y).mpr (by simp)) with h2 | h2
        · exact h2.symm
        · have := a1 y h2; have := b1 x h1; lia
    subst hxy
    congr 1
    refine pw_eq a2 b2 fun a => ⟨fun ha => ?_, fun ha => ?_⟩
    · rcases List.mem_cons.mp ((e a).mp (by simp [ha])) with h1 | h1
      · have := a1 a ha; lia
      · exact h1
    · rcases List.mem_cons.mp ((e a).mpr (by simp [ha])) with h1 | h1
      · have := b1 a ha; lia
      · exact h1
theorem nodup_len : ∀ (n : Nat) {l : List Nat}, l.Nodup → (∀ x ∈ l, x < n) → l.length ≤ n
  | 0, l, _, h => by
    cases l with
    | nil => simp
    | cons a r => have := h a (by simp); lia
  | n + 1, l, hd, h => by
    by_cases c : n ∈ l
    · have h1 := nodup_len n (hd.erase n) fun x hx => by
        have := (hd.mem_erase_iff).mp hx
        have := h x this.2
        lia
      rw [List.length_erase_of_mem c] at h1
      lia
    · have := nodup_len n hd fun x hx => by
        have h1 := h x hx
        have : x ≠ n := fun e => c (e ▸ hx)
        lia
      lia
inductive Reach (T : Tr) : Nat → Prop where
  | root : Reach T 0
  | kid {n : Nat} (j : Nat) : Reach T n → j < T.cnt n → Reach T (T.kid n j)
theorem Reach.lt {T : Tr} (ok : T.Ok) {n : Nat} (h : Reach T n) : n < T.sz := by
  induction h with
  | root => have := ok.szl; lia
  | kid j _ hj ih => exact (ok.kid _ j ih hj).2
structure Hgt (T : Tr) (h : Nat → Int) : Prop where
  up : ∀ n, n < T.sz → ∀ j, j < T.cnt n → h (T.kid n j) + 1 ≤ h n
  dn : ∀ n, n < T.sz → h n = 0 ∨ ∃ j, j < T.cnt n ∧ h n = h (T.kid n j) + 1
theorem Hgt.bound {T : Tr} (ok : T.Ok) {h : Nat → Int} (x : Hgt T h) : ∀ (k n : Nat), n < T.sz → T.sz ≤ n + k → 0 ≤ h n ∧ h n ≤ k := by
  intro k
  induction k with
  | zero => intro n h1 h2; lia
  | succ k ih =>
    intro n h1 h2
    rcases x.dn n h1 with e | ⟨j, hj, e⟩
    · lia
    · have := ok.kid n j h1 hj
      have := ih (T.kid n j) this.2 (by lia)
      lia
section
variable {H : Hp} {L : Lay} {T : Tr} {Q : FR → Hp → Prop}
theorem reached_nodes (t : TreeAt H L T) (ok : T.Ok)
    (q : ∀ (M : Nat → Bool) r H', (∀ n, n < T.sz → (M n = true ↔ Reach T n)) → Ext H H' → H'[r]? = some (.list (((List.range T.sz).filter M).map nd)) → Q (.ret (.ref r)) H') : wF f_reached_nodes [.ref L.ch] H Q := by
  have hz := ok.szh
  have hz' := ok.szl
  have tc := t.ch
  refine f_mk rfl ?_
  unfold b_reached_nodes
  walk_at "y"
  intro b H1 N1
  have tc1 := N1.ext _ _ tc
  walk_at "y"
  refine b_rep N1.is (by lia) ?_
  intro mk H2 N2
  have e2 := N1.ext.trans N2.ext
  have hmk : H2[mk]? = some (.list (tab T.sz fun _ => .bool false)) := by rw [N2.is, Int.toNat_natCast, tab_rep]
  have gmk : H.length ≤ mk := by have := N2.ge; have := N1.ext.len; lia
  walk_at "y"
  refine set_tab hmk 0 rfl (by lia) ?_
  have e3 := e2.set (n := mk) gmk (.list (tab T.sz fun j => if j = 0 then V.bool true else .bool false))
  have tc3 := e3 _ _ tc
  walk_at "y"
  refine ⟨by walk_at "w", ?_⟩
  refine l_up (n := T.sz) (fun i ρ' H' => (∃ w2 w3 w4, ρ' = [.ref L.ch, .ref mk, w2, w3, w4]) ∧ Ext H H' ∧ ∃ M : Nat → Bool, H'[mk]? = some (.list (tab T.sz fun n => .bool (M n))) ∧ M 0 = true ∧ (∀ n, n < T.sz → M n = true → Reach T n) ∧
    ∀ n, n < i → M n = true → ∀ j, j < T.cnt n → M (T.kid n j) = true) (by lia) (by lia) ?_ (fun i ρ' H' hi z => ?_) (fun ρ' H' z => ?_)
  · refine ⟨⟨_, _, _, rfl⟩, e3, fun n => decide (n = 0), ?_, by simp, fun n _ h => ?_, fun n h => absurd h (by lia)⟩
    · rw [List.getElem?_set_self (List.getElem?_eq_some_iff.mp hmk).1]
      congr 3
      funext j
      by_cases c : j = 0 <;> simp [c]
    · have := of_decide_eq_true h; subst this; exact .root
  · refine x0_3 z fun o1 e o2 => ?_
    clear z
    refine x3_1 o1 fun w2 w3 w4 o17 => ?_
    clear o1
    subst o17
    refine x1_4 o2 fun M hM m0 m1 m2 => ?_
    clear o2
    have tM := t.mono e
    have gi : (0 : Int) + (i : Int) = i := by lia
    walk_at "y"
    refine g_tab hM i gi hi ?_
    walk_at "y"
    cases hMi : M i with
    | false =>
      refine ifF nofun ?_
      refine s_pass ⟨⟨_, _, _, rfl⟩, e, M, hM, m0, m1, fun n hn h => ?_⟩
      by_cases c : n = i
      · subst c; rw [hMi] at h; cases h
      · exact m2 n (by lia) h
    | true =>
      refine ifT rfl ?_
      walk_at "y"
      refine g_tab tM.ch i gi hi ?_
      have hch := tM.chA i hi
      have hchH := t.chA i hi
      have chne : L.chA i ≠ mk := by have := (List.getElem?_eq_some_iff.mp hchH).1; lia
      refine seq_lst hch ?_
      have cn := ok.cnt i
      refine l_lst (vs := tab (T.cnt i) fun j => .int (T.kid i j)) (fun j ρ' H'' => (∃ w3, ρ' = [.ref L.ch, .ref mk, .int (i : Int), w3, w4]) ∧ Ext H H'' ∧ ∃ M : Nat → Bool, H''[mk]? = some (.list (tab T.sz fun n => .bool (M n))) ∧ M 0 = true ∧ (∀ n, n < T.sz → M n = true → Reach T n) ∧
        (∀ n, n < i → M n = true → ∀ j, j < T.cnt n → M (T.kid n j) = true) ∧ M i = true ∧ ∀ j', j' < j → M (T.kid i j') = true) (by rw [tab_len]; lia) (fun j ρ' H'' z => z.2.1 _ _ hchH) ?_ (fun j v ρ' H'' hv z => ?_) (fun ρ' H'' z => ?_)
      · exact ⟨⟨w3, by rw [gi]; rfl⟩, e, M, hM, m0, m1, m2, hMi, fun j' h => absurd h (by lia)⟩
      · refine x0_3 z fun o3 e' o4 => ?_
        clear z
        refine x1_1 o3 fun w3 o18 => ?_
        clear o3
        subst o18
        refine x1_6 o4 fun M' hM' m0' m1' m2' hMi' m3' => ?_
        clear o4
        have hj : j < T.cnt i := by have := (List.getElem?_eq_some_iff.mp hv).1; rwa [tab_len] at this
        rw [tab_get _ hj] at hv
        cases hv
        have hk := ok.kid i j hi hj
        walk_at "y"
        refine set_tab hM' (T.kid i j) rfl hk.2 ?_
        refine ⟨⟨_, rfl⟩, e'.set (n := mk) gmk _, fun n => if n = T.kid i j then true else M' n, ?_, ?_, fun n hn h => ?_, fun n hn h j' hj' => ?_, ?_, fun j' hj' => ?_⟩
        · rw [List.getElem?_set_self (List.getElem?_eq_some_iff.mp hM').1]
          congr 3
          funext n
          by_cases c : n = T.kid i j <;> simp [c]
        · by_cases c : 0 = T.kid i j <;> simp [c, m0']
        · by_cases c : n = T.kid i j
          · rw [c]; exact .kid j (m1' i hi hMi') hj
          · simp only [if_neg c] at h; exact m1' n hn h
        · have c : n ≠ T.kid i j := by lia
          simp only [if_neg c] at h
          by_cases c2 : T.kid n j' = T.kid i j
          · simp only [if_pos c2]
          · simp only [if_neg c2]; exact m2' n hn h j' hj'
        · have c : i ≠ T.kid i j := by lia
          simp only [if_neg c]; exact hMi'
        · by_cases c2 : T.kid i j' = T.kid i j
          · simp only [if_pos c2]
          · simp only [if_neg c2]
            refine m3' j' ?_
            have : j' ≠ j := fun e => c2 (by rw [e])
            lia
      · refine x0_3 z fun o5 e' o6 => ?_
        clear z
        refine x1_1 o5 fun w3 o19 => ?_
        clear o5
        subst o19
        refine x1_6 o6 fun M' hM' m0' m1' m2' hMi' m3' => ?_
        clear o6
        rw [tab_len] at m3'
        refine ⟨⟨_, _, _, rfl⟩, e', M', hM', m0', m1', fun n hn h => ?_⟩
        by_cases c : n = i
        · subst c; exact m3'
        · exact m2' n (by lia) h
  · refine x0_3 z fun o7 e o8 => ?_
    clear z
    refine x3_1 o7 fun w2 w3 w4 o20 => ?_
    clear o7
    subst o20
    refine x1_4 o8 fun M hM m0 m1 m2 => ?_
    clear o8
    have tM := (t.mono e).ch
    have key : ∀ n, n < T.sz → (M n = true ↔ Reach T n) := fun n hn => ⟨m1 n hn, fun h => by
      induction h with
      | root => exact m0
      | @kid n j hr hj ih =>
        have hn' := hr.lt ok
        exact m2 n hn' (ih hn') j hj⟩
    walk_at "y"
    refine ⟨by walk_at "w", ?_⟩
    refine m_upIf (n := T.sz) M nd (by lia) (by lia) (fun i H' hi e' => ?_) (fun H' e' => ?_)
    · walk_at "y"
      refine g_tab (e' _ _ hM) i (by lia) hi ?_
      walk_at "y"
      refine ⟨rfl, .refl _, fun _ => ?_⟩
      walk_at "y"
      exact ⟨by show V.int _ = V.int _; congr 1; lia, .refl _⟩
    · intro r H2 N2
      exact q M r H2 key (e.trans (e'.trans N2.ext)) N2.is
theorem longest_way (t : TreeAt H L T) (ok : T.Ok) (q : ∀ h H', Hgt T h → Ext H H' → Q (.ret (.int (h 0))) H') : wF f_longest_way [.ref L.ch] H Q := by
  have hz := ok.szh
  have hz' := ok.szl
  have tc := t.ch
  refine f_mk rfl ?_
  unfold b_longest_way
  walk_at "y"
  intro b H1 N1
  have tc1 := N1.ext _ _ tc
  walk_at "y"
  refine b_rep N1.is (by lia) ?_
  intro mk H2 N2
  have e2 := N1.ext.trans N2.ext
  have hmk : H2[mk]? = some (.list (tab T.sz fun _ => .int 0)) := by rw [N2.is, Int.toNat_natCast, tab_rep]
  have gmk : H.length ≤ mk := by have := N2.ge; have := N1.ext.len; lia
  have tc2 := e2 _ _ tc
  walk_at "y"
  refine ⟨⟨by walk_at "w", by walk_at "w"⟩, ?_⟩
  refine l_dn (n := T.sz) (fun i ρ' H' => (∃ w2 w3, ρ' = [.ref L.ch, .ref mk, w2, w3]) ∧ Ext H H' ∧ ∃ h : Nat → Int, H'[mk]? = some (.list (tab T.sz fun n => .int (h n))) ∧ (∀ n, n + i < T.sz → h n = 0) ∧
    ∀ n, n < T.sz → T.sz ≤ n + i → (∀ j, j < T.cnt n → h (T.kid n j) + 1 ≤ h n) ∧ (h n = 0 ∨ ∃ j, j < T.cnt n ∧ h n = h (T.kid n j) + 1)) (by lia) (by lia) ?_ (fun i ρ' H' hi z => ?_) (fun ρ' H' z => ?_)
  · exact ⟨⟨_, _, rfl⟩, e2, fun _ => 0, hmk, fun _ _ => rfl, fun n h1 h2 => absurd h2 (by lia)⟩
  · refine x0_3 z fun o9 e o10 => ?_
    clear z
    refine x2_1 o9 fun w2 w3 o21 => ?_
    clear o9
    subst o21
    refine x1_3 o10 fun h hh h0 hp => ?_
    clear o10
    have tM := t.mono e
    obtain ⟨m, hm⟩ : ∃ m, m + i + 1 = T.sz := ⟨T.sz - 1 - i, by lia⟩
    have gm : (T.sz : Int) - 1 - (i : Int) = (m : Nat) := by lia
    rw [gm]
    walk_at "y"
    refine g_tab tM.ch m rfl (by lia) ?_
    have hch := tM.chA m (by lia)
    have hchH := t.chA m (by lia)
    refine seq_lst hch ?_
    have cn := ok.cnt m
    refine l_lst (vs := tab (T.cnt m) fun j => .int (T.kid m j)) (fun j ρ' H'' => (∃ w3, ρ' = [.ref L.ch, .ref mk, .int (m : Int), w3]) ∧ Ext H H'' ∧ ∃ h : Nat → Int, H''[mk]? = some (.list (tab T.sz fun n => .int (h n))) ∧ (∀ n, n < m → h n = 0) ∧
      (∀ n, n < T.sz → m < n → (∀ j, j < T.cnt n → h (T.kid n j) + 1 ≤ h n) ∧ (h n = 0 ∨ ∃ j, j < T.cnt n ∧ h n = h (T.kid n j) + 1)) ∧ (∀ j', j' < j → h (T.kid m j') + 1 ≤ h m) ∧ (h m = 0 ∨ ∃ j', j' < j ∧ h m = h (T.kid m j') + 1)) (by rw [tab_len]; lia) (fun j ρ' H'' z => z.2.1 _ _ hchH) ?_ (fun j v ρ' H'' hv z => ?_) (fun ρ' H'' z => ?_)
    · exact ⟨⟨w3, rfl⟩, e, h, hh, fun n hn => h0 n (by lia), fun n h1 h2 => hp n h1 (by lia), fun j' h => absurd h (by lia), .inl (h0 m (by lia))⟩
    · refine x0_3 z fun o11 e' o12 => ?_
      clear z
      refine x1_1 o11 fun w3 o22 => ?_
      clear o11
      subst o22
      refine x1_5 o12 fun h' hh' h0' hp' h1' h2' => ?_
      clear o12
      have hj : j < T.cnt m := by have := (List.getElem?_eq_some_iff.mp hv).1; rwa [tab_len] at this
      rw [tab_get _ hj] at hv
      cases hv
      have hk := ok.kid m j (by lia) hj
      walk_at "y"
      refine g_tab hh' (T.kid m j) rfl hk.2 ?_
      walk_at "y"
      refine g_tab hh' m rfl (by lia) ?_
      walk_at "y"
      by_cases c : h' m < h' (T.kid m j) + 1
      · refine ifT (decide_eq_true c) ?_
        walk_at "y"
        refine g_tab hh' (T.kid m j) rfl hk.2 ?_
        walk_at "y"
        refine set_tab hh' m rfl (by lia) ?_
        have km : ∀ n j', n < T.sz → m ≤ n → j' < T.cnt n → T.kid n j' ≠ m := fun n j' a1 a2 a3 => by have := ok.kid n j' a1 a3; lia
        refine ⟨⟨_, rfl⟩, e'.set (n := mk) gmk _, fun n => if n = m then h' (T.kid m j) + 1 else h' n, ?_, fun n hn => ?_, fun n a1 a2 => ?_, fun j' hj' => ?_, ?_⟩
        · rw [List.getElem?_set_self (List.getElem?_eq_some_iff.mp hh').1]
          congr 3
          funext n
          by_cases c : n = m <;> simp [c]
        · simp only [if_neg (show n ≠ m by lia)]; exact h0' n hn
        · refine x0_2 (hp' n a1 a2) fun b1 b2 => ?_
          simp only [if_neg (show n ≠ m by lia)]
          refine ⟨fun j' hj' => ?_, ?_⟩
          · simp only [if_neg (km n j' a1 (by lia) hj')]; exact b1 j' hj'
          · rcases b2 with b2 | ⟨j', b3, b4⟩
            · exact .inl b2
            · refine .inr ⟨j', b3, ?_⟩
              simp only [if_neg (km n j' a1 (by lia) b3)]; exact b4
        · have hj'' : j' < T.cnt m := by lia
          simp only [if_neg (km m j' (by lia) (Nat.le_refl _) hj''), if_true]
          by_cases c2 : j' = j
          · subst c2; lia
          · have := h1' j' (by lia); lia
        · refine .inr ⟨j, by lia, ?_⟩
          simp only [if_neg (km m j (by lia) (Nat.le_refl _) hj), if_true]
      · refine ifF (by rw [decide_eq_false c]; nofun) ?_
        refine s_pass ⟨⟨_, rfl⟩, e', h', hh', h0', hp', fun j' hj' => ?_, ?_⟩
        · by_cases c2 : j' = j
          · subst c2; lia
          · exact h1' j' (by lia)
        · rcases h2' with b | ⟨j', b1, b2⟩
          · exact .inl b
          · exact .inr ⟨j', by lia, b2⟩
    · refine x0_3 z fun o13 e' o14 => ?_
      clear z
      refine x1_1 o13 fun w3 o23 => ?_
      clear o13
      subst o23
      refine x1_5 o14 fun h' hh' h0' hp' h1' h2' => ?_
      clear o14
      rw [tab_len] at h1' h2'
      refine ⟨⟨_, _, rfl⟩, e', h', hh', fun n hn => h0' n (by lia), fun n a1 a2 => ?_⟩
      by_cases c : n = m
      · subst c; exact ⟨h1', h2'⟩
      · exact hp' n a1 (by lia)
  · refine x0_3 z fun o15 e o16 => ?_
    clear z
    refine x2_1 o15 fun w2 w3 o24 => ?_
    clear o15
    subst o24
    refine x1_3 o16 fun h hh h0 hp => ?_
    clear o16
    walk_at "y"
    refine g_tab hh 0 rfl (by lia) ?_
    exact q h H' ⟨fun n hn => (hp n hn (by lia)).1, fun n hn => (hp n hn (by lia)).2⟩ e
end
theorem any_nd {S : List Nat} {n : Nat} {is : List Int} (h : is = S.map fun (i : Nat) => (i : Int)) : (is.any fun i => i == (n : Int)) = decide (n ∈ S) := by
  subst h
  induction S with
  | nil => rfl
  | cons a r ih =>
    rw [List.map_cons, List.any_cons, ih]
    by_cases c : n = a
    · subst c; simp
    · have : ((a : Int) == (n : Int)) = false := by rw [beq_eq_false_iff_ne]; lia
      rw [this, Bool.false_or]
      simp [c]
theorem nd_map (S : List Nat) : S.map nd = (S.map fun (i : Nat) => (i : Int)).map V.int := by rw [List.map_map]; rfl
noncomputable def notIn (S : List Nat) (v : V) : Bool := match v with
  | .int a => !((S.map fun (i : Nat) => (i : Int)).any fun i => i == a)
  | _ => false
theorem filter_nd (S A : List Nat) : (A.map nd).filter (notIn S) = (A.filter fun n => !decide (n ∈ S)).map nd := by
  induction A with
  | nil => rfl
  | cons a r ih =>
    have e : notIn S (nd a) = !decide (a ∈ S) := by show (!_) = _; rw [any_nd rfl]
    rw [List.map_cons, List.filter_cons, List.filter_cons, e, ih]
    by_cases c : a ∈ S
    · simp [c]
    · simp [c]
section
variable {H : Hp} {L : Lay} {T : Tr} {Q : FR → Hp → Prop}
structure Next (T : Tr) (A A' : List Nat) : Prop where
  nodup : A'.Nodup
  mem : ∀ m, m ∈ A' ↔ ∃ n j, n ∈ A ∧ j < T.cnt n ∧ m = T.kid n j
structure RD where
  S : List Nat
  A : List Nat
  hr : Nat
  rd : Int
  w4 : V
  w5 : V
  w6 : V
  w7 : V
structure RI (T : Tr) (h : Nat → Int) (H : Hp) (ch sn : Nat) (k : Nat) (ρ' : List V) (H' : Hp) (D : RD) : Prop where
  k : k = (h 0 - D.rd).toNat
  env : ρ' = [.ref ch, .ref sn, .ref D.hr, .int D.rd, D.w4, D.w5, D.w6, D.w7]
  e : Ext H H'
  shr : sn < D.hr
  hS : H'[sn]? = some (.list (D.S.map nd))
  hA : H'[D.hr]? = some (.list (D.A.map nd))
  dS : D.S.Nodup
  dA : D.A.Nodup
  rS : ∀ n, n ∈ D.S → Reach T n
  zS : 0 ∈ D.S
  AS : ∀ n, n ∈ D.A → n ∈ D.S
  cl : ∀ n, n ∈ D.S → n ∉ D.A → ∀ j, j < T.cnt n → T.kid n j ∈ D.S
  r1 : -1 ≤ D.rd
  r2 : D.rd ≤ h 0
  lv : (D.A = [] ∧ D.rd = h 0) ∨ (∃ n, n ∈ D.A ∧ h n = h 0 - (D.rd + 1)) ∧ ∀ n, n ∈ D.A → h n ≤ h 0 - (D.rd + 1)
theorem law_rounds (t : TreeAt H L T) (ok : T.Ok) {h : Nat → Int} (hh : Hgt T h)
    (q : ∀ (S : List Nat) r m H', S.Nodup → (∀ n, n ∈ S ↔ Reach T n) → Ext H H' → H'[m]? = some (.list ((sortI (S.map fun (i : Nat) => (i : Int))).map .int)) → H'[r]? = some (.tup [.ref m, .int (h 0)]) → Q (.ret (.ref r)) H') : wF f_law_rounds [.ref L.ch] H Q := by
  have hz := ok.szh
  have hz' := ok.szl
  have tc := t.ch
  have hb : ∀ n, n < T.sz → 0 ≤ h n := fun n hn => (hh.bound ok T.sz n hn (by lia)).1
  have hb0 := hh.bound ok T.sz 0 (by lia) (by lia)
  refine f_mk rfl ?_
  unfold b_law_rounds
  walk_at "y"
  intro sn H1 N1
  walk_at "y"
  intro he H2 N2
  walk_at "y"
  have snlt := N1.lt
  have e2 := N1.ext.trans N2.ext
  refine s_while (w_while (fun k ρ' H' => ∃ D, RI T h H L.ch sn k ρ' H' D) (h 0 + 1).toNat (by lia) ?_ fun k' ρ' H' z => ?_)
  · refine ⟨⟨[0], [0], he, -1, .undef, .undef, .undef, .undef⟩, by show (h 0 + 1).toNat = (h 0 - -1).toNat; congr 1, rfl, e2, by have := N2.ge; show sn < he; lia, N2.ext _ _ N1.is, N2.is, by simp, by simp, fun n hn => ?_, by simp, fun n hn => hn, fun n h1 h2 => absurd h1 h2, by show (-1 : Int) ≤ -1; lia, by show (-1 : Int) ≤ h 0; lia, .inr ⟨⟨0, by simp, by show h 0 = h 0 - (-1 + 1); lia⟩, fun n hn => ?_⟩⟩
    · have : n = 0 := by simpa using hn
      subst this; exact .root
    · have : n = 0 := by simpa using hn
      subst this; show h 0 ≤ h 0 - (-1 + 1); lia
  · refine x1_1 z fun o1 o2 => ?_
    clear z
    obtain ⟨S, A, hr, rd, w4, w5, w6, w7⟩ := o1
    obtain ⟨rfl, rfl, e, shr, hS, hA, dS, dA, rS, zS, AS, cl, r1, r2, lv⟩ := o2
    dsimp only at e shr hS hA dS dA rS zS AS cl r1 r2 lv
    have ASl : ∀ n, n ∈ A → n < T.sz := fun n hn => (rS n (AS n hn)).lt ok
    have lenA := nodup_len T.sz dA ASl
    have lenS := nodup_len T.sz dS fun n hn => (rS n hn).lt ok
    have hS' : H'[sn]? = some (.list ((S.map fun (i : Nat) => (i : Int)).map .int)) := by rw [← nd_map]; exact hS
    refine t_val (e_loc rfl (u_list hA ?_))
    cases A with
    | nil =>
      walk_at "z"; refine ifF nofun ?_
      have hrd : rd = h 0 := by
        rcases lv with ⟨_, x⟩ | ⟨⟨n, hn, _⟩, _⟩
        · exact x
        · simp at hn
      walk_at "y"
      refine ints_of hS' ?_
      refine ⟨by simp; lia, fun m H3 N3 => ?_⟩
      walk_at "y"
      intro r H4 N4
      rw [hrd] at N4
      refine q S r m H4 dS (fun n => ⟨rS n, fun hn => ?_⟩) (e.trans (N3.ext.trans N4.ext)) (N4.ext _ _ N3.is) N4.is
      induction hn with
      | root => exact zS
      | @kid n j _ hj ih => exact cl n ih (by simp) j hj
    | cons a0 A0 =>
      generalize hAA : a0 :: A0 = A at *
      have hne : A ≠ [] := by rw [← hAA]; simp
      walk_at "z"; refine ifT (by walk_at "z"; rw [← hAA]; rfl) ?_
      refine s_seq (s_aug rfl (e_int ⟨_, rfl, ?_⟩))
      walk_at "y"
      intro af H3 N3
      have e3 := e.trans N3.ext
      have hA3 := N3.ext _ _ hA
      have hS3 := N3.ext _ _ hS
      have aflt := N3.ge
      have hrlt := (List.getElem?_eq_some_iff.mp hA).1
      have gaf : H.length ≤ af := by have := e.len; lia
      walk_at "y"
      refine seq_lst hA3 ?_
      refine l_lst (vs := A.map nd) (fun i ρ' K => (∃ w5 w6 w7, ρ' = [.ref L.ch, .ref sn, .ref hr, .int (rd + 1), .ref af, w5, w6, w7]) ∧ Ext H K ∧ K[sn]? = some (.list (S.map nd)) ∧ K[hr]? = some (.list (A.map nd)) ∧ H3.length ≤ K.length ∧
        ∃ A' : List Nat, K[af]? = some (.list (A'.map nd)) ∧ Next T (A.take i) A') (by rw [List.length_map]; lia) (fun i ρ' K z => z.2.2.2.1) ?_ (fun i v ρ' K hv z => ?_) (fun ρ' K z => ?_)
      · exact ⟨⟨_, _, _, rfl⟩, e3, hS3, hA3, Nat.le_refl _, [], N3.is, by simp, fun m => by simp⟩
      · refine x0_6 z fun o3 eK hSK hAK lK o4 => ?_
        clear z
        refine x3_1 o3 fun w5 w6 w7 o17 => ?_
        clear o3
        subst o17
        refine x1_2 o4 fun A' hA' nx => ?_
        clear o4
        refine x1_2 (map_get hv) fun n hn o5 => ?_
        subst o5
        have hnA : n ∈ A := List.mem_of_getElem? hn
        have hnl := ASl n hnA
        have tK := t.mono eK
        have hchH := t.chA n hnl
        have cn := ok.cnt n
        refine s_for (i_seq (e_sub (e_loc rfl (e_loc rfl (g_tab tK.ch n rfl hnl (seq_lst (tK.chA n hnl) ?_))))))
        refine l_lst (vs := tab (T.cnt n) fun j => .int (T.kid n j)) (fun j ρ' K' => (∃ w6, ρ' = [.ref L.ch, .ref sn, .ref hr, .int (rd + 1), .ref af, nd n, w6, w7]) ∧ Ext H K' ∧ K'[sn]? = some (.list (S.map nd)) ∧ K'[hr]? = some (.list (A.map nd)) ∧ H3.length ≤ K'.length ∧
          ∃ A' : List Nat, K'[af]? = some (.list (A'.map nd)) ∧ A'.Nodup ∧ ∀ m, m ∈ A' ↔ (∃ n j, n ∈ A.take i ∧ j < T.cnt n ∧ m = T.kid n j) ∨ ∃ j', j' < j ∧ m = T.kid n j') (by rw [tab_len]; lia) (fun j ρ' K' z => z.2.1 _ _ hchH) ?_ (fun j v ρ' K' hv z => ?_) (fun ρ' K' z => ?_)
        · exact ⟨⟨_, rfl⟩, eK, hSK, hAK, lK, A', hA', nx.nodup, fun m => by rw [nx.mem]; simp⟩
        · refine x0_6 z fun o6 eK' hSK' hAK' lK' o7 => ?_
          clear z
          refine x1_1 o6 fun w6 o18 => ?_
          clear o6
          subst o18
          refine x1_3 o7 fun B hB dB mB => ?_
          clear o7
          have hj : j < T.cnt n := by have := (List.getElem?_eq_some_iff.mp hv).1; rwa [tab_len] at this
          rw [tab_get _ hj] at hv
          cases hv
          have hk := ok.kid n j hnl hj
          have Bl : ∀ m, m ∈ B → m < T.sz := fun m hm => by
            rcases (mB m).mp hm with ⟨n', j', h1, h2, rfl⟩ | ⟨j', h1, rfl⟩
            · exact (ok.kid n' j' (ASl n' (List.mem_of_mem_take h1)) h2).2
            · exact (ok.kid n j' hnl (by lia)).2
          have lenB := nodup_len T.sz dB Bl
          have hB' : K'[af]? = some (.list ((B.map fun (i : Nat) => (i : Int)).map .int)) := by rw [← nd_map]; exact hB
          refine s_if (t_cmp (e_loc rfl (e_loc rfl (c_notin_list hB' ?_))))
          rw [any_nd rfl]
          by_cases c : T.kid n j ∈ B
          · walk_at "z"; refine ifF (by simp [c]) ?_
            refine s_pass ⟨⟨_, rfl⟩, eK', hSK', hAK', lK', B, hB, dB, fun m => ?_⟩
            rw [mB]
            constructor
            · rintro (x | ⟨j', h1, h2⟩)
              · exact .inl x
              · exact .inr ⟨j', by lia, h2⟩
            · rintro (x | ⟨j', h1, h2⟩)
              · exact .inl x
              · by_cases c2 : j' = j
                · subst c2; rw [h2]; exact (mB _).mp c
                · exact .inr ⟨j', by lia, h2⟩
          · walk_at "z"; refine ifT (by simp [c]) ?_
            refine s_expr (e_append (e_loc rfl (l1_of hB (e_loc rfl (push_of hB (by rw [List.length_map]; lia) ?_)))))
            refine ⟨⟨_, rfl⟩, eK'.set (n := af) gaf _, ?_, ?_, ?_, B ++ [T.kid n j], ?_, ?_, fun m => ?_⟩
            · rw [List.getElem?_set_ne (by lia)]; exact hSK'
            · rw [List.getElem?_set_ne (by lia)]; exact hAK'
            · rw [List.length_set]; exact lK'
            · rw [List.getElem?_set_self (List.getElem?_eq_some_iff.mp hB).1, List.map_append]; rfl
            · refine List.nodup_append.mpr ⟨dB, by simp, fun x hx y hy => ?_⟩
              have : y = T.kid n j := by simpa using hy
              subst this
              exact fun e => c (e ▸ hx)
            · rw [List.mem_append, mB, List.mem_singleton]
              constructor
              · rintro ((x | ⟨j', h1, h2⟩) | x)
                · exact .inl x
                · exact .inr ⟨j', by lia, h2⟩
                · exact .inr ⟨j, by lia, x⟩
              · rintro (x | ⟨j', h1, h2⟩)
                · exact .inl (.inl x)
                · by_cases c2 : j' = j
                  · subst c2; exact .inr h2
                  · exact .inl (.inr ⟨j', by lia, h2⟩)
        · refine x0_6 z fun o8 eK' hSK' hAK' lK' o9 => ?_
          clear z
          refine x1_1 o8 fun w6 o19 => ?_
          clear o8
          subst o19
          refine x1_3 o9 fun B hB dB mB => ?_
          clear o9
          rw [tab_len] at mB
          refine ⟨⟨_, _, _, rfl⟩, eK', hSK', hAK', lK', B, hB, dB, fun m => ?_⟩
          rw [mB, List.take_add_one, hn]
          constructor
          · rintro (⟨n', j', h1, h2, h3⟩ | ⟨j', h1, h2⟩)
            · exact ⟨n', j', by simp [h1], h2, h3⟩
            · exact ⟨n, j', by simp, h1, h2⟩
          · rintro ⟨n', j', h1, h2, h3⟩
            rcases List.mem_append.mp h1 with h1 | h1
            · exact .inl ⟨n', j', h1, h2, h3⟩
            · have : n' = n := by simpa using h1
              subst this
              exact .inr ⟨j', h2, h3⟩
      · refine x0_6 z fun o10 eK hSK hAK lK o11 => ?_
        clear z
        refine x3_1 o10 fun w5 w6 w7 o20 => ?_
        clear o10
        subst o20
        refine x1_2 o11 fun A' hA' nx => ?_
        clear o11
        rw [List.length_map, List.take_length] at nx
        have A'l : ∀ m, m ∈ A' → m < T.sz := fun m hm => by
          refine x2_3 ((nx.mem m).mp hm) fun n' j' h1 h2 o12 => ?_
          subst o12
          exact (ok.kid n' j' (ASl n' h1) h2).2
        have lenA' := nodup_len T.sz nx.nodup A'l
        have hSK' : K[sn]? = some (.list ((S.map fun (i : Nat) => (i : Int)).map .int)) := by rw [← nd_map]; exact hSK
        refine s_seq (s_augL rfl (e_comp (i_seq (e_loc rfl (seq_lst hA' ?_)))))
        refine m_lstIf (notIn S) (by rw [List.length_map]; lia) hA' (fun i v H' hv e' => ?_) (fun H' e' => ?_)
        · refine x1_2 (map_get hv) fun n hn o13 => ?_
          subst o13
          refine t_cmp (e_loc rfl (e_loc rfl (c_notin_list (e' _ _ hSK') ⟨rfl, .refl _, ?_⟩)))
          exact e_loc rfl ⟨rfl, .refl _⟩
        · intro nw H5 N5
          have e5 := e'.trans N5.ext
          rw [filter_nd] at N5
          have nwlt := N5.ge
          have snK := (List.getElem?_eq_some_iff.mp hSK).1
          have l5 := e5.len
          have l6 := e'.len
          have afK := (List.getElem?_eq_some_iff.mp hA').1
          have lf := List.length_filter_le (fun n => !decide (n ∈ S)) A'
          refine ⟨nw, _, _, rfl, e5 _ _ hSK, N5.is, by lia, by rw [List.length_map, List.length_map]; lia, ?_⟩
          refine s_assign (e_loc rfl ?_)
          have hrd1 : rd + 1 ≤ h 0 := by
            rcases lv with ⟨x, _⟩ | ⟨⟨n, hn, x⟩, _⟩
            · exact absurd x hne
            · have := hb n (ASl n hn); lia
          refine ⟨(h 0 - (rd + 1)).toNat, by show (h 0 - (rd + 1)).toNat < (h 0 - rd).toNat; lia, ⟨S ++ A'.filter (fun n => !decide (n ∈ S)), A', af, rd + 1, .ref af, w5, w6, w7⟩, rfl, rfl, (eK.trans e5).set (n := sn) (by have := N1.ge; lia) _, by dsimp only; lia, ?_, ?_, ?_, nx.nodup, fun n hn => ?_, by simp [zS], fun n hn => ?_, fun n hn hn2 j hj => ?_, by dsimp only; lia, hrd1, ?_⟩
          · rw [List.getElem?_set_self (by lia), List.map_append]
          · show (List.set _ sn _)[af]? = some (O.list (A'.map nd))
            rw [List.getElem?_set_ne (by lia)]; exact e5 _ _ hA'
          · refine List.nodup_append.mpr ⟨dS, nx.nodup.filter _, fun x hx y hy => ?_⟩
            have := (List.mem_filter.mp hy).2
            intro exy
            subst exy
            simp [hx] at this
          · rcases List.mem_append.mp hn with hn | hn
            · exact rS n hn
            · refine x2_3 ((nx.mem n).mp (List.mem_filter.mp hn).1) fun n' j' h1 h2 o14 => ?_
              subst o14
              exact .kid j' (rS n' (AS n' h1)) h2
          · by_cases c : n ∈ S
            · exact List.mem_append.mpr (.inl c)
            · exact List.mem_append.mpr (.inr (List.mem_filter.mpr ⟨hn, by simp [c]⟩))
          · have mem' : ∀ m, m ∈ A' → m ∈ S ++ A'.filter (fun n => !decide (n ∈ S)) := fun m hm => by
              by_cases c : m ∈ S
              · exact List.mem_append.mpr (.inl c)
              · exact List.mem_append.mpr (.inr (List.mem_filter.mpr ⟨hm, by simp [c]⟩))
            rcases List.mem_append.mp hn with hn | hn
            · by_cases c : n ∈ A
              · exact mem' _ ((nx.mem _).mpr ⟨n, j, c, hj, rfl⟩)
              · exact List.mem_append.mpr (.inl (cl n hn c j hj))
            · exact absurd (List.mem_filter.mp hn).1 hn2
          · show (A' = [] ∧ rd + 1 = h 0) ∨ (∃ n, n ∈ A' ∧ h n = h 0 - (rd + 1 + 1)) ∧ ∀ n, n ∈ A' → h n ≤ h 0 - (rd + 1 + 1)
            rcases lv with ⟨x, _⟩ | ⟨⟨n, hn, x⟩, y⟩
            · exact absurd x hne
            · by_cases c : A' = []
              · refine .inl ⟨c, ?_⟩
                rcases hh.dn n (ASl n hn) with x0 | ⟨j, hj, _⟩
                · lia
                · have : T.kid n j ∈ A' := (nx.mem _).mpr ⟨n, j, hn, hj, rfl⟩
                  rw [c] at this; simp at this
              · refine .inr ⟨?_, fun m hm => ?_⟩
                · rcases hh.dn n (ASl n hn) with x0 | ⟨j, hj, xj⟩
                  · refine x1_1 (List.exists_mem_of_ne_nil _ c) fun m hm => ?_
                    refine x2_3 ((nx.mem m).mp hm) fun n' j' h1 h2 o15 => ?_
                    subst o15
                    have a1 := hh.up n' (ASl n' h1) j' h2
                    have a2 := y n' h1
                    have a3 := hb _ (ok.kid n' j' (ASl n' h1) h2).2
                    lia
                  · exact ⟨T.kid n j, (nx.mem _).mpr ⟨n, j, hn, hj, rfl⟩, by lia⟩
                · refine x2_3 ((nx.mem m).mp hm) fun n' j' h1 h2 o16 => ?_
                  subst o16
                  have a1 := hh.up n' (ASl n' h1) j' h2
                  have a2 := y n' h1
                  lia
end
theorem sorted_eq {T : Tr} (ok : T.Ok) {S : List Nat} {M : Nat → Bool} (dS : S.Nodup) (mS : ∀ n, n ∈ S ↔ Reach T n) (mM : ∀ n, n < T.sz → (M n = true ↔ Reach T n)) :
    (sortI (S.map fun (i : Nat) => (i : Int))).map V.int = ((List.range T.sz).filter M).map nd := by
  rw [nd_map]
  congr 1
  have dn : (S.map fun (i : Nat) => (i : Int)).Nodup := by
    induction S with
    | nil => simp
    | cons a r ih => 
      refine x0_2 (List.nodup_cons.mp dS) fun h1 h2 => ?_
      rw [List.map_cons]
      refine List.nodup_cons.mpr ⟨fun h => ?_, ?_⟩
      · refine x1_2 (List.mem_map.mp h) fun b hb e => ?_
        have : b = a := by lia
        exact h1 (this ▸ hb)
      · clear ih mS dS h1
        induction r with
        | nil => simp
        | cons b r ih =>
          refine x0_2 (List.nodup_cons.mp h2) fun h3 h4 => ?_
          rw [List.map_cons]
          refine List.nodup_cons.mpr ⟨fun h => ?_, ih h4⟩
          refine x1_2 (List.mem_map.mp h) fun c hc e => ?_
          have : c = b := by lia
          exact h3 (this ▸ hc)
  have pr : ∀ k, (((List.range k).filter M).map fun (i : Nat) => (i : Int)).Pairwise (· < ·) ∧ ∀ a, a ∈ (((List.range k).filter M).map fun (i : Nat) => (i : Int)) → a < k := by
    intro k
    induction k with
    | zero => simp
    | succ k ih =>
      rw [List.range_succ, List.filter_append, List.map_append]
      refine ⟨List.pairwise_append.mpr ⟨ih.1, ?_, fun a ha b hb => ?_⟩, fun a ha => ?_⟩
      · rw [List.filter_cons]; split <;> simp
      · have := ih.2 a ha
        refine x1_2 (List.mem_map.mp hb) fun c hc e => ?_
        have : c = k := by simpa using (List.mem_filter.mp hc).1
        lia
      · rcases List.mem_append.mp ha with ha | ha
        · have := ih.2 a ha; lia
        · refine x1_2 (List.mem_map.mp ha) fun c hc e => ?_
          have : c = k := by simpa using (List.mem_filter.mp hc).1
          lia
  refine pw_eq (pw_sortI dn) (pr _).1 fun a => ?_
  rw [mem_sortI]
  constructor
  · intro h
    refine x1_2 (List.mem_map.mp h) fun n hn e => ?_
    have hr := (mS n).mp hn
    have hl := hr.lt ok
    exact List.mem_map.mpr ⟨n, List.mem_filter.mpr ⟨List.mem_range.mpr hl, (mM n hl).mpr hr⟩, e⟩
  · intro h
    refine x1_2 (List.mem_map.mp h) fun n hn e => ?_
    refine x0_2 (List.mem_filter.mp hn) fun h1 h2 => ?_
    exact List.mem_map.mpr ⟨n, (mS n).mpr ((mM n (List.mem_range.mp h1)).mp h2), e⟩
noncomputable def adj (p : Nat) (v : Int) : Int := if v > 31000 then v - p else if v < -31000 then v + p else v
noncomputable def Rng (l : Nat) (v : Int) : Prop := (-50 ≤ v ∧ v ≤ 50) ∨ (32000 - (l : Int) ≤ v ∧ v ≤ 32000) ∨ (v ≤ -32000 + (l : Int) ∧ -32000 ≤ v)
theorem Rng.mono {l l' : Nat} {v : Int} (h : Rng l v) (e : l ≤ l') : Rng l' v := h.imp id (Or.imp (fun h => ⟨by lia, h.2⟩) fun h => ⟨by lia, h.2⟩)
theorem Rng.up {l : Nat} {v : Int} (h : Rng l v) (hl : l ≤ 20) : Rng (l + 1) (upI v) := by
  unfold upI
  rcases h with ⟨a, b⟩ | ⟨a, b⟩ | ⟨a, b⟩
  · rw [if_neg (by lia), if_neg (by lia)]; exact .inl ⟨by lia, by lia⟩
  · rw [if_pos (by lia)]; exact .inr (.inr ⟨by lia, by lia⟩)
  · rw [if_neg (by lia), if_pos (by lia)]; exact .inr (.inl ⟨by lia, by lia⟩)
theorem adj_up {l p : Nat} {v : Int} (h : Rng l v) (hl : l ≤ 20) : -(adj (p + 1) v) = adj p (upI v) := by
  unfold Rng at h
  unfold adj upI
  by_cases c : v > 31000
  · rw [if_pos c, if_pos c, if_neg (by lia), if_pos (by lia)]; lia
  · rw [if_neg c, if_neg c]
    by_cases c2 : v < -31000
    · rw [if_pos c2, if_pos c2, if_pos (by lia)]; lia
    · rw [if_neg c2, if_neg c2, if_neg (by lia), if_neg (by lia)]
theorem adj_mono {p : Nat} {v w : Int} (hv : Rng 20 v) (hw : Rng 20 w) (hp : p ≤ 20) (h : v ≤ w) : adj p v ≤ adj p w := by
  unfold Rng at hv hw
  unfold adj
  split <;> split <;> (try split) <;> (try split) <;> lia
theorem adj_lo {p : Nat} {v : Int} (hv : Rng 20 v) (hp : p ≤ 20) : -32001 < adj p v := by
  unfold Rng at hv
  unfold adj
  split
  · lia
  · split <;> lia
theorem Rng.maxI {l : Nat} : ∀ {vs : List Int} {b : Int}, Rng l b → (∀ v ∈ vs, Rng l v) → Rng l (maxI b vs)
  | [], b, h, _ => h
  | v :: r, b, h, h' => by
    show Rng l (Mine.maxI (if v > b then v else b) r)
    refine Rng.maxI ?_ fun x hx => h' x (by simp [hx])
    split
    · exact h' v (by simp)
    · exact h
theorem adj_maxI {p : Nat} (hp : p ≤ 20) : ∀ (vs : List Int) (b : Int), Rng 20 b → (∀ v ∈ vs, Rng 20 v) → adj p (maxI b vs) = maxI (adj p b) (vs.map (adj p))
  | [], b, _, _ => rfl
  | v :: r, b, h, h' => by
    have hv := h' v (by simp)
    show adj p (maxI (if v > b then v else b) r) = maxI (if adj p v > adj p b then adj p v else adj p b) (r.map (adj p))
    rw [adj_maxI hp r _ (by split; exact hv; exact h) fun x hx => h' x (by simp [hx])]
    congr 1
    by_cases c : v > b
    · rw [if_pos c]
      have := adj_mono h hv hp (by lia)
      split <;> lia
    · rw [if_neg c]
      have := adj_mono hv h hp (by lia)
      rw [if_neg (by lia)]
theorem maxI_low {i : Int} {r : List Int} (h : -32001 < i) : maxI (-32001) (i :: r) = maxI i r := by
  show maxI (if i > -32001 then i else -32001) r = _
  rw [if_pos h]
section
variable {T : Tr}
theorem kids_ne {T : Tr} {n : Nat} (h : T.cnt n ≠ 0) : ∃ k r, T.kids n = k :: r := by
  unfold Tr.kids
  obtain ⟨c, hc⟩ : ∃ c, T.cnt n = c + 1 := ⟨T.cnt n - 1, by lia⟩
  rw [hc, List.range_succ_eq_map]
  exact ⟨_, _, rfl⟩
theorem mem_kids {n k : Nat} (h : k ∈ T.kids n) : ∃ j, j < T.cnt n ∧ T.kid n j = k := by
  unfold Tr.kids at h
  refine x1_2 (List.mem_map.mp h) fun j hj e => ?_
  exact ⟨j, List.mem_range.mp hj, e⟩
theorem mem_nkids {n k : Nat} (h : k ∈ T.nkids n) : ∃ j, j < T.cnt n ∧ T.kid n j = k := by
  unfold Tr.nkids at h
  refine x1_2 (List.mem_map.mp h) fun j hj e => ?_
  exact ⟨j, List.mem_range.mp (List.mem_filter.mp hj).1, e⟩
theorem lnode_rng (ok : T.Ok) {f : Option (Nat → Int)} {full : Bool} {n l : Nat} (hl : l ≤ 20) (hf : ∀ g, f = some g → ∀ k, Rng l (g k)) : Rng (l + 1) (T.lnode f full n) := by
  have va : Rng (l + 1) (T.va n) := .inl ⟨ok.val n, ok.vah n⟩
  unfold Tr.lnode
  split
  · exact .inl (by lia)
  · split
    · split
      · exact .inr (.inr (by lia))
      · exact .inl (by lia)
    · rename_i c
      cases f with
      | none => exact va
      | some f =>
        have hu : ∀ k, Rng (l + 1) (upI (f k)) := fun k => (hf f rfl k).up hl
        dsimp only
        split
        · rename_i c2
          refine x2_1 (kids_ne (T := T) (n := n) fun e => c ⟨c2, e⟩) fun k r e => ?_
          rw [e]
          exact Rng.maxI (hu k) fun v hv => by
            refine x1_2 (List.mem_map.mp hv) fun x _ o1 => ?_
            subst o1
            exact hu x
        · exact Rng.maxI va fun v hv => by
            refine x1_2 (List.mem_map.mp hv) fun x _ o2 => ?_
            subst o2
            exact hu x
theorem lev_rng (ok : T.Ok) (q : Nat) : ∀ (l n : Nat), l ≤ 15 → Rng (l + 1) (T.lev q l n)
  | 0, n, _ => by
    unfold Tr.lev
    exact lnode_rng ok (l := 0) (by decide) fun g h => by cases h
  | l + 1, n, h => by
    unfold Tr.lev
    exact lnode_rng ok (by lia) fun g hg k => by cases hg; exact lev_rng ok q l k (by lia)
theorem max_kids (ok : T.Ok) {q l p : Nat} (hl : l ≤ 15) (hp : p ≤ 19) {g : Nat → Int} {b : Int} {ks : List Nat} (hb : Rng 20 b) (hg : ∀ k ∈ ks, g k = adj (p + 1) (T.lev q l k)) :
    maxI (adj p b) (ks.map fun k => -g k) = adj p (maxI b (ks.map fun k => upI (T.lev q l k))) := by
  have hr : ∀ k, Rng 20 (upI (T.lev q l k)) := fun k => ((lev_rng ok q l k hl).up (by lia)).mono (by lia)
  rw [adj_maxI (by lia) _ _ hb fun v hv => by obtain ⟨x, _, rfl⟩ := List.mem_map.mp hv; exact hr x]
  rw [List.map_map]
  congr 1
  refine List.map_congr_left fun k hk => ?_
  rw [hg k hk, adj_up (lev_rng ok q l k hl) (by lia)]; rfl
theorem max_kids' (ok : T.Ok) {q l p : Nat} (hl : l ≤ 15) (hp : p ≤ 19) {g : Nat → Int} {ks : List Nat} {k0 : Nat} {r : List Nat} (e : ks = k0 :: r) (hg : ∀ k ∈ ks, g k = adj (p + 1) (T.lev q l k)) :
    maxI (-32001) (ks.map fun k => -g k) = adj p (maxL (ks.map fun k => upI (T.lev q l k))) := by
  have hr : ∀ k, Rng 20 (upI (T.lev q l k)) := fun k => ((lev_rng ok q l k hl).up (by lia)).mono (by lia)
  subst e
  have e0 : -g k0 = adj p (upI (T.lev q l k0)) := by rw [hg k0 (by simp), adj_up (lev_rng ok q l k0 hl) (by lia)]
  rw [List.map_cons, maxI_low (by rw [e0]; exact adj_lo (hr k0) (by lia)), e0]
  exact max_kids ok hl hp (hr k0) fun k hk => hg k (by simp [hk])
theorem adj_small {p : Nat} {v : Int} (h : -50 ≤ v ∧ v ≤ 50) : adj p v = v := by
  unfold adj
  rw [if_neg (by lia), if_neg (by lia)]
theorem adj_mate (p : Nat) : adj p (-32000) = (p : Int) - 32000 := by
  unfold adj
  rw [if_neg (by decide), if_pos (by decide)]; lia
theorem quie_lev (ok : T.Ok) (q : Nat) (hq : q ≤ 5) : ∀ (l p n : Nat), l ≤ q → p + l ≤ 19 → n < T.sz → (0 < n ↔ 0 < p) → T.quie l p n = adj p (T.lev q l n)
  | 0, p, n, _, _, _, hnp => by
    have hv : -50 ≤ T.va n ∧ T.va n ≤ 50 := ⟨ok.val n, ok.vah n⟩
    unfold Tr.quie Tr.lev Tr.lnode
    by_cases c1 : 0 < n ∧ T.dr n = true
    · rw [if_pos (⟨hnp.mp c1.1, c1.2⟩ : 0 < p ∧ T.dr n = true), if_pos c1, adj_small (by lia)]
    · rw [if_neg (fun h => c1 ⟨hnp.mpr h.1, h.2⟩ : ¬ (0 < p ∧ T.dr n = true)), if_neg c1, Bool.false_or]
      by_cases c2 : T.ck n = true
      · rw [if_pos c2]
        by_cases c3 : T.cnt n = 0
        · rw [if_pos c3, if_pos ⟨c2, c3⟩, if_pos c2, adj_mate]
        · rw [if_neg c3, if_neg fun h => c3 h.2]
          exact (adj_small hv).symm
      · rw [if_neg c2, if_neg fun h => c2 h.1]
        exact (adj_small hv).symm
  | l + 1, p, n, hl, hp, hn, hnp => by
    have hv : -50 ≤ T.va n ∧ T.va n ≤ 50 := ⟨ok.val n, ok.vah n⟩
    have rec_ : ∀ k, (∃ j, j < T.cnt n ∧ T.kid n j = k) → T.quie l (p + 1) k = adj (p + 1) (T.lev q l k) := by
      rintro k ⟨j, hj, rfl⟩
      have := ok.kid n j hn hj
      exact quie_lev ok q hq l (p + 1) _ (by lia) (by lia) this.2 (by lia)
    unfold Tr.quie Tr.lev Tr.lnode
    rw [decide_eq_false (by lia : ¬ q < l + 1)]
    by_cases c1 : 0 < n ∧ T.dr n = true
    · rw [if_pos (⟨hnp.mp c1.1, c1.2⟩ : 0 < p ∧ T.dr n = true), if_pos c1, adj_small (by lia)]
    · rw [if_neg (fun h => c1 ⟨hnp.mpr h.1, h.2⟩ : ¬ (0 < p ∧ T.dr n = true)), if_neg c1, Bool.false_or]
      by_cases c2 : T.ck n = true
      · rw [if_pos c2]
        by_cases c3 : T.cnt n = 0
        · rw [if_pos c3, if_pos ⟨c2, c3⟩, if_pos c2, adj_mate]
        · rw [if_neg c3, if_neg fun h => c3 h.2]
          refine x2_1 (kids_ne c3) fun k r e => ?_
          dsimp only
          rw [if_pos c2]
          exact max_kids' ok (by lia) (by lia) e fun k hk => rec_ k (mem_kids hk)
      · rw [if_neg c2, if_neg fun h => c2 h.1]
        dsimp only
        rw [if_neg c2]
        have := max_kids ok (q := q) (l := l) (p := p) (by lia) (by lia) (b := T.va n) (ks := T.nkids n) (.inl hv) fun k hk => rec_ k (mem_nkids hk)
        rw [adj_small hv] at this
        exact this
theorem nega_lev (ok : T.Ok) (q : Nat) (hq : q ≤ 5) : ∀ (d p n : Nat), d ≤ 5 → p + d + q ≤ 19 → n < T.sz → (0 < n ↔ 0 < p) → T.nega q d p n = adj p (T.lev q (q + d) n)
  | 0, p, n, _, _, hn, hnp => by
    unfold Tr.nega
    exact quie_lev ok q hq q p n (Nat.le_refl _) (by lia) hn hnp
  | d + 1, p, n, hd, hp, hn, hnp => by
    have rec_ : ∀ k, (∃ j, j < T.cnt n ∧ T.kid n j = k) → T.nega q d (p + 1) k = adj (p + 1) (T.lev q (q + d) k) := by
      rintro k ⟨j, hj, rfl⟩
      have := ok.kid n j hn hj
      exact nega_lev ok q hq d (p + 1) _ (by lia) (by lia) this.2 (by lia)
    show T.nega q (d + 1) p n = adj p (T.lev q ((q + d) + 1) n)
    unfold Tr.nega Tr.lev Tr.lnode
    rw [decide_eq_true (by lia : q < q + d + 1)]
    by_cases c1 : 0 < n ∧ T.dr n = true
    · rw [if_pos (⟨hnp.mp c1.1, c1.2⟩ : 0 < p ∧ T.dr n = true), if_pos c1, adj_small (by lia)]
    · rw [if_neg (fun h => c1 ⟨hnp.mpr h.1, h.2⟩ : ¬ (0 < p ∧ T.dr n = true)), if_neg c1, Bool.true_or]
      by_cases c3 : T.cnt n = 0
      · rw [if_pos c3, if_pos (⟨rfl, c3⟩ : true = true ∧ T.cnt n = 0)]
        by_cases c2 : T.ck n = true
        · rw [if_pos c2, if_pos c2, adj_mate]
        · rw [if_neg c2, if_neg c2, adj_small (by lia)]
      · rw [if_neg c3, if_neg fun h => c3 h.2]
        refine x2_1 (kids_ne c3) fun k r e => ?_
        dsimp only
        rw [if_pos rfl]
        exact max_kids' ok (by lia) (by lia) e fun k hk => rec_ k (mem_kids hk)
end
noncomputable def upN (v : Int) : Nat → Int
  | 0 => v
  | i + 1 => upI (upN v i)
theorem upN_succ (v : Int) (k : Nat) : upN v (k + 1) = upI (upN v k) := rfl
theorem upN_rng {l : Nat} {v : Int} (h : Rng l v) (k : Nat) : l + k ≤ 20 → Rng (l + k) (upN v k) := by
  induction k with
  | zero => intro _; rw [Nat.add_zero]; exact h
  | succ k ih =>
    intro hk
    rw [← Nat.add_assoc, upN_succ]
    exact (ih (by lia)).up (by lia)
theorem upN_zero (v : Int) : upN v 0 = v := rfl
theorem sgn_adj {l : Nat} {v : Int} (h : Rng l v) (k : Nat) : ∀ (p : Nat), l + k ≤ 20 → (if k % 2 = 1 then -adj (p + k) v else adj (p + k) v) = adj p (upN v k) := by
  induction k with
  | zero =>
    intro p _
    rw [if_neg (by decide), Nat.add_zero, upN_zero]
  | succ k ih =>
    intro p hk
    have ih := ih (p + 1) (by lia)
    rw [upN_succ, ← adj_up (upN_rng h k (by lia)) (by lia), ← ih, show p + (k + 1) = p + 1 + k by lia]
    by_cases c : k % 2 = 1
    · rw [if_pos c, if_neg (by lia)]; lia
    · rw [if_neg c, if_pos (by lia)]
theorem adj_zero (v : Int) : adj 0 v = v := by unfold adj; split; · simp
                                               · split <;> simp
theorem line_eq {T : Tr} (ok : T.Ok) {js : List Nat} (l : Line T js) {d q : Nat} (hd : d ≤ 3) (hq : q ≤ 2) (hl : js.length ≤ d) :
    (if js.length % 2 = 1 then -T.nega q (d - js.length) js.length (T.at_ js) else T.nega q (d - js.length) js.length (T.at_ js)) = upN (T.lev q (q + d - js.length) (T.at_ js)) js.length := by
  have hn : 0 < T.at_ js ↔ 0 < js.length := by
    cases hj : js.length with
    | zero => rw [List.length_eq_zero_iff.mp hj]; simp [Tr.at_]
    | succ k =>
      have hk : k < js.length := by lia
      have e : js[k]? = some js[k] := List.getElem?_eq_getElem hk
      have h1 := at_succ T e
      rw [List.take_of_length_le (by lia)] at h1
      have h2 := ok.kid _ _ (l.lt ok k (by lia)) (l k _ e)
      lia
  rw [nega_lev ok q (by lia) (d - js.length) js.length (T.at_ js) (by lia) (by lia) (l.lt' ok) hn]
  have h := sgn_adj (lev_rng ok q (q + (d - js.length)) (T.at_ js) (by lia)) js.length 0 (by lia)
  rw [Nat.zero_add, adj_zero] at h
  rw [h, show q + (d - js.length) = q + d - js.length by lia]
structure RowsD where
  r0 : Nat
  r1 : Nat
  r2 : Nat
  r3 : Nat
  r4 : Nat
  r5 : Nat
  c0 : Nat → Nat
  a4 : Nat → Nat
  a5 : Nat → Nat
  vs1 : List V
  vs2 : List V
  vs3 : List V
  k4 : Nat
  k5 : Nat
noncomputable def RowsD.r (D : RowsD) : List V := [.ref D.r0, .ref D.r1, .ref D.r2, .ref D.r3, .ref D.r4, .ref D.r5]
noncomputable def RowsD.k (D : RowsD) : List Nat := [D.vs1.length, D.vs2.length, D.vs3.length, D.k4, D.k5]
structure RowsAt (H : Hp) (D : RowsD) (n : Nat) (c : Nat → List Int) (m4 m5 : Nat → Nat) : Prop where
  h0 : H[D.r0]? = some (.list (tab n fun i => .ref (D.c0 i)))
  hc : ∀ i, i < n → H[D.c0 i]? = some (.list ((c i).map .int))
  h1 : H[D.r1]? = some (.list D.vs1)
  h2 : H[D.r2]? = some (.list D.vs2)
  h3 : H[D.r3]? = some (.list D.vs3)
  h4 : H[D.r4]? = some (.list (tab D.k4 fun i => .ref (D.a4 i)))
  h4' : ∀ i, i < D.k4 → ∃ vs, H[D.a4 i]? = some (.list vs) ∧ vs.length = m4 i
  h5 : H[D.r5]? = some (.list (tab D.k5 fun i => .ref (D.a5 i)))
  h5' : ∀ i, i < D.k5 → ∃ vs, H[D.a5 i]? = some (.list vs) ∧ vs.length = m5 i
theorem RowsAt.mono {H H' : Hp} {D : RowsD} {n : Nat} {c : Nat → List Int} {m4 m5 : Nat → Nat} (x : RowsAt H D n c m4 m5) (e : Ext H H') : RowsAt H' D n c m4 m5 :=
  ⟨e _ _ x.h0, fun i hi => e _ _ (x.hc i hi), e _ _ x.h1, e _ _ x.h2, e _ _ x.h3, e _ _ x.h4, fun i hi => (x.h4' i hi).imp fun vs a => ⟨e _ _ a.1, a.2⟩, e _ _ x.h5, fun i hi => (x.h5' i hi).imp fun vs a => ⟨e _ _ a.1, a.2⟩⟩
noncomputable def Good (n : Nat) (k : List Nat) (c : Nat → List Int) (m4 m5 : Nat → Nat) : Prop :=
  n ≠ 0 ∧ (∀ x ∈ k, x = n) ∧ ∀ i, i < n → m4 i = (c i).length ∧ m5 i = (c i).length ∧ ∀ x ∈ c i, (i : Int) < x ∧ x < n
section
variable {H : Hp} {Q : FR → Hp → Prop}
theorem check_tree {D : RowsD} {n : Nat} {c : Nat → List Int} {m4 m5 : Nat → Nat} (x : RowsAt H D n c m4 m5) (hn : n < 900) (hcl : ∀ i, i < n → (c i).length < 900)
    (q1 : Good n D.k c m4 m5 → ∀ H', Ext H H' → Q (.ret .none) H') (q2 : ¬ Good n D.k c m4 m5 → ∀ H', Ext H H' → Q (.exc 2) H') : wF f_check_tree D.r H Q := by
  obtain ⟨r0, r1, r2, r3, r4, r5, c0, a4, a5, vs1, vs2, vs3, k4, k5⟩ := D
  obtain ⟨h0, hc, h1, h2, h3, h4, h4', h5, h5'⟩ := x
  refine f_mk rfl ?_
  unfold b_check_tree
  show wS _ [.ref r0, .ref r1, .ref r2, .ref r3, .ref r4, .ref r5, .undef, .undef, .undef, .undef] H _
  walk_at "y"
  by_cases g0 : n = 0
  · refine ifT (decide_eq_true (by lia)) ?_
    walk_at "y"
    exact q2 (fun g => g.1 g0) _ (.refl _)
  refine ifF (by rw [decide_eq_false (by lia)]; nofun) ?_
  walk_at "y"
  intro t H1 N1
  refine seq_tpl N1.is ?_
  have lens : ∀ (i : Nat) (a : V), [V.ref r1, .ref r2, .ref r3, .ref r4, .ref r5][i]? = some a → ∃ m vs, a = .ref m ∧ H1[m]? = some (.list vs) ∧ [vs1.length, vs2.length, vs3.length, k4, k5][i]? = some vs.length := by
    intro i a ha
    match i, ha with
    | 0, ha => cases ha; exact ⟨r1, _, rfl, N1.ext _ _ h1, rfl⟩
    | 1, ha => cases ha; exact ⟨r2, _, rfl, N1.ext _ _ h2, rfl⟩
    | 2, ha => cases ha; exact ⟨r3, _, rfl, N1.ext _ _ h3, rfl⟩
    | 3, ha => cases ha; exact ⟨r4, _, rfl, N1.ext _ _ h4, by rw [tab_len]; rfl⟩
    | 4, ha => cases ha; exact ⟨r5, _, rfl, N1.ext _ _ h5, by rw [tab_len]; rfl⟩
    | i + 5, ha => simp at ha
  refine l_tpl (vs := [.ref r1, .ref r2, .ref r3, .ref r4, .ref r5]) (fun i ρ' H' => H' = H1 ∧ (∃ w7 w8 w9, ρ' = [.ref r0, .ref r1, .ref r2, .ref r3, .ref r4, .ref r5, .int n, w7, w8, w9]) ∧ ∀ y ∈ [vs1.length, vs2.length, vs3.length, k4, k5].take i, y = n) (by simp) (fun i ρ' H' z => by rw [z.1]; exact N1.is) ⟨rfl, ⟨_, _, _, rfl⟩, by simp⟩ (fun i v ρ' H' hv z => ?_) (fun ρ' H' z => ?_)
  · refine x0_3 z fun o1 o2 hk => ?_
    clear z
    subst o1
    refine x3_1 o2 fun w7 w8 w9 o15 => ?_
    clear o2
    subst o15
    refine x2_3 (lens i v hv) fun m vs o3 hm hl => ?_
    subst o3
    refine s_if (t_cmp (e_len (e_loc rfl (n_list hm (e_loc rfl (c_ne ?_))))))
    by_cases g : vs.length = n
    · walk_at "z"; refine ifF (by walk_at "z"; rw [decide_eq_true (by lia)]; nofun) ?_
      refine s_pass ⟨rfl, ⟨_, _, _, rfl⟩, fun y hy => ?_⟩
      rw [List.take_add_one, hl] at hy
      rcases List.mem_append.mp hy with hy | hy
      · exact hk y hy
      · have : y = vs.length := by simpa using hy
        lia
    · walk_at "z"; refine ifT (by walk_at "z"; rw [decide_eq_false (by lia)]; rfl) ?_
      refine s_raise ?_
      exact q2 (fun gd => g (gd.2.1 _ (List.mem_of_getElem? hl))) _ N1.ext
  · refine x0_3 z fun o4 o5 hk => ?_
    clear z
    subst o4
    refine x3_1 o5 fun w7 w8 w9 o16 => ?_
    clear o5
    subst o16
    have hk4 : k4 = n := hk k4 (by simp)
    have hk5 : k5 = n := hk k5 (by simp)
    subst hk4
    subst hk5
    walk_at "y"
    refine ⟨by walk_at "w", ?_⟩
    refine l_up (n := k5) (fun i ρ' H' => H' = _ ∧ (∃ w7 w8 w9, ρ' = [.ref r0, .ref r1, .ref r2, .ref r3, .ref r4, .ref r5, .int k5, w7, w8, w9]) ∧ ∀ j, j < i → m4 j = (c j).length ∧ m5 j = (c j).length ∧ ∀ y ∈ c j, (j : Int) < y ∧ y < k5) (by lia) (by lia) ⟨rfl, ⟨_, _, _, rfl⟩, fun j h => absurd h (by lia)⟩ (fun i ρ' H' hi z => ?_) (fun ρ' H' z => ?_)
    · refine x0_3 z fun o6 o7 hg => ?_
      clear z
      subst o6
      refine x3_1 o7 fun w7 w8 w9 o17 => ?_
      clear o7
      subst o17
      refine x1_2 (h4' i hi) fun vs4 h41 h42 => ?_
      refine x1_2 (h5' i hi) fun vs5 h51 h52 => ?_
      have hci := hc i hi
      have gi : (0 : Int) + (i : Int) = i := by lia
      walk_at "y"
      refine g_tab (N1.ext _ _ h4) i gi hi ?_
      refine n_list (N1.ext _ _ h41) ?_
      walk_at "y"
      refine g_tab (N1.ext _ _ h0) i gi hi ?_
      refine n_list (N1.ext _ _ hci) ?_
      walk_at "y"
      rw [List.length_map]
      by_cases g1 : m4 i = (c i).length
      · refine ifF (by rw [decide_eq_true (by lia)]; nofun) ?_
        walk_at "y"
        refine g_tab (N1.ext _ _ h5) i gi hi ?_
        refine n_list (N1.ext _ _ h51) ?_
        walk_at "y"
        refine g_tab (N1.ext _ _ h0) i gi hi ?_
        refine n_list (N1.ext _ _ hci) ?_
        walk_at "y"
        rw [List.length_map]
        by_cases g2 : m5 i = (c i).length
        · refine ifF (by rw [decide_eq_true (by lia)]; nofun) ?_
          walk_at "y"
          refine g_tab (N1.ext _ _ h0) i gi hi ?_
          refine seq_lst (N1.ext _ _ hci) ?_
          have hl := hcl i hi
          refine l_lst (vs := (c i).map V.int) (fun j ρ' H' => H' = _ ∧ (∃ w7 w9, ρ' = [.ref r0, .ref r1, .ref r2, .ref r3, .ref r4, .ref r5, .int k5, w7, .int (0 + (i : Int)), w9]) ∧ ∀ y ∈ (c i).take j, (i : Int) < y ∧ y < k5) (by rw [List.length_map]; lia) (fun j ρ' H' z => by rw [z.1]; exact N1.ext _ _ hci) ⟨rfl, ⟨_, _, rfl⟩, by simp⟩ (fun j v ρ' H' hv z => ?_) (fun ρ' H' z => ?_)
          · refine x0_3 z fun o8 o9 hy => ?_
            clear z
            subst o8
            refine x2_1 o9 fun w7 w9 o18 => ?_
            clear o9
            subst o18
            refine x1_2 (map_get hv) fun y hj o10 => ?_
            subst o10
            have bad : ¬ ((i : Int) < y ∧ y < k5) → ∀ H', Ext H H' → Q (.exc 2) H' := fun b => q2 fun gd => b ((gd.2.2 i hi).2.2 y (List.mem_of_getElem? hj))
            walk_at "y"
            by_cases g3 : y ≤ i
            · refine ifT (decide_eq_true (by lia)) ?_; walk_at "z"; refine ifT rfl ?_
              refine s_raise ?_
              exact bad (by lia) _ N1.ext
            · refine ifF (by rw [decide_eq_false (by lia)]; nofun) ?_
              walk_at "y"
              by_cases g4 : (k5 : Int) ≤ y
              · refine ifT (decide_eq_true (by lia)) ?_
                refine s_raise ?_
                exact bad (by lia) _ N1.ext
              · refine ifF (by rw [decide_eq_false (by lia)]; nofun) ?_
                refine s_pass ⟨rfl, ⟨_, _, rfl⟩, fun y' hy' => ?_⟩
                rw [List.take_add_one, hj] at hy'
                rcases List.mem_append.mp hy' with hy' | hy'
                · exact hy y' hy'
                · have : y' = y := by simpa using hy'
                  subst this
                  lia
          · refine x0_3 z fun o11 o12 hy => ?_
            clear z
            subst o11
            refine x2_1 o12 fun w7 w9 o19 => ?_
            clear o12
            subst o19
            rw [List.length_map, List.take_length] at hy
            refine ⟨rfl, ⟨_, _, _, rfl⟩, fun j hj => ?_⟩
            by_cases e : j = i
            · subst e; exact ⟨g1, g2, hy⟩
            · exact hg j (by lia)
        · refine ifT (by rw [decide_eq_false (by lia)]; rfl) ?_
          refine s_raise ?_
          exact q2 (fun gd => g2 (gd.2.2 i hi).2.1) _ N1.ext
      · refine ifT (by rw [decide_eq_false (by lia)]; rfl) ?_; walk_at "z"; refine ifT rfl ?_
        refine s_raise ?_
        exact q2 (fun gd => g1 (gd.2.2 i hi).1) _ N1.ext
    · refine x0_3 z fun o13 o14 hg => ?_
      clear z
      subst o13
      refine x3_1 o14 fun w7 w8 w9 o20 => ?_
      clear o14
      subst o20
      exact q1 ⟨g0, fun y hy => hk y (by simpa [RowsD.k] using hy), hg⟩ _ N1.ext
theorem law_refused {D : RowsD} {n ra : Nat} {c : Nat → List Int} {m4 m5 : Nat → Nat} (x : RowsAt H D n c m4 m5) (hr : H[ra]? = some (.list D.r)) (hn : n < 900) (hcl : ∀ i, i < n → (c i).length < 900)
    (q1 : Good n D.k c m4 m5 → ∀ H', Ext H H' → Q (.ret (.bool false)) H') (q2 : ¬ Good n D.k c m4 m5 → ∀ H', Ext H H' → Q (.ret (.bool true)) H') : wF f_law_refused [.ref ra] H Q := by
  refine f_mk rfl ?_
  unfold b_law_refused
  refine s_seq (s_try ?_)
  walk_at "y"
  refine g_list hr 0 rfl rfl ?_
  walk_at "y"
  refine g_list hr 1 rfl rfl ?_
  walk_at "y"
  refine g_list hr 2 rfl rfl ?_
  walk_at "y"
  refine g_list hr 3 rfl rfl ?_
  walk_at "y"
  refine g_list hr 4 rfl rfl ?_
  walk_at "y"
  refine g_list hr 5 rfl rfl ?_
  walk_at "y"
  refine check_tree x hn hcl (fun g H' e => ?_) (fun g H' e => ?_)
  · walk_at "y"
    exact q1 g H' e
  · refine ⟨rfl, ?_⟩
    walk_at "y"
    exact ⟨nofun, q2 g H' e⟩
end
theorem copy_rows {slot m n : Nat} {ρ : List V} {H : Hp} {Q : List V → Hp → Prop} {b : Nat → Nat} {vs : Nat → List V} (h : H[m]? = some (.list (tab n fun i => .ref (b i)))) (hb : ∀ i, i < n → H[b i]? = some (.list (vs i))) (hn : n < 900) (hs : slot < ρ.length)
    (q : ∀ (a : Nat → Nat) H', Ext H H' → (∀ i, i < n → H.length ≤ a i ∧ a i < H'.length ∧ H'[a i]? = some (.list (vs i))) → (∀ i j, i < j → j < n → a i < a j) → Q (tab n fun i => .ref (a i)) H') : wM slot (.lst m) none (eCopy (eLoc slot)) ρ H Q := by
  refine comp (fun i => V.ref (b i)) (n := n) (fun i ws H' => ∃ a : Nat → Nat, ws = tab i (fun i => .ref (a i)) ∧ Ext H H' ∧ (∀ j, j < i → H.length ≤ a j ∧ a j < H'.length ∧ H'[a j]? = some (.list (vs j))) ∧ ∀ j l, j < l → l < i → a j < a l) (fun i ws H' hi z => ?_) (fun ws H' z => ?_) (fun i ws H' hi z => ?_) (fun ws H' z => ?_) n 0 [] H fuel (by lia) (by unfold fuel; lia) ⟨fun _ => 0, rfl, .refl _, fun j h => absurd h (by lia), fun j l _ h => absurd h (by lia)⟩
  · refine x1_3 z fun a _ e _ => ?_
    clear z
    simp [nextV, e _ _ h, tab_len, Nat.le_of_lt hi, tab_get _ hi]
  · refine x1_3 z fun a _ e _ => ?_
    clear z
    simp [nextV, e _ _ h, tab_len]
  · refine x1_4 z fun a o1 e ha mono => ?_
    clear z
    subst o1
    refine e_copy (e_loc (loc_set hs nofun) (a_list (e _ _ (hb i hi)) fun p H2 N => ?_))
    have hge := N.ge
    have hlt := N.lt
    have hle := e.len
    refine ⟨fun j => if j = i then p else a j, ?_, e.trans N.ext, fun j hj => ?_, fun j l h1 h2 => ?_⟩
    · rw [tab_up]; simp only [apply_ite V.ref]
    · by_cases c : j = i
      · subst c; simp only [if_true]; exact ⟨by lia, hlt, N.is⟩
      · simp only [if_neg c]
        refine x0_3 (ha j (by lia)) fun x1 x2 x3 => ?_
        exact ⟨x1, by lia, N.ext _ _ x3⟩
    · simp only [if_neg (show j ≠ i by lia)]
      by_cases c : l = i
      · subst c; simp only [if_true]
        have := (ha j (by lia)).2.1
        lia
      · simp only [if_neg c]
        exact mono j l h1 (by lia)
  · refine x1_4 z fun a o2 e ha mono => ?_
    clear z
    subst o2
    exact q a H' e ha mono
noncomputable def chI (T : Tr) (i : Nat) : List Int := tab (T.cnt i) fun j => (T.kid i j : Int)
theorem chI_len (T : Tr) (i : Nat) : (chI T i).length = T.cnt i := tab_len _ _
theorem chI_map (T : Tr) (i : Nat) : (chI T i).map V.int = tab (T.cnt i) fun j => V.int (T.kid i j) := tab_map _ _ _
theorem chI_ok {T : Tr} (ok : T.Ok) {i : Nat} (hi : i < T.sz) : ∀ x ∈ chI T i, (i : Int) < x ∧ x < T.sz := fun x hx => by
  refine x1_2 (mem_tab.mp hx) fun j hj o3 => ?_
  subst o3
  have := ok.kid i j hi hj
  lia
structure Bent (H : Hp) (L : Lay) (T : Tr) (R nn gg : Nat) (aN aG : Nat → Nat) : Prop where
  tr : TreeAt H L T
  rows : H[R]? = some (.list [.ref L.ch, .ref L.va, .ref L.ck, .ref L.dr, .ref nn, .ref gg])
  no : H[nn]? = some (.list (tab T.sz fun i => .ref (aN i)))
  ga : H[gg]? = some (.list (tab T.sz fun i => .ref (aG i)))
  noA : ∀ i, i < T.sz → H[aN i]? = some (.list (tab (T.cnt i) fun j => V.bool (T.no i j)))
  gaA : ∀ i, i < T.sz → H[aG i]? = some (.list (tab (T.cnt i) fun j => V.int (T.ga i j)))
  ord : nn < gg ∧ gg < R
  ordN : ∀ i, i < T.sz → aN i < nn
  ordG : ∀ i, i < T.sz → nn < aG i ∧ aG i < gg
  incN : ∀ i j, i < j → j < T.sz → aN i < aN j
  incG : ∀ i j, i < j → j < T.sz → aG i < aG j
theorem Bent.mono {H H' : Hp} {L : Lay} {T : Tr} {R nn gg : Nat} {aN aG : Nat → Nat} (x : Bent H L T R nn gg aN aG) (e : Ext H H') : Bent H' L T R nn gg aN aG :=
  ⟨x.tr.mono e, e _ _ x.rows, e _ _ x.no, e _ _ x.ga, fun i h => e _ _ (x.noA i h), fun i h => e _ _ (x.gaA i h), x.ord, x.ordN, x.ordG, x.incN, x.incG⟩
noncomputable def rowsD (L : Lay) (T : Tr) (nn gg : Nat) (aN aG : Nat → Nat) : RowsD := { r0 := L.ch, r1 := L.va, r2 := L.ck, r3 := L.dr, r4 := nn, r5 := gg, c0 := L.chA, a4 := aN, a5 := aG, vs1 := tab T.sz fun i => .int (T.va i), vs2 := tab T.sz fun i => .bool (T.ck i), vs3 := tab T.sz fun i => .bool (T.dr i), k4 := T.sz, k5 := T.sz }
theorem rowsD_k (L : Lay) (T : Tr) (nn gg : Nat) (aN aG : Nat → Nat) : (rowsD L T nn gg aN aG).k = [T.sz, T.sz, T.sz, T.sz, T.sz] := by
  show [(tab _ _).length, (tab _ _).length, (tab _ _).length, T.sz, T.sz] = _
  rw [tab_len, tab_len, tab_len]
theorem Bent.all {H : Hp} {L : Lay} {T : Tr} {R nn gg : Nat} {aN aG : Nat → Nat} (x : Bent H L T R nn gg aN aG) : RowsAt H (rowsD L T nn gg aN aG) T.sz (chI T) T.cnt T.cnt :=
  ⟨x.tr.ch, fun i hi => by rw [chI_map]; exact x.tr.chA i hi, x.tr.va, x.tr.ck, x.tr.dr, x.no, fun i hi => ⟨_, x.noA i hi, tab_len _ _⟩, x.ga, fun i hi => ⟨_, x.gaA i hi, tab_len _ _⟩⟩
theorem good_all {T : Tr} (ok : T.Ok) : Good T.sz [T.sz, T.sz, T.sz, T.sz, T.sz] (chI T) T.cnt T.cnt := by
  refine ⟨by have := ok.szl; lia, fun x hx => by simpa using hx, fun i hi => ⟨(chI_len T i).symm, (chI_len T i).symm, chI_ok ok hi⟩⟩
noncomputable def kidC (T : Tr) (nd : Nat) (kd : Int) (i : Nat) : List Int := chI T i ++ (if i = nd then [kd] else [])
noncomputable def kidM (T : Tr) (nd : Nat) (i : Nat) : Nat := T.cnt i + (if i = nd then 1 else 0)
theorem kidC_len (T : Tr) (nd : Nat) (kd : Int) (i : Nat) : (kidC T nd kd i).length = kidM T nd i := by
  unfold kidC kidM
  rw [List.length_append, chI_len]
  split <;> rfl
theorem good_kid {T : Tr} (ok : T.Ok) {nd : Nat} (hn : nd < T.sz) {kd : Int} : Good T.sz [T.sz, T.sz, T.sz, T.sz, T.sz] (kidC T nd kd) (kidM T nd) (kidM T nd) ↔ (nd : Int) < kd ∧ kd < T.sz := by
  constructor
  · intro g
    exact (g.2.2 nd hn).2.2 kd (by simp [kidC])
  · intro h
    refine ⟨by have := ok.szl; lia, fun x hx => by simpa using hx, fun i hi => ⟨(kidC_len T nd kd i).symm, (kidC_len T nd kd i).symm, fun x hx => ?_⟩⟩
    rcases List.mem_append.mp hx with hx | hx
    · exact chI_ok ok hi x hx
    · by_cases c : i = nd
      · subst c
        have : x = kd := by simpa using hx
        subst this; exact h
      · simp [c] at hx
section
variable {H : Hp} {L : Lay} {T : Tr} {Q : FR → Hp → Prop}
theorem bent_kid (ok : T.Ok) {R nn gg : Nat} {aN aG : Nat → Nat} (x : Bent H L T R nn gg aN aG) {nd : Nat} (hnd : nd < T.sz) {kd xx w2 w4 : Int} {v6 v7 v8 v9 : V}
    (H0 : Hp) (t0 : TreeAt H0 L T) (e0 : Ext H0 H) (hN : ∀ i, i < T.sz → H0.length ≤ aN i)
    (q : ∀ r R' H', Ext H0 H' → H'[r]? = some (.tup [.ref R', .bool (!decide (xx.fmod 8 = 6))]) → (∃ D : RowsD, D.k = [T.sz, T.sz, T.sz, T.sz, T.sz] ∧ H'[R']? = some (.list D.r) ∧ RowsAt H' D T.sz (kidC T nd kd) (kidM T nd) (kidM T nd)) → Q (.ret (.ref r)) H') :
    wS (sSeq (sIf (tCmp .isnot (eLoc 5) eNone)
    (sSeq (sSetItem (eLoc 0) (eInt 0) (eComp 7 (iSeq (eSub (eLoc 0) (eInt 0))) none (eCopy (eLoc 7))))
    (sFor 6 (iSeq (eTup [(eSub (eSub (eLoc 0) (eInt 0)) (eLoc 3)), (eSub (eSub (eLoc 0) (eInt 4)) (eLoc 3)), (eSub (eSub (eLoc 0) (eInt 5)) (eLoc 3))]))
      (sExpr (eAppend (eLoc 6) (eLoc 5)))))
    sPass)
  (sRet (eTup [(eLoc 0), (eCmp .ne (eBin .mod (eLoc 1) (eInt 8)) (eInt 6))]))) [.ref R, .int xx, .int w2, .int nd, .int w4, .int kd, v6, v7, v8, v9] H (fin Q) := by
  have hz := ok.szh
  have t := x.tr
  have ordN := x.ordN nd hnd
  have ordG := x.ordG nd hnd
  have ord := x.ord
  have hNn := hN nd hnd
  have Rlt := (List.getElem?_eq_some_iff.mp x.rows).1
  walk_at "y"
  refine c_isnot_int ?_
  walk_at "z"; refine ifT rfl ?_
  walk_at "y"
  refine g_list x.rows 0 rfl rfl ?_
  refine seq_lst t.ch ?_
  refine copy_rows (vs := fun i => tab (T.cnt i) fun j => V.int (T.kid i j)) t.ch t.chA (by lia) (by simp) fun aC H1 e1 hC incC => ?_
  intro cc H2 N2
  have e2 := e1.trans N2.ext
  have hCn := hC nd hnd
  have ccge := N2.ge
  have cclt := N2.lt
  have x2 := x.mono e2
  walk_at "y"
  refine set_list x2.rows 0 rfl (by simp) ?_
  have hR : (H2.set R (.list ([V.ref L.ch, .ref L.va, .ref L.ck, .ref L.dr, .ref nn, .ref gg].set 0 (.ref cc))))[R]? = some (.list [.ref cc, .ref L.va, .ref L.ck, .ref L.dr, .ref nn, .ref gg]) := List.getElem?_set_self (List.getElem?_eq_some_iff.mp x2.rows).1
  have k3 : ∀ p o, p ≠ R → H2[p]? = some o → (H2.set R (.list ([V.ref L.ch, .ref L.va, .ref L.ck, .ref L.dr, .ref nn, .ref gg].set 0 (.ref cc))))[p]? = some o := fun p o hp h => by rw [List.getElem?_set_ne (Ne.symm hp)]; exact h
  have e3 : Ext H0 (H2.set R (.list ([V.ref L.ch, .ref L.va, .ref L.ck, .ref L.dr, .ref nn, .ref gg].set 0 (.ref cc)))) := (e0.trans e2).set (n := R) (by lia) _
  generalize H2.set R (.list ([V.ref L.ch, .ref L.va, .ref L.ck, .ref L.dr, .ref nn, .ref gg].set 0 (.ref cc))) = H3 at hR k3 e3
  have hcc := k3 _ _ (by lia) N2.is
  walk_at "y"
  refine g_list hR 0 rfl rfl ?_
  walk_at "y"
  refine g_tab hcc nd rfl hnd ?_
  walk_at "y"
  refine g_list hR 4 rfl rfl ?_
  walk_at "y"
  refine g_tab (k3 _ _ (by lia) x2.no) nd rfl hnd ?_
  walk_at "y"
  refine g_list hR 5 rfl rfl ?_
  walk_at "y"
  refine g_tab (k3 _ _ (by lia) x2.ga) nd rfl hnd ?_
  walk_at "y"
  intro tp H4 N4
  have e4 : Ext H0 H4 := e3.trans N4.ext
  have f0 : H4[aC nd]? = some (.list (tab (T.cnt nd) fun j => V.int (T.kid nd j))) := N4.ext _ _ (k3 _ _ (by lia) (N2.ext _ _ hCn.2.2))
  have f1 : H4[aN nd]? = some (.list (tab (T.cnt nd) fun j => V.bool (T.no nd j))) := N4.ext _ _ (k3 _ _ (by lia) (x2.noA nd hnd))
  have f2 : H4[aG nd]? = some (.list (tab (T.cnt nd) fun j => V.int (T.ga nd j))) := N4.ext _ _ (k3 _ _ (by lia) (x2.gaA nd hnd))
  have tpge := N4.ge
  have lC3 := (List.getElem?_eq_some_iff.mp (k3 _ _ (by lia) (N2.ext _ _ hCn.2.2))).1
  have lN3 := (List.getElem?_eq_some_iff.mp (k3 _ _ (by lia) (x2.noA nd hnd))).1
  have lG3 := (List.getElem?_eq_some_iff.mp (k3 _ _ (by lia) (x2.gaA nd hnd))).1
  have cn := ok.cnt nd
  refine seq_tpl N4.is ?_
  refine l_tpl (vs := [.ref (aC nd), .ref (aN nd), .ref (aG nd)]) (fun i ρ' H' => (∃ w6, ρ' = [.ref R, .int xx, .int w2, .int nd, .int w4, .int kd, w6, v7, v8, v9]) ∧ H' = (match i with
      | 0 => H4
      | 1 => H4.set (aC nd) (.list ((tab (T.cnt nd) fun j => V.int (T.kid nd j)) ++ [V.int kd]))
      | 2 => (H4.set (aC nd) (.list ((tab (T.cnt nd) fun j => V.int (T.kid nd j)) ++ [V.int kd]))).set (aN nd) (.list ((tab (T.cnt nd) fun j => V.bool (T.no nd j)) ++ [V.int kd]))
      | _ => ((H4.set (aC nd) (.list ((tab (T.cnt nd) fun j => V.int (T.kid nd j)) ++ [V.int kd]))).set (aN nd) (.list ((tab (T.cnt nd) fun j => V.bool (T.no nd j)) ++ [V.int kd]))).set (aG nd) (.list ((tab (T.cnt nd) fun j => V.int (T.ga nd j)) ++ [V.int kd])))) (by simp) (fun i ρ' H' z => ?_) ⟨⟨_, rfl⟩, rfl⟩ (fun i v ρ' H' hv z => ?_) (fun ρ' H' z => ?_)
  · refine x0_2 z fun _ o4 => ?_
    clear z
    subst o4
    match i with
    | 0 => exact N4.is
    | 1 => show (H4.set (aC nd) _)[tp]? = _; rw [List.getElem?_set_ne (by lia)]; exact N4.is
    | 2 => show ((H4.set (aC nd) _).set (aN nd) _)[tp]? = _; rw [List.getElem?_set_ne (by lia), List.getElem?_set_ne (by lia)]; exact N4.is
    | i + 3 => show (((H4.set (aC nd) _).set (aN nd) _).set (aG nd) _)[tp]? = _; rw [List.getElem?_set_ne (by lia), List.getElem?_set_ne (by lia), List.getElem?_set_ne (by lia)]; exact N4.is
  · refine x0_2 z fun o5 o6 => ?_
    clear z
    refine x1_1 o5 fun w6 o9 => ?_
    clear o5
    subst o9
    subst o6
    match i, hv with
    | 0, hv =>
      cases hv
      exact s_expr (e_append (e_loc rfl (l1_of f0 (e_loc rfl (push_of f0 (by rw [tab_len]; lia) ⟨⟨_, rfl⟩, rfl⟩)))))
    | 1, hv =>
      cases hv
      have f1' := (List.getElem?_set_ne (show aC nd ≠ aN nd by lia) (l := H4) (a := O.list ((tab (T.cnt nd) fun j => V.int (T.kid nd j)) ++ [V.int kd]))).trans f1
      exact s_expr (e_append (e_loc rfl (l1_of f1' (e_loc rfl (push_of f1' (by rw [tab_len]; lia) ⟨⟨_, rfl⟩, rfl⟩)))))
    | 2, hv =>
      cases hv
      have f2' := (List.getElem?_set_ne (show aN nd ≠ aG nd by lia) (l := H4.set (aC nd) (O.list ((tab (T.cnt nd) fun j => V.int (T.kid nd j)) ++ [V.int kd]))) (a := O.list ((tab (T.cnt nd) fun j => V.bool (T.no nd j)) ++ [V.int kd]))).trans ((List.getElem?_set_ne (show aC nd ≠ aG nd by lia) (l := H4) (a := O.list ((tab (T.cnt nd) fun j => V.int (T.kid nd j)) ++ [V.int kd]))).trans f2)
      exact s_expr (e_append (e_loc rfl (l1_of f2' (e_loc rfl (push_of f2' (by rw [tab_len]; lia) ⟨⟨_, rfl⟩, rfl⟩)))))
    | i + 3, hv => simp at hv
  · refine x0_2 z fun o7 o8 => ?_
    clear z
    refine x1_1 o7 fun w6 o10 => ?_
    clear o7
    subst o10
    subst o8
    have e5 := ((e4.set (n := aC nd) (by have := e0.len; lia) (.list ((tab (T.cnt nd) fun j => V.int (T.kid nd j)) ++ [V.int kd]))).set (n := aN nd) hNn (.list ((tab (T.cnt nd) fun j => V.bool (T.no nd j)) ++ [V.int kd]))).set (n := aG nd) (by lia) (.list ((tab (T.cnt nd) fun j => V.int (T.ga nd j)) ++ [V.int kd]))
    have k5 : ∀ p o, p ≠ aC nd → p ≠ aN nd → p ≠ aG nd → H4[p]? = some o → (((H4.set (aC nd) (.list ((tab (T.cnt nd) fun j => V.int (T.kid nd j)) ++ [V.int kd]))).set (aN nd) (.list ((tab (T.cnt nd) fun j => V.bool (T.no nd j)) ++ [V.int kd]))).set (aG nd) (.list ((tab (T.cnt nd) fun j => V.int (T.ga nd j)) ++ [V.int kd])))[p]? = some o := fun p o h1 h2 h3 h => by
      rw [List.getElem?_set_ne (Ne.symm h3), List.getElem?_set_ne (Ne.symm h2), List.getElem?_set_ne (Ne.symm h1)]; exact h
    have g0 : (((H4.set (aC nd) (.list ((tab (T.cnt nd) fun j => V.int (T.kid nd j)) ++ [V.int kd]))).set (aN nd) (.list ((tab (T.cnt nd) fun j => V.bool (T.no nd j)) ++ [V.int kd]))).set (aG nd) (.list ((tab (T.cnt nd) fun j => V.int (T.ga nd j)) ++ [V.int kd])))[aC nd]? = some (.list ((tab (T.cnt nd) fun j => V.int (T.kid nd j)) ++ [V.int kd])) := by
      rw [List.getElem?_set_ne (by lia), List.getElem?_set_ne (by lia), List.getElem?_set_self (List.getElem?_eq_some_iff.mp f0).1]
    have g1 : (((H4.set (aC nd) (.list ((tab (T.cnt nd) fun j => V.int (T.kid nd j)) ++ [V.int kd]))).set (aN nd) (.list ((tab (T.cnt nd) fun j => V.bool (T.no nd j)) ++ [V.int kd]))).set (aG nd) (.list ((tab (T.cnt nd) fun j => V.int (T.ga nd j)) ++ [V.int kd])))[aN nd]? = some (.list ((tab (T.cnt nd) fun j => V.bool (T.no nd j)) ++ [V.int kd])) := by
      rw [List.getElem?_set_ne (by lia), List.getElem?_set_self (by rw [List.length_set]; exact (List.getElem?_eq_some_iff.mp f1).1)]
    have g2 : (((H4.set (aC nd) (.list ((tab (T.cnt nd) fun j => V.int (T.kid nd j)) ++ [V.int kd]))).set (aN nd) (.list ((tab (T.cnt nd) fun j => V.bool (T.no nd j)) ++ [V.int kd]))).set (aG nd) (.list ((tab (T.cnt nd) fun j => V.int (T.ga nd j)) ++ [V.int kd])))[aG nd]? = some (.list ((tab (T.cnt nd) fun j => V.int (T.ga nd j)) ++ [V.int kd])) := by
      rw [List.getElem?_set_self (by rw [List.length_set, List.length_set]; exact (List.getElem?_eq_some_iff.mp f2).1)]
    refine s_ret (e_tup (es_cons (e_loc rfl (es_cons ?_))))
    show wE _ _ (((H4.set (aC nd) (.list ((tab (T.cnt nd) fun j => V.int (T.kid nd j)) ++ [V.int kd]))).set (aN nd) (.list ((tab (T.cnt nd) fun j => V.bool (T.no nd j)) ++ [V.int kd]))).set (aG nd) (.list ((tab (T.cnt nd) fun j => V.int (T.ga nd j)) ++ [V.int kd]))) _
    generalize ((H4.set (aC nd) (.list ((tab (T.cnt nd) fun j => V.int (T.kid nd j)) ++ [V.int kd]))).set (aN nd) (.list ((tab (T.cnt nd) fun j => V.bool (T.no nd j)) ++ [V.int kd]))).set (aG nd) (.list ((tab (T.cnt nd) fun j => V.int (T.ga nd j)) ++ [V.int kd])) = H5 at e5 k5 g0 g1 g2
    walk_at "y"
    refine b_mod (by decide) ?_
    walk_at "y"
    intro r H6 N6
    have up : ∀ p o, p ≠ aC nd → p ≠ aN nd → p ≠ aG nd → p ≠ R → H2[p]? = some o → H6[p]? = some o := fun p o h1 h2 h3 h4 h => N6.ext _ _ (k5 p o h1 h2 h3 (N4.ext _ _ (k3 p o h4 h)))
    have hlt : ∀ p o, H[p]? = some o → p < H.length := fun p o h => (List.getElem?_eq_some_iff.mp h).1
    have tl : ∀ p o, H0[p]? = some o → p < H0.length := fun p o h => (List.getElem?_eq_some_iff.mp h).1
    refine q r R H6 (e5.trans N6.ext) N6.is ⟨{ rowsD L T nn gg aN aG with r0 := cc, c0 := aC }, rowsD_k L T nn gg aN aG, N6.ext _ _ (k5 _ _ (by lia) (by lia) (by lia) (N4.ext _ _ hR)), ?_⟩
    have h0l := e0.len
    have l1 := tl _ _ t0.va
    have l2 := tl _ _ t0.ck
    have l3 := tl _ _ t0.dr
    have inj : ∀ (a : Nat → Nat), (∀ i j, i < j → j < T.sz → a i < a j) → ∀ i, i < T.sz → i ≠ nd → a i ≠ a nd := fun a inc i hi hne => by
      rcases Nat.lt_or_gt_of_ne hne with h | h
      · have := inc i nd h hnd; lia
      · have := inc nd i h hi; lia
    refine ⟨?_, fun i hi => ?_, ?_, ?_, ?_, ?_, fun i hi => ?_, ?_, fun i hi => ?_⟩
    · exact N6.ext cc _ (k5 cc _ (by lia) (by lia) (by lia) (N4.ext _ _ hcc))
    · show H6[aC i]? = some (.list ((kidC T nd kd i).map V.int))
      unfold kidC
      rw [List.map_append, chI_map]
      by_cases c : i = nd
      · subst c
        rw [if_pos rfl]
        exact N6.ext _ _ g0
      · rw [if_neg c, List.map_nil, List.append_nil]
        have := hC i hi
        exact up (aC i) _ (inj aC incC i hi c) (by lia) (by lia) (by lia) (N2.ext _ _ this.2.2)
    · exact up L.va _ (by lia) (by lia) (by lia) (by lia) x2.tr.va
    · exact up L.ck _ (by lia) (by lia) (by lia) (by lia) x2.tr.ck
    · exact up L.dr _ (by lia) (by lia) (by lia) (by lia) x2.tr.dr
    · exact up nn _ (by lia) (by lia) (by lia) (by lia) x2.no
    · have o1 := x.ordN i hi
      show ∃ vs, H6[aN i]? = some (.list vs) ∧ vs.length = kidM T nd i
      unfold kidM
      by_cases c : i = nd
      · subst c
        rw [if_pos rfl]
        exact ⟨_, N6.ext _ _ g1, by rw [List.length_append, tab_len]; rfl⟩
      · rw [if_neg c, Nat.add_zero]
        exact ⟨_, up (aN i) _ (by lia) (inj aN x.incN i hi c) (by lia) (by lia) (x2.noA i hi), tab_len _ _⟩
    · exact up gg _ (by lia) (by lia) (by lia) (by lia) x2.ga
    · have o1 := x.ordG i hi
      show ∃ vs, H6[aG i]? = some (.list vs) ∧ vs.length = kidM T nd i
      unfold kidM
      by_cases c : i = nd
      · subst c
        rw [if_pos rfl]
        exact ⟨_, N6.ext _ _ g2, by rw [List.length_append, tab_len]; rfl⟩
      · rw [if_neg c, Nat.add_zero]
        exact ⟨_, up (aG i) _ (by lia) (by lia) (inj aG x.incG i hi c) (by lia) (x2.gaA i hi), tab_len _ _⟩
end
section
variable {H : Hp} {L : Lay} {T : Tr} {Q : FR → Hp → Prop}
theorem bent_none {R : Nat} {xx : Int} {w2 w3 w4 v6 v7 v8 v9 : V} (q : ∀ r H', New H H' r (.tup [.ref R, .bool (!decide (xx.fmod 8 = 6))]) → Q (.ret (.ref r)) H') :
    wS (sSeq (sIf (tCmp .isnot (eLoc 5) eNone)
    (sSeq (sSetItem (eLoc 0) (eInt 0) (eComp 7 (iSeq (eSub (eLoc 0) (eInt 0))) none (eCopy (eLoc 7))))
    (sFor 6 (iSeq (eTup [(eSub (eSub (eLoc 0) (eInt 0)) (eLoc 3)), (eSub (eSub (eLoc 0) (eInt 4)) (eLoc 3)), (eSub (eSub (eLoc 0) (eInt 5)) (eLoc 3))]))
      (sExpr (eAppend (eLoc 6) (eLoc 5)))))
    sPass)
  (sRet (eTup [(eLoc 0), (eCmp .ne (eBin .mod (eLoc 1) (eInt 8)) (eInt 6))]))) [.ref R, .int xx, w2, w3, w4, .none, v6, v7, v8, v9] H (fin Q) := by
  walk_at "y"
  refine c_isnot ?_
  walk_at "z"; refine ifF nofun ?_
  walk_at "y"
  refine b_mod (by decide) ?_
  walk_at "y"
  intro r H' N
  exact q r H' N
theorem check_len {r0 r1 r2 r3 r4 r5 : Nat} {v0 v1 v2 v3 v4 v5 : List V} (h0 : H[r0]? = some (.list v0)) (h1 : H[r1]? = some (.list v1)) (h2 : H[r2]? = some (.list v2)) (h3 : H[r3]? = some (.list v3)) (h4 : H[r4]? = some (.list v4)) (h5 : H[r5]? = some (.list v5))
    (bad : v0.length = 0 ∨ ∃ v, v ∈ [v1, v2, v3, v4, v5] ∧ v.length ≠ v0.length) (q : ∀ H', Ext H H' → Q (.exc 2) H') : wF f_check_tree [.ref r0, .ref r1, .ref r2, .ref r3, .ref r4, .ref r5] H Q := by
  refine f_mk rfl ?_
  unfold b_check_tree
  walk_at "y"
  by_cases g0 : v0.length = 0
  · refine ifT (decide_eq_true (by lia)) ?_
    walk_at "y"
    exact q _ (.refl _)
  refine ifF (by rw [decide_eq_false (by lia)]; nofun) ?_
  walk_at "y"
  intro t H1 N1
  have bad' : ∃ v, v ∈ [v1, v2, v3, v4, v5] ∧ v.length ≠ v0.length := bad.resolve_left g0
  refine seq_tpl N1.is ?_
  have lens : ∀ (i : Nat) (a : V), [V.ref r1, .ref r2, .ref r3, .ref r4, .ref r5][i]? = some a → ∃ m vs, a = .ref m ∧ H1[m]? = some (.list vs) ∧ [v1, v2, v3, v4, v5][i]? = some vs := by
    intro i a ha
    match i, ha with
    | 0, ha => cases ha; exact ⟨r1, _, rfl, N1.ext _ _ h1, rfl⟩
    | 1, ha => cases ha; exact ⟨r2, _, rfl, N1.ext _ _ h2, rfl⟩
    | 2, ha => cases ha; exact ⟨r3, _, rfl, N1.ext _ _ h3, rfl⟩
    | 3, ha => cases ha; exact ⟨r4, _, rfl, N1.ext _ _ h4, rfl⟩
    | 4, ha => cases ha; exact ⟨r5, _, rfl, N1.ext _ _ h5, rfl⟩
    | i + 5, ha => simp at ha
  refine l_tpl (vs := [.ref r1, .ref r2, .ref r3, .ref r4, .ref r5]) (fun i ρ' H' => H' = H1 ∧ (∃ w7 w8 w9, ρ' = [.ref r0, .ref r1, .ref r2, .ref r3, .ref r4, .ref r5, .int v0.length, w7, w8, w9]) ∧ ∀ y ∈ [v1, v2, v3, v4, v5].take i, y.length = v0.length) (by simp) (fun i ρ' H' z => by rw [z.1]; exact N1.is) ⟨rfl, ⟨_, _, _, rfl⟩, by simp⟩ (fun i v ρ' H' hv z => ?_) (fun ρ' H' z => ?_)
  · refine x0_3 z fun o1 o2 hk => ?_
    clear z
    subst o1
    refine x3_1 o2 fun w7 w8 w9 o5 => ?_
    clear o2
    subst o5
    refine x2_3 (lens i v hv) fun m vs o3 hm hl => ?_
    subst o3
    refine s_if (t_cmp (e_len (e_loc rfl (n_list hm (e_loc rfl (c_ne ?_))))))
    by_cases g : vs.length = v0.length
    · walk_at "z"; refine ifF (by walk_at "z"; rw [decide_eq_true (by lia)]; nofun) ?_
      refine s_pass ⟨rfl, ⟨_, _, _, rfl⟩, fun y hy => ?_⟩
      rw [List.take_add_one, hl] at hy
      rcases List.mem_append.mp hy with hy | hy
      · exact hk y hy
      · have : y = vs := by simpa using hy
        rw [this]; exact g
    · walk_at "z"; refine ifT (by walk_at "z"; rw [decide_eq_false (by lia)]; rfl) ?_
      exact s_raise (q _ N1.ext)
  · refine x0_3 z fun o4 _ hk => ?_
    clear z
    subst o4
    refine x1_2 bad' fun v hv hne => ?_
    clear bad'
    exact absurd (hk v hv) hne
noncomputable def BentOut (H : Hp) (x : Int) (r : Nat) (H' : Hp) : Prop :=
  Ext H H' ∧ ∃ R', H'[r]? = some (.tup [.ref R', .bool (!decide (x.fmod 8 = 6))]) ∧
    ∀ H2 (Q : FR → Hp → Prop), Ext H' H2 → (∀ H3, Ext H2 H3 → Q (.ret (.bool (!decide (x.fmod 8 = 6)))) H3) → wF f_law_refused [.ref R'] H2 Q
theorem out_rows {x : Int} {R r : Nat} {H' : Hp} {D : RowsD} {n : Nat} {c : Nat → List Int} {m4 m5 : Nat → Nat} (e : Ext H H') (ho : H'[r]? = some (.tup [.ref R, .bool (!decide (x.fmod 8 = 6))])) (hr : H'[R]? = some (.list D.r)) (h : RowsAt H' D n c m4 m5) (hn : n < 900) (hc : ∀ i, i < n → (c i).length < 900) (g : Good n D.k c m4 m5 ↔ x.fmod 8 = 6) : BentOut H x r H' := by
  refine ⟨e, R, ho, fun H2 Q e2 q => law_refused (h.mono e2) (e2 _ _ hr) hn hc (fun gd H3 e3 => ?_) fun gd H3 e3 => ?_⟩
  · have := q H3 e3
    rwa [decide_eq_true (g.mp gd)] at this
  · have := q H3 e3
    rwa [decide_eq_false fun h => gd (g.mpr h)] at this
theorem out_len {x : Int} {R r : Nat} {H' : Hp} {r0 r1 r2 r3 r4 r5 : Nat} {v0 v1 v2 v3 v4 v5 : List V} (e : Ext H H') (ho : H'[r]? = some (.tup [.ref R, .bool (!decide (x.fmod 8 = 6))])) (hr : H'[R]? = some (.list [.ref r0, .ref r1, .ref r2, .ref r3, .ref r4, .ref r5]))
    (h0 : H'[r0]? = some (.list v0)) (h1 : H'[r1]? = some (.list v1)) (h2 : H'[r2]? = some (.list v2)) (h3 : H'[r3]? = some (.list v3)) (h4 : H'[r4]? = some (.list v4)) (h5 : H'[r5]? = some (.list v5))
    (bad : v0.length = 0 ∨ ∃ v, v ∈ [v1, v2, v3, v4, v5] ∧ v.length ≠ v0.length) (hx : x.fmod 8 ≠ 6) : BentOut H x r H' := by
  refine ⟨e, R, ho, fun H2 Q e2 q => ?_⟩
  rw [decide_eq_false hx] at q
  have hr2 := e2 _ _ hr
  refine f_mk rfl ?_
  unfold b_law_refused
  refine s_seq (s_try ?_)
  walk_at "y"
  refine g_list hr2 0 rfl rfl (es_cons (e_sub (e_loc rfl (e_int (g_list hr2 1 rfl rfl (es_cons (e_sub (e_loc rfl (e_int (g_list hr2 2 rfl rfl (es_cons (e_sub (e_loc rfl (e_int (g_list hr2 3 rfl rfl (es_cons (e_sub (e_loc rfl (e_int (g_list hr2 4 rfl rfl (es_cons (e_sub (e_loc rfl (e_int (g_list hr2 5 rfl rfl (es_nil ?_))))))))))))))))))))))))))
  refine check_len (e2 _ _ h0) (e2 _ _ h1) (e2 _ _ h2) (e2 _ _ h3) (e2 _ _ h4) (e2 _ _ h5) bad fun H3 e3 => ⟨rfl, ?_⟩
  exact s_ret (e_bool ⟨nofun, q H3 e3⟩)
section
variable {ρ : List V} {x : Int} {P : Bool → Hp → Prop} {S : Fl → List V → Hp → Prop} {a b c d : SM} {t : TM}
theorem m8 {k : Int} (h : locV ρ 1 = some (.int x)) (q : P (decide (x.fmod 8 = k)) H) : wT (tCmp .eq (eBin .mod (eLoc 1) (eInt 8)) (eInt k)) ρ H P :=
  t_cmp (e_bin (e_loc h (e_int (b_mod (by decide) (e_int (c_eq q))))))
theorem m8_no {k : Int} (h : locV ρ 1 = some (.int x)) (n : x.fmod 8 ≠ k) (q : P false H) : wT (tCmp .eq (eBin .mod (eLoc 1) (eInt 8)) (eInt k)) ρ H P := m8 h (by rw [decide_eq_false n]; exact q)
theorem m8_yes {k : Int} (h : locV ρ 1 = some (.int x)) (n : x.fmod 8 = k) (q : P true H) : wT (tCmp .eq (eBin .mod (eLoc 1) (eInt 8)) (eInt k)) ρ H P := m8 h (by rw [decide_eq_true n]; exact q)
theorem if_no {t : TM} (h : wT t ρ H fun y H1 => y = false ∧ H1 = H) (q : wS b ρ H S) : wS (sIf t a b) ρ H S := s_if (h.mono fun y H1 e => by obtain ⟨rfl, rfl⟩ := e; exact q)
theorem if_yes {t : TM} (h : wT t ρ H fun y H1 => y = true ∧ H1 = H) (q : wS a ρ H S) : wS (sIf t a b) ρ H S := s_if (h.mono fun y H1 e => by obtain ⟨rfl, rfl⟩ := e; exact q)
theorem ch6 (h : locV ρ 1 = some (.int x)) (n2 : x.fmod 8 ≠ 2) (n3 : x.fmod 8 ≠ 3) (n4 : x.fmod 8 ≠ 4) (n5 : x.fmod 8 ≠ 5) (q : wS d ρ H S) :
    wS (sIf (tCmp .eq (eBin .mod (eLoc 1) (eInt 8)) (eInt 2)) a (sIf (tOr (tCmp .eq (eBin .mod (eLoc 1) (eInt 8)) (eInt 3)) (tCmp .eq (eBin .mod (eLoc 1) (eInt 8)) (eInt 4))) b (sIf (tCmp .eq (eBin .mod (eLoc 1) (eInt 8)) (eInt 5)) c d))) ρ H S :=
  if_no (m8_no h n2 ⟨rfl, rfl⟩) (if_no (t_or (m8_no h n3 (m8_no h n4 ⟨rfl, rfl⟩))) (if_no (m8_no h n5 ⟨rfl, rfl⟩) q))
theorem ch0 (h : locV ρ 1 = some (.int x)) (n2 : x.fmod 8 ≠ 2) (n3 : x.fmod 8 ≠ 3) (n4 : x.fmod 8 ≠ 4) (n5 : x.fmod 8 ≠ 5) (n6 : x.fmod 8 ≠ 6) (q : S .next ρ H) :
    wS (sIf (tCmp .eq (eBin .mod (eLoc 1) (eInt 8)) (eInt 2)) a (sIf (tOr (tCmp .eq (eBin .mod (eLoc 1) (eInt 8)) (eInt 3)) (tCmp .eq (eBin .mod (eLoc 1) (eInt 8)) (eInt 4))) b (sIf (tCmp .eq (eBin .mod (eLoc 1) (eInt 8)) (eInt 5)) c (sIf (tAnd (tCmp .eq (eBin .mod (eLoc 1) (eInt 8)) (eInt 6)) t) d sPass)))) ρ H S :=
  ch6 h n2 n3 n4 n5 (if_no (t_and (m8_no h n6 ⟨rfl, rfl⟩)) (s_pass q))
theorem ch34 (h : locV ρ 1 = some (.int x)) (n : x.fmod 8 = 3 ∨ x.fmod 8 = 4) (q : wS b ρ H S) :
    wS (sIf (tCmp .eq (eBin .mod (eLoc 1) (eInt 8)) (eInt 2)) a (sIf (tOr (tCmp .eq (eBin .mod (eLoc 1) (eInt 8)) (eInt 3)) (tCmp .eq (eBin .mod (eLoc 1) (eInt 8)) (eInt 4))) b c)) ρ H S := by
  refine if_no (m8_no h (by lia) ⟨rfl, rfl⟩) (if_yes (t_or ?_) q)
  rcases n with n | n
  · exact m8_yes h n ⟨rfl, rfl⟩
  · exact m8_no h (by lia) (m8_yes h n ⟨rfl, rfl⟩)
theorem ch5 (h : locV ρ 1 = some (.int x)) (n : x.fmod 8 = 5) (q : wS c ρ H S) :
    wS (sIf (tCmp .eq (eBin .mod (eLoc 1) (eInt 8)) (eInt 2)) a (sIf (tOr (tCmp .eq (eBin .mod (eLoc 1) (eInt 8)) (eInt 3)) (tCmp .eq (eBin .mod (eLoc 1) (eInt 8)) (eInt 4))) b (sIf (tCmp .eq (eBin .mod (eLoc 1) (eInt 8)) (eInt 5)) c d))) ρ H S :=
  if_no (m8_no h (by lia) ⟨rfl, rfl⟩) (if_no (t_or (m8_no h (by lia) (m8_no h (by lia) ⟨rfl, rfl⟩))) (if_yes (m8_yes h n ⟨rfl, rfl⟩) q))
end
theorem law_bent (ok : T.Ok) (t : TreeAt H L T) (gn : GainAt H L T) {ra : Nat} (hr : H[ra]? = some (.list [.ref L.ch, .ref L.va, .ref L.ck, .ref L.dr, .ref L.no, .ref L.ga])) {x : Int}
    (q : ∀ r H', BentOut H x r H' → Q (.ret (.ref r)) H') : wF f_law_bent [.ref ra, .int x] H Q := by
  have hz := ok.szh
  have hz' := ok.szl
  refine f_mk rfl ?_
  unfold b_law_bent
  show wS _ [.ref ra, .int x, .undef, .undef, .undef, .undef, .undef, .undef, .undef, .undef] H _
  walk_at "y"
  refine g_list hr 0 rfl rfl ?_
  walk_at "y"
  refine g_list hr 1 rfl rfl ?_
  walk_at "y"
  refine g_list hr 2 rfl rfl ?_
  walk_at "y"
  refine g_list hr 3 rfl rfl ?_
  walk_at "y"
  refine g_list hr 4 rfl rfl ?_
  refine seq_lst t.no ?_
  refine copy_rows (vs := fun i => tab (T.cnt i) fun j => V.bool (T.no i j)) t.no t.noA (by lia) (by simp) fun aN H1 e1 hN incN => ?_
  intro nn H2 N2
  have e2 := e1.trans N2.ext
  walk_at "y"
  refine g_list (e2 _ _ hr) 5 rfl rfl ?_
  refine seq_lst (e2 _ _ gn.ga) ?_
  refine copy_rows (vs := fun i => tab (T.cnt i) fun j => V.int (T.ga i j)) (e2 _ _ gn.ga) (fun i hi => e2 _ _ (gn.gaA i hi)) (by lia) (by simp) fun aG H3 e3 hG incG => ?_
  intro gg H4 N4
  have e4 := e3.trans N4.ext
  walk_at "y"
  intro R H5 N5
  have e5 := (e2.trans e4).trans N5.ext
  have nnge := N2.ge
  have nnlt := N2.lt
  have ggge := N4.ge
  have gglt := N4.lt
  have Rge := N5.ge
  have B : Bent H5 L T R nn gg aN aG := {
    tr := t.mono e5
    rows := N5.is
    no := N5.ext _ _ (e4 _ _ N2.is)
    ga := N5.ext _ _ N4.is
    noA := fun i hi => N5.ext _ _ (e4 _ _ (N2.ext _ _ (hN i hi).2.2))
    gaA := fun i hi => N5.ext _ _ (N4.ext _ _ (hG i hi).2.2)
    ord := by have := e3.len; lia
    ordN := fun i hi => by have := hN i hi; lia
    ordG := fun i hi => by have := hG i hi; lia
    incN := incN
    incG := incG }
  have hNH : ∀ i, i < T.sz → H.length ≤ aN i := fun i hi => (hN i hi).1
  have hnnH : H.length ≤ nn := by have := e1.len; lia
  have hggH : H.length ≤ gg := by have := e2.len; have := e3.len; lia
  have hRH : H.length ≤ R := by have := (e2.trans e4).len; lia
  clear N2 N4 N5 hG hN e1 e2 e3 e4
  walk_at "y"
  refine g_list B.rows 0 rfl rfl ?_
  refine n_tab B.tr.ch ?_
  walk_at "y"
  refine b_fdiv (by decide) (by decide) ?_
  refine e_loc rfl (b_mod (by lia) ?_)
  have p1 := Int.fmod_nonneg_of_pos (x.fdiv 8) (show (0 : Int) < T.sz by lia)
  have p2 := Int.fmod_lt_of_pos (x.fdiv 8) (show (0 : Int) < T.sz by lia)
  obtain ⟨nd, hnd⟩ : ∃ nd : Nat, (x.fdiv 8).fmod T.sz = nd := ⟨_, (Int.toNat_of_nonneg p1).symm⟩
  rw [hnd] at p2 ⊢
  have hnd' : nd < T.sz := by lia
  walk_at "y"
  refine b_fdiv (by decide) (by decide) ?_
  walk_at "y"
  refine b_mod (by decide) ?_
  walk_at "y"
  refine b_mod (by decide) ?_
  walk_at "y"
  have m1 := Int.fmod_nonneg_of_pos (x.fdiv 800) (show (0 : Int) < 5 by decide)
  have m2 := Int.fmod_lt_of_pos (x.fdiv 800) (show (0 : Int) < 5 by decide)
  have x1 := Int.fmod_nonneg_of_pos x (show (0 : Int) < 8 by decide)
  have x2 := Int.fmod_lt_of_pos x (show (0 : Int) < 8 by decide)
  intro kl H6 N6
  have B6 := B.mono N6.ext
  have e6 := e5.trans N6.ext
  walk_at "y"
  refine b_mod (by decide) ?_
  have kid_ : ∀ {kd : Int} {w4 : Int} {v6 v7 v8 v9 : V}, ((nd : Int) < kd ∧ kd < T.sz ↔ x.fmod 8 = 6) → wS _ [.ref R, .int x, .int (T.sz : Nat), .int nd, .int w4, .int kd, v6, v7, v8, v9] H6 (fin Q) := fun hg => by
    refine bent_kid ok B6 hnd' H t e6 hNH fun r R' H' e h1 h2 => ?_
    refine x1_3 h2 fun D hk h2 h3 => ?_
    exact q r H' (out_rows e h1 h2 h3 (by lia) (fun i hi => by have := ok.cnt i; rw [kidC_len]; unfold kidM; split <;> lia) (by rw [hk]; exact (good_kid ok hnd').trans hg))
  have chl : ∀ i, i < T.sz → (chI T i).length < 900 := fun i _ => by have := ok.cnt i; rw [chI_len]; lia
  have hlt : ∀ {p : Nat} {o : O}, H[p]? = some o → p < H.length := fun h => (List.getElem?_eq_some_iff.mp h).1
  have lch := hlt t.ch
  have lva := hlt t.va
  have lck := hlt t.ck
  have ldr := hlt t.dr
  have lcA : ∀ i, i < T.sz → L.chA i < H.length := fun i hi => hlt (t.chA i hi)
  have ord := B6.ord
  have lR6 := (List.getElem?_eq_some_iff.mp B6.rows).1
  obtain ⟨s', hs'⟩ : ∃ s', T.sz = s' + 1 := ⟨T.sz - 1, by lia⟩
  have hc : x.fmod 8 = 0 ∨ x.fmod 8 = 1 ∨ x.fmod 8 = 2 ∨ x.fmod 8 = 3 ∨ x.fmod 8 = 4 ∨ x.fmod 8 = 5 ∨ x.fmod 8 = 6 ∨ x.fmod 8 = 7 := by lia
  rcases hc with hc | hc | hc | hc | hc | hc | hc | hc
  · exact g_list N6.is 0 hc rfl (s_seq (ch0 rfl (by lia) (by lia) (by lia) (by lia) (by lia) (kid_ (by lia))))
  · exact g_list N6.is 1 hc rfl (s_seq (ch0 rfl (by lia) (by lia) (by lia) (by lia) (by lia) (kid_ (by lia))))
  · refine g_list N6.is 2 hc rfl (s_seq (if_yes (m8_yes rfl hc ⟨rfl, rfl⟩) ?_))
    have cut : ∀ {p r : Nat} {K K' : Hp} {vs : List V} {rs : List V}, New H6 K p (.list vs) → New (K.set R (.list rs)) K' r (.tup [.ref R, .bool (!decide (x.fmod 8 = 6))]) → ∀ {r1 r2 r3 r4 r5 : Nat} {v1 v2 v3 v4 v5 : List V}, rs = [.ref L.ch, .ref r1, .ref r2, .ref r3, .ref r4, .ref r5] →
        (r1 ≠ R ∧ K[r1]? = some (.list v1)) → (r2 ≠ R ∧ K[r2]? = some (.list v2)) → (r3 ≠ R ∧ K[r3]? = some (.list v3)) → (r4 ≠ R ∧ K[r4]? = some (.list v4)) → (r5 ≠ R ∧ K[r5]? = some (.list v5)) → (∃ v, v ∈ [v1, v2, v3, v4, v5] ∧ v.length ≠ T.sz) → BentOut H x r K' := by
      intro p r K K' vs rs N N' r1 r2 r3 r4 r5 v1 v2 v3 v4 v5 hrs f1 f2 f3 f4 f5 bad
      have up : ∀ {a : Nat} {o : O}, a ≠ R ∧ K[a]? = some o → K'[a]? = some o := fun h => N'.ext _ _ ((List.getElem?_set_ne (Ne.symm h.1)).trans h.2)
      have hR : K'[R]? = some (.list rs) := N'.ext _ _ (List.getElem?_set_self (List.getElem?_eq_some_iff.mp (N.ext _ _ B6.rows)).1)
      rw [hrs] at hR
      exact out_len (((e6.trans N.ext).set (n := R) hRH _).trans N'.ext) N'.is hR (up ⟨by lia, N.ext _ _ B6.tr.ch⟩) (up f1) (up f2) (up f3) (up f4) (up f5) (.inr (by rw [tab_len]; exact bad)) (by lia)
    have nR : ∀ {p : Nat} {o o' : O} {K : Hp}, New H6 K p o → H6[R]? = some o' → p ≠ R := fun N h => N.ne h
    have short : ∀ {f : Nat → V}, ((tab T.sz f).dropLast).length ≠ T.sz := fun {f} => by rw [List.length_dropLast, tab_len]; lia
    have hm : (x.fdiv 800).fmod 5 = 0 ∨ (x.fdiv 800).fmod 5 = 1 ∨ (x.fdiv 800).fmod 5 = 2 ∨ (x.fdiv 800).fmod 5 = 3 ∨ (x.fdiv 800).fmod 5 = 4 := by lia
    have f1 : ∀ {K : Hp}, Ext H6 K → L.va ≠ R ∧ K[L.va]? = _ := fun e => ⟨by lia, e _ _ B6.tr.va⟩
    have f2 : ∀ {K : Hp}, Ext H6 K → L.ck ≠ R ∧ K[L.ck]? = _ := fun e => ⟨by lia, e _ _ B6.tr.ck⟩
    have f3 : ∀ {K : Hp}, Ext H6 K → L.dr ≠ R ∧ K[L.dr]? = _ := fun e => ⟨by lia, e _ _ B6.tr.dr⟩
    have f4 : ∀ {K : Hp}, Ext H6 K → nn ≠ R ∧ K[nn]? = _ := fun e => ⟨by lia, e _ _ B6.no⟩
    have f5 : ∀ {K : Hp}, Ext H6 K → gg ≠ R ∧ K[gg]? = _ := fun e => ⟨by lia, e _ _ B6.ga⟩
    rcases hm with hm | hm | hm | hm | hm
    · refine s_setItem (e_butLast (e_sub (e_loc rfl (e_bin (e_int (e_bin (e_loc rfl (e_int (b_mod (by decide) (b_add (g_list B6.rows 1 (by lia) rfl (a_list B6.tr.va fun p K N => ?_))))))))))))
      refine e_loc rfl (e_bin (e_int (e_bin (e_loc rfl (e_int (b_mod (by decide) (b_add (set_list (N.ext _ _ B6.rows) 1 (by lia) (by simp) (bent_none fun r K' N' => q r K' ?_)))))))))
      exact cut N N' rfl ⟨nR N B6.rows, N.is⟩ (f2 N.ext) (f3 N.ext) (f4 N.ext) (f5 N.ext) ⟨_, .head _, short⟩
    · refine s_setItem (e_butLast (e_sub (e_loc rfl (e_bin (e_int (e_bin (e_loc rfl (e_int (b_mod (by decide) (b_add (g_list B6.rows 2 (by lia) rfl (a_list B6.tr.ck fun p K N => ?_))))))))))))
      refine e_loc rfl (e_bin (e_int (e_bin (e_loc rfl (e_int (b_mod (by decide) (b_add (set_list (N.ext _ _ B6.rows) 2 (by lia) (by simp) (bent_none fun r K' N' => q r K' ?_)))))))))
      exact cut N N' rfl (f1 N.ext) ⟨nR N B6.rows, N.is⟩ (f3 N.ext) (f4 N.ext) (f5 N.ext) ⟨_, .tail _ (.head _), short⟩
    · refine s_setItem (e_butLast (e_sub (e_loc rfl (e_bin (e_int (e_bin (e_loc rfl (e_int (b_mod (by decide) (b_add (g_list B6.rows 3 (by lia) rfl (a_list B6.tr.dr fun p K N => ?_))))))))))))
      refine e_loc rfl (e_bin (e_int (e_bin (e_loc rfl (e_int (b_mod (by decide) (b_add (set_list (N.ext _ _ B6.rows) 3 (by lia) (by simp) (bent_none fun r K' N' => q r K' ?_)))))))))
      exact cut N N' rfl (f1 N.ext) (f2 N.ext) ⟨nR N B6.rows, N.is⟩ (f4 N.ext) (f5 N.ext) ⟨_, .tail _ (.tail _ (.head _)), short⟩
    · refine s_setItem (e_butLast (e_sub (e_loc rfl (e_bin (e_int (e_bin (e_loc rfl (e_int (b_mod (by decide) (b_add (g_list B6.rows 4 (by lia) rfl (a_list B6.no fun p K N => ?_))))))))))))
      refine e_loc rfl (e_bin (e_int (e_bin (e_loc rfl (e_int (b_mod (by decide) (b_add (set_list (N.ext _ _ B6.rows) 4 (by lia) (by simp) (bent_none fun r K' N' => q r K' ?_)))))))))
      exact cut N N' rfl (f1 N.ext) (f2 N.ext) (f3 N.ext) ⟨nR N B6.rows, N.is⟩ (f5 N.ext) ⟨_, .tail _ (.tail _ (.tail _ (.head _))), short⟩
    · refine s_setItem (e_butLast (e_sub (e_loc rfl (e_bin (e_int (e_bin (e_loc rfl (e_int (b_mod (by decide) (b_add (g_list B6.rows 5 (by lia) rfl (a_list B6.ga fun p K N => ?_))))))))))))
      refine e_loc rfl (e_bin (e_int (e_bin (e_loc rfl (e_int (b_mod (by decide) (b_add (set_list (N.ext _ _ B6.rows) 5 (by lia) (by simp) (bent_none fun r K' N' => q r K' ?_)))))))))
      exact cut N N' rfl (f1 N.ext) (f2 N.ext) (f3 N.ext) (f4 N.ext) ⟨nR N B6.rows, N.is⟩ ⟨_, .tail _ (.tail _ (.tail _ (.tail _ (.head _)))), short⟩
  · refine g_list N6.is 3 hc rfl (s_seq (ch34 rfl (by lia) ?_))
    walk_at "y"
    refine b_mod (by decide) ?_
    refine b_add (g_list B6.rows 4 (by lia) rfl ?_)
    have hrow : H6[nn]? = some (.list ((tab s' fun i => V.ref (aN i)) ++ [.ref (aN s')])) := by rw [← tab_succ (f := fun i => V.ref (aN i)), ← hs']; exact B6.no
    refine l1_of hrow ?_
    walk_at "y"
    refine b_mod (by decide) ?_
    refine b_add (g_list B6.rows 4 (by lia) rfl ?_)
    refine pop_of hrow ?_
    have os := B6.ordN s' (by lia)
    have lrow := (List.getElem?_eq_some_iff.mp hrow).1
    have u0 : ∀ a o, a ≠ nn → H6[a]? = some o → (H6.set nn (.list (tab s' fun i => V.ref (aN i))))[a]? = some o := fun a o h1 h2 => by rw [List.getElem?_set_ne (Ne.symm h1)]; exact h2
    have i0 : (H6.set nn (.list (tab s' fun i => V.ref (aN i))))[nn]? = _ := List.getElem?_set_self lrow
    walk_at "y"
    intro p0 K1 M1
    refine b_cat (M1.ext _ _ (u0 _ _ (by lia) (B6.noA s' (by lia)))) M1.is (by have := ok.cnt s'; rw [tab_len]; simp; lia) ?_
    intro p K2 M2
    have e7 := M1.ext.trans M2.ext
    have hrow2 := e7 _ _ i0
    refine push_of hrow2 (by rw [tab_len]; lia) ?_
    have up : ∀ a o, a ≠ nn → H6[a]? = some o → (K2.set nn (.list ((tab s' fun i => V.ref (aN i)) ++ [.ref p])))[a]? = some o := fun a o h1 h2 => by rw [List.getElem?_set_ne (Ne.symm h1)]; exact e7 _ _ (u0 a o h1 h2)
    have g1 := M1.ge
    have g2 := M2.ge
    rw [List.length_set] at g1
    have p0lt := M1.lt
    have isp : (K2.set nn (.list ((tab s' fun i => V.ref (aN i)) ++ [.ref p])))[p]? = _ := (List.getElem?_set_ne (by lia)).trans M2.is
    have isn : (K2.set nn (.list ((tab s' fun i => V.ref (aN i)) ++ [.ref p])))[nn]? = _ := List.getElem?_set_self (List.getElem?_eq_some_iff.mp hrow2).1
    have eF : Ext H (K2.set nn (.list ((tab s' fun i => V.ref (aN i)) ++ [.ref p]))) := ((e6.set (n := nn) hnnH (.list (tab s' fun i => V.ref (aN i)))).trans e7).set (n := nn) hnnH _
    refine bent_none fun r K' N' => q r K' (out_rows (D := { rowsD L T nn gg aN aG with a4 := fun i => if i = s' then p else aN i }) (c := chI T) (m4 := (fun i => if i = s' then T.cnt i + 1 else T.cnt i)) (m5 := T.cnt) (eF.trans N'.ext) N'.is (N'.ext _ _ (up R _ (by lia) B6.rows)) (RowsAt.mono ?_ N'.ext) (show T.sz < 900 by lia) chl ⟨fun g => ?_, fun h => by lia⟩)
    · refine ⟨up L.ch _ (by lia) B6.tr.ch, fun i hi => ?_, up L.va _ (by lia) B6.tr.va, up L.ck _ (by lia) B6.tr.ck, up L.dr _ (by lia) B6.tr.dr, ?_, fun i hi => ?_, ?_, fun i hi => ?_⟩
      · have := lcA i hi
        rw [chI_map]; exact up (L.chA i) _ (by lia) (B6.tr.chA i hi)
      · refine isn.trans ?_
        show _ = some (O.list (tab T.sz fun i => V.ref (if i = s' then p else aN i)))
        rw [tab_up, hs']
        simp only [apply_ite V.ref]
      · have := B6.ordN i hi
        show ∃ vs, _[if i = s' then p else aN i]? = some (O.list vs) ∧ vs.length = if i = s' then T.cnt i + 1 else T.cnt i
        by_cases c : i = s'
        · subst c
          simp only [if_true]
          exact ⟨_, isp, by rw [List.length_append, tab_len]; rfl⟩
        · simp only [if_neg c]
          exact ⟨_, up (aN i) _ (by lia) (B6.noA i hi), tab_len _ _⟩
      · exact up gg _ (by lia) B6.ga
      · have := B6.ordG i hi
        exact ⟨_, up (aG i) _ (by lia) (B6.gaA i hi), tab_len _ _⟩
    · have := (g.2.2 s' (by lia)).1
      simp only [if_true] at this
      rw [chI_len] at this
      lia
  · refine g_list N6.is 4 hc rfl (s_seq (ch34 rfl (by lia) ?_))
    walk_at "y"
    refine b_mod (by decide) ?_
    refine b_add (g_list B6.rows 5 (by lia) rfl ?_)
    have hrow : H6[gg]? = some (.list ((tab s' fun i => V.ref (aG i)) ++ [.ref (aG s')])) := by rw [← tab_succ (f := fun i => V.ref (aG i)), ← hs']; exact B6.ga
    refine l1_of hrow ?_
    walk_at "y"
    refine b_mod (by decide) ?_
    refine b_add (g_list B6.rows 5 (by lia) rfl ?_)
    refine pop_of hrow ?_
    have os := B6.ordG s' (by lia)
    have lrow := (List.getElem?_eq_some_iff.mp hrow).1
    have u0 : ∀ a o, a ≠ gg → H6[a]? = some o → (H6.set gg (.list (tab s' fun i => V.ref (aG i))))[a]? = some o := fun a o h1 h2 => by rw [List.getElem?_set_ne (Ne.symm h1)]; exact h2
    have i0 : (H6.set gg (.list (tab s' fun i => V.ref (aG i))))[gg]? = _ := List.getElem?_set_self lrow
    walk_at "y"
    intro p0 K1 M1
    refine b_cat (M1.ext _ _ (u0 _ _ (by lia) (B6.gaA s' (by lia)))) M1.is (by have := ok.cnt s'; rw [tab_len]; simp; lia) ?_
    intro p K2 M2
    have e7 := M1.ext.trans M2.ext
    have hrow2 := e7 _ _ i0
    refine push_of hrow2 (by rw [tab_len]; lia) ?_
    have up : ∀ a o, a ≠ gg → H6[a]? = some o → (K2.set gg (.list ((tab s' fun i => V.ref (aG i)) ++ [.ref p])))[a]? = some o := fun a o h1 h2 => by rw [List.getElem?_set_ne (Ne.symm h1)]; exact e7 _ _ (u0 a o h1 h2)
    have g1 := M1.ge
    have g2 := M2.ge
    rw [List.length_set] at g1
    have p0lt := M1.lt
    have isp : (K2.set gg (.list ((tab s' fun i => V.ref (aG i)) ++ [.ref p])))[p]? = _ := (List.getElem?_set_ne (by lia)).trans M2.is
    have isn : (K2.set gg (.list ((tab s' fun i => V.ref (aG i)) ++ [.ref p])))[gg]? = _ := List.getElem?_set_self (List.getElem?_eq_some_iff.mp hrow2).1
    have eF : Ext H (K2.set gg (.list ((tab s' fun i => V.ref (aG i)) ++ [.ref p]))) := ((e6.set (n := gg) hggH (.list (tab s' fun i => V.ref (aG i)))).trans e7).set (n := gg) hggH _
    refine bent_none fun r K' N' => q r K' (out_rows (D := { rowsD L T nn gg aN aG with a5 := fun i => if i = s' then p else aG i }) (c := chI T) (m4 := T.cnt) (m5 := (fun i => if i = s' then T.cnt i + 1 else T.cnt i)) (eF.trans N'.ext) N'.is (N'.ext _ _ (up R _ (by lia) B6.rows)) (RowsAt.mono ?_ N'.ext) (show T.sz < 900 by lia) chl ⟨fun g => ?_, fun h => by lia⟩)
    · refine ⟨up L.ch _ (by lia) B6.tr.ch, fun i hi => ?_, up L.va _ (by lia) B6.tr.va, up L.ck _ (by lia) B6.tr.ck, up L.dr _ (by lia) B6.tr.dr, ?_, fun i hi => ?_, ?_, fun i hi => ?_⟩
      · have := lcA i hi
        rw [chI_map]; exact up (L.chA i) _ (by lia) (B6.tr.chA i hi)
      · exact up nn _ (by lia) B6.no
      · have := B6.ordN i hi
        exact ⟨_, up (aN i) _ (by lia) (B6.noA i hi), tab_len _ _⟩
      · refine isn.trans ?_
        show _ = some (O.list (tab T.sz fun i => V.ref (if i = s' then p else aG i)))
        rw [tab_up, hs']
        simp only [apply_ite V.ref]
      · have := B6.ordG i hi
        show ∃ vs, _[if i = s' then p else aG i]? = some (O.list vs) ∧ vs.length = if i = s' then T.cnt i + 1 else T.cnt i
        by_cases c : i = s'
        · subst c
          simp only [if_true]
          exact ⟨_, isp, by rw [List.length_append, tab_len]; rfl⟩
        · simp only [if_neg c]
          exact ⟨_, up (aG i) _ (by lia) (B6.gaA i hi), tab_len _ _⟩
    · have := (g.2.2 s' (by lia)).2.1
      simp only [if_true] at this
      rw [chI_len] at this
      lia
  · refine g_list N6.is 5 hc rfl (s_seq (ch5 rfl hc ?_))
    walk_at "y"
    intro r0 K0 M0
    walk_at "y"
    intro r1 K1 M1
    walk_at "y"
    intro r2 K2 M2
    walk_at "y"
    intro r3 K3 M3
    walk_at "y"
    intro r4 K4 M4
    walk_at "y"
    intro r5 K5 M5
    walk_at "y"
    intro r6 K6 M6
    have u5 := M6.ext
    have u4 := M5.ext.trans u5
    have u3 := M4.ext.trans u4
    have u2 := M3.ext.trans u3
    have u1 := M2.ext.trans u2
    have u0 := M1.ext.trans u1
    refine bent_none fun r K' N' => q r K' (out_len ((e6.trans (M0.ext.trans u0)).trans N'.ext) N'.is (N'.ext _ _ M6.is) (N'.ext _ _ (u0 _ _ M0.is)) (N'.ext _ _ (u1 _ _ M1.is)) (N'.ext _ _ (u2 _ _ M2.is)) (N'.ext _ _ (u3 _ _ M3.is)) (N'.ext _ _ (u4 _ _ M4.is)) (N'.ext _ _ (u5 _ _ M5.is)) (.inl rfl) (by lia))
  · refine g_list N6.is 6 hc rfl (s_seq (ch6 rfl (by lia) (by lia) (by lia) (by lia) (s_if (t_and (m8_yes rfl hc ?_)))))
    walk_at "z"; refine ifT rfl ?_
    refine t_cmp (e_loc rfl (e_bin (e_loc rfl (e_int (b_sub (c_lt ?_))))))
    by_cases c : (nd : Int) < (T.sz : Int) - 1
    · walk_at "z"; refine ifT (decide_eq_true c) ?_
      walk_at "y"
      refine b_mod (by lia) ?_
      have s1 := Int.fmod_nonneg_of_pos (x.fdiv 800) (show (0 : Int) < (T.sz : Int) - 1 - nd by lia)
      have s2 := Int.fmod_lt_of_pos (x.fdiv 800) (show (0 : Int) < (T.sz : Int) - 1 - nd by lia)
      refine b_add ?_
      exact kid_ (by lia)
    · walk_at "z"; refine ifF (by walk_at "z"; rw [decide_eq_false c]; nofun) ?_
      refine s_pass ?_
      exact bent_none fun r K' N' => q r K' (out_rows (D := rowsD L T nn gg aN aG) (e6.trans N'.ext) N'.is (N'.ext _ _ B6.rows) (B6.all.mono N'.ext) (by lia) chl ⟨fun _ => hc, fun _ => by rw [rowsD_k]; exact good_all ok⟩)
  · exact g_list N6.is 7 hc rfl (s_seq (ch0 rfl (by lia) (by lia) (by lia) (by lia) (by lia) (kid_ (by lia))))
end
section
variable {H : Hp} {L : Lay} {T : Tr} {Q : FR → Hp → Prop}
theorem init_game {ch va ck dr no ga : Nat} {P : Hp → Prop} (q : ∀ pa H2, Ext H H2 → H.length + 1 < pa → H2[H.length + 1]? = some (.inst 0 [.ref ch, .ref va, .ref ck, .ref dr, .ref no, .ref ga, .ref pa]) → H2[pa]? = some (.list [.int 0]) → P H2) :
    wF f_TreeGame___init__ [.ref (H.length + 1), .ref ch, .ref va, .ref ck, .ref dr, .ref no, .ref ga] (H ++ [.aux, .inst 0 []]) fun r H2 => r = .ret .none ∧ P H2 := by
  refine f_mk rfl ?_
  unfold b_TreeGame___init__
  have h0 : (H ++ [O.aux, O.inst 0 []])[H.length + 1]? = some (.inst 0 []) := by simp
  have l0 : (H ++ [O.aux, O.inst 0 []]).length = H.length + 2 := by simp
  have e0 : Ext H (H ++ [O.aux, O.inst 0 []]) := .app _ _
  generalize H ++ [O.aux, O.inst 0 []] = H1 at h0 l0 e0
  refine s_seq (s_setAttr (e_loc rfl (e_loc rfl (sa_of h0 rfl ?_))))
  have step : ∀ {fs : List V}, (H1.set (H.length + 1) (.inst 0 fs))[H.length + 1]? = some (.inst 0 fs) := fun {fs} => List.getElem?_set_self (by lia)
  refine s_seq (s_setAttr (e_loc rfl (e_loc rfl (sa_of step rfl ?_))))
  rw [List.set_set]
  refine s_seq (s_setAttr (e_loc rfl (e_loc rfl (sa_of step rfl ?_))))
  rw [List.set_set]
  refine s_seq (s_setAttr (e_loc rfl (e_loc rfl (sa_of step rfl ?_))))
  rw [List.set_set]
  refine s_seq (s_setAttr (e_loc rfl (e_loc rfl (sa_of step rfl ?_))))
  rw [List.set_set]
  refine s_seq (s_setAttr (e_loc rfl (e_loc rfl (sa_of step rfl ?_))))
  rw [List.set_set]
  refine s_setAttr ?_
  walk_at "y"
  intro pa H2 N2
  walk_at "y"
  have pge := N2.ge
  rw [List.length_set, l0] at pge
  have hi := N2.ext _ _ step
  refine sa_of hi rfl ⟨rfl, q pa _ ?_ (by lia) (List.getElem?_set_self (List.getElem?_eq_some_iff.mp hi).1) ?_⟩
  · exact ((e0.set (n := H.length + 1) (by lia) _).trans N2.ext).set (by lia) _
  · rw [List.getElem?_set_ne (by lia)]; exact N2.is
theorem count_root (ok : T.Ok) (x : GameAt H L T [] 0) {D q : Nat} (hD : D ≤ 3) (hq : q ≤ 2) (k : ∀ H', Ext H H' → Q (.ret (.int (T.cnF D (D + q + 1) 0 0))) H') : wF (f_count_nodes 10) [.ref L.g, .int D, .int 0, .int q] H Q := by
  have key := count_nodes ok D q (D + q) 10 (qq := q) (Q := Q) (by lia) x (by simp) (by simp; lia) (fun _ => rfl) (fun h => by have h : D ≤ 0 := h; lia) k
  have e : (D : Int) - (([] : List Nat).length : Nat) = D := by simp
  rw [e] at key
  exact key
theorem bit0 : Builtin.bitAnd (([] : List Nat).length : Nat) 1 = 0 := by decide
theorem rows_all (t : TreeAt H L T) (g : GainAt H L T) : RowsAt H (rowsD L T L.no L.ga L.noA L.gaA) T.sz (chI T) T.cnt T.cnt :=
  ⟨t.ch, fun i hi => by rw [chI_map]; exact t.chA i hi, t.va, t.ck, t.dr, t.no, fun i hi => ⟨_, t.noA i hi, tab_len _ _⟩, g.ga, fun i hi => ⟨_, g.gaA i hi, tab_len _ _⟩⟩
end
theorem law_holds (is : List Int) (hlen : is.length ≤ 63) : ∃ H', f_law [.scr is] [] = some (.ret (.bool true), H') := by
  have ok := treeS_ok is
  have szh := szS_hi is
  have szl := szS_lo is
  suffices h : wF f_law [.scr is] [] fun r H' => r = .ret (.bool true) by
    refine x2_2 h fun r H' e o1 => ?_
    clear h
    subst o1
    exact ⟨H', e⟩
  refine f_mk rfl ?_
  unfold b_law
  show wS _ [.scr is, .undef, .undef, .undef, .undef, .undef, .undef, .undef, .undef, .undef, .undef, .undef, .undef, .undef, .undef, .undef, .undef] [] _
  walk_at "y"
  refine law_tree hlen fun L H1 e1 t1 => ?_
  walk_at "y"
  refine law_at 0 rfl (.inl (by decide)) fun H2 e2 => ?_
  have t2 := t1.mono e2
  walk_at "y"
  refine law_digit 0 rfl (by decide) ?_
  walk_at "y"
  refine b_mod (by decide) ?_
  have p1 := Int.fmod_nonneg_of_pos (dig (atS is 0) 0) (show (0 : Int) < 4 by decide)
  have p2 := Int.fmod_lt_of_pos (dig (atS is 0) 0) (show (0 : Int) < 4 by decide)
  obtain ⟨d, hd⟩ : ∃ d : Nat, 3 - (dig (atS is 0) 0).fmod 4 = d := ⟨(3 - (dig (atS is 0) 0).fmod 4).toNat, by lia⟩
  have hd3 : d ≤ 3 := by lia
  walk_at "y"
  rw [hd]
  refine law_digit 1 rfl (by decide) ?_
  walk_at "y"
  refine b_mod (by decide) ?_
  walk_at "y"
  have p3 := Int.fmod_nonneg_of_pos (dig (atS is 0) 1) (show (0 : Int) < 3 by decide)
  have p4 := Int.fmod_lt_of_pos (dig (atS is 0) 1) (show (0 : Int) < 3 by decide)
  obtain ⟨q, hq⟩ : ∃ q : Nat, (if (4 : Int) - d < 2 - (dig (atS is 0) 1).fmod 3 then (4 : Int) - d else 2 - (dig (atS is 0) 1).fmod 3) = q := ⟨(if (4 : Int) - d < 2 - (dig (atS is 0) 1).fmod 3 then (4 : Int) - d else 2 - (dig (atS is 0) 1).fmod 3).toNat, by split <;> lia⟩
  have hq2 : q ≤ 2 := by split at hq <;> lia
  rw [hq]
  intro gl H3 N3
  have t3 := t2.mono N3.ext
  walk_at "y"
  refine g_tup t3.tree 0 rfl rfl ?_
  refine n_tab t3.ch ?_
  refine ⟨na0 (by show szS is < _; lia), ?_⟩
  have gllt := N3.lt
  refine l_up (n := szS is) (fun i ρ' H' => (∃ w6, ρ' = [.scr is, .ref L.tree, .int (atS is 0), .int d, .int q, .ref gl, w6, .undef, .undef, .undef, .undef, .undef, .undef, .undef, .undef, .undef, .undef]) ∧ Ext H2 H' ∧ ∃ gA : Nat → Nat, H'[gl]? = some (.list (tab i fun i => .ref (gA i))) ∧ ∀ j, j < i → gl < gA j ∧ H'[gA j]? = some (.list (tab ((treeS is).cnt j) fun l => .int ((treeS is).ga j l)))) (by show ((szS is : Nat) : Int) = _; lia) (by lia) ?_ (fun i ρ' H' hi z => ?_) (fun ρ' H' z => ?_)
  · exact ⟨⟨_, rfl⟩, N3.ext, fun _ => 0, N3.is, fun j h => absurd h (by lia)⟩
  · refine x0_3 z fun o2 e o3 => ?_
    clear z
    refine x1_1 o2 fun w6 o11 => ?_
    clear o2
    subst o11
    refine x1_2 o3 fun gA hg hgA => ?_
    clear o3
    have t4 := t2.mono e
    have gi : (0 : Int) + (i : Int) = i := by lia
    have cn := ok.cnt i
    have hi' : i < (treeS is).sz := hi
    have gll := (List.getElem?_eq_some_iff.mp hg).1
    walk_at "y"
    refine g_tup t4.tree 0 rfl rfl ?_
    walk_at "y"
    refine g_tab t4.ch i gi hi' ?_
    refine n_tab (t4.chA i hi') ?_
    refine ⟨by walk_at "w", ?_⟩
    refine m_up (n := (treeS is).cnt i) (fun j => .int ((treeS is).ga i j)) (by lia) (by lia) (fun j K hj eK => ?_) (fun K eK => ?_)
    · walk_at "y"
      refine law_at (3 + i) (by lia) (by unfold szS at hi; lia) fun K2 eK2 => ?_
      rw [show atS is (3 + i) = xS is i from rfl]
      walk_at "y"
      refine law_digit (10 + j) (by lia) (by lia) ?_
      walk_at "y"
      exact ⟨rfl, eK2⟩
    · intro n1 K1 M1
      have e4 := eK.trans M1.ext
      have n1ge := M1.ge
      have l4 := eK.len
      refine push_of (e4 _ _ hg) (by rw [tab_len]; lia) ?_
      refine ⟨⟨_, rfl⟩, (e.trans e4).set (n := gl) N3.ge _, fun j => if j = i then n1 else gA j, ?_, fun j hj => ?_⟩
      · rw [List.getElem?_set_self (List.getElem?_eq_some_iff.mp (e4 _ _ hg)).1, tab_up]
        simp only [apply_ite V.ref]
      · by_cases c : j = i
        · subst c
          simp only [if_true]
          exact ⟨by lia, by rw [List.getElem?_set_ne (by lia)]; exact M1.is⟩
        · simp only [if_neg c]
          refine x0_2 (hgA j (by lia)) fun z1 z2 => ?_
          exact ⟨z1, by rw [List.getElem?_set_ne (by lia)]; exact e4 _ _ z2⟩
  · refine x0_3 z fun o4 e o5 => ?_
    clear z
    refine x1_1 o4 fun w6 o12 => ?_
    clear o4
    subst o12
    refine x1_2 o5 fun gA hg hgA => ?_
    clear o5
    have t4 := t2.mono e
    have gn4 : GainAt H' { L with ga := gl, gaA := gA } (treeS is) := ⟨hg, fun i hi => (hgA i hi).2⟩
    clear hgA
    refine s_seq (s_assign (e_new ?_))
    walk_at "y"
    refine g_tup t4.tree 0 rfl rfl ?_
    walk_at "y"
    refine g_tup t4.tree 1 rfl rfl ?_
    walk_at "y"
    refine g_tup t4.tree 2 rfl rfl ?_
    walk_at "y"
    refine g_tup t4.tree 3 rfl rfl ?_
    walk_at "y"
    refine g_tup t4.tree 4 rfl rfl ?_
    walk_at "y"
    refine init_game fun pa H5 e5 hpa hin hpath => ?_
    obtain ⟨L', hL'⟩ : ∃ L' : Lay, L' = { L with ga := gl, gaA := gA, g := H'.length + 1, pa := pa } := ⟨_, rfl⟩
    have x5 : GameAt H5 L' (treeS is) [] 0 := by
      subst hL'
      have e6 : Ext H' (H5.set pa .aux) := e5.set (by lia) _
      have t6 := t4.mono e6
      have g6 := gn4.mono e6
      refine ⟨⟨t6.tree, t6.ch, t6.va, t6.ck, t6.dr, t6.no, t6.chA, t6.noA⟩, ⟨g6.ga, g6.gaA⟩, ?_, hpath, ?_⟩
      · rw [List.getElem?_set_ne (by show pa ≠ H'.length + 1; lia)]; exact hin
      · show 0 < szS is; lia
    have r1 : L.tree = L'.tree := by rw [hL']
    have r2 : gl = L'.ga := by rw [hL']
    have r3 : H'.length + 1 = L'.g := by rw [hL']
    show wS _ [.scr is, .ref L.tree, .int (atS is 0), .int d, .int q, .ref gl, w6, .ref (H'.length + 1), .undef, .undef, .undef, .undef, .undef, .undef, .undef, .undef, .undef] H5 _
    rw [r1, r2, r3]
    clear hpath hin hL' r1 r2 r3 hg gn4 t4 t3 t2 t1 hpa
    have pl5 := (List.getElem?_eq_some_iff.mp x5.path).1
    walk_at "y"
    refine law_levels x5.treeAt ok (by lia) (by lia) fun lv la H6 e6 glv hlv => ?_
    have x6 := x5.mono e6
    walk_at "y"
    refine law_at 2 rfl (.inl (by decide)) fun H7 e7 => ?_
    have x7 := x6.mono e7
    walk_at "y"
    refine law_digit 2 rfl (by decide) ?_
    walk_at "y"
    refine b_mod (by lia) ?_
    have p5 := Int.fmod_nonneg_of_pos (dig (atS is 0) 2) (show (0 : Int) < (d : Int) + 1 by lia)
    have p6 := Int.fmod_lt_of_pos (dig (atS is 0) 2) (show (0 : Int) < (d : Int) + 1 by lia)
    obtain ⟨c, hc⟩ : ∃ c : Nat, (dig (atS is 0) 2).fmod ((d : Int) + 1) = c := ⟨_, (Int.toNat_of_nonneg p5).symm⟩
    rw [hc]
    walk_at "y"
    refine law_walk x7.treeAt ok (by lia) fun js mm r H8 ln hjl e8 gmm hmm hr => ?_
    have x8 := x7.mono e8
    have hlv8 : LevAt H8 (treeS is) q lv (q + d + 1) la := ⟨e8 _ _ (e7 _ _ hlv.tb), fun l h => e8 _ _ (e7 _ _ (hlv.row l h))⟩
    have hjd : js.length ≤ d := by lia
    have mmne : mm ≠ L'.pa := by have := e6.len; have := e7.len; lia
    refine up_of hr rfl ?_
    show thn _ _ .next [.scr is, .ref L'.tree, .int (atS is 0), .int d, .int q, .ref L'.ga, w6, .ref L'.g, .ref lv, .ref mm, .int ((treeS is).at_ js), .undef, .undef, .undef, .undef, .undef, .undef] H8
    walk_at "y"
    refine law_played ok x8 ln (by lia) hmm mmne fun H9 e9 => ?_
    have x9 := x8.mono e9
    have hmm9 := e9 _ _ hmm
    walk_at "y"
    refine ifF nofun ?_
    walk_at "y"
    refine n_list (e9 _ _ hlv8.tb) ?_
    walk_at "y"
    rw [tab_len, List.length_map]
    refine g_tab (e9 _ _ hlv8.tb) (q + d - js.length) (by lia) (by lia) ?_
    walk_at "y"
    refine g_tab (e9 _ _ (hlv8.row _ (by lia))) ((treeS is).at_ js) rfl (ln.lt' ok) ?_
    show thn _ _ .next [.scr is, .ref L'.tree, .int (atS is 0), .int d, .int q, .ref L'.ga, w6, .ref L'.g, .ref lv, .ref mm, .int ((treeS is).at_ js), .int ((treeS is).lev q (q + d - js.length) ((treeS is).at_ js)), .undef, .undef, .undef, .undef, .undef] H9
    walk_at "y"
    refine seq_lst hmm9 ?_
    refine l_lst (vs := js.map mv) (fun i ρ' K => K = H9 ∧ ∃ w12, ρ' = [.scr is, .ref L'.tree, .int (atS is 0), .int d, .int q, .ref L'.ga, w6, .ref L'.g, .ref lv, .ref mm, .int ((treeS is).at_ js), .int (upN ((treeS is).lev q (q + d - js.length) ((treeS is).at_ js)) i), w12, .undef, .undef, .undef, .undef]) (by rw [List.length_map]; lia) (fun i ρ' K z => by rw [z.1]; exact hmm9) ⟨rfl, _, rfl⟩ (fun i v ρ' K hv z => ?_) (fun ρ' K z => ?_)
    · refine x0_2 z fun o6 o7 => ?_
      clear z
      subst o6
      refine x1_1 o7 fun w12 o13 => ?_
      clear o7
      subst o13
      walk_at "y"
      refine law_up ?_
      exact ⟨rfl, _, rfl⟩
    refine x0_2 z fun o8 o9 => ?_
    clear z
    subst o8
    refine x1_1 o9 fun w12 o14 => ?_
    clear o9
    subst o14
    rw [List.length_map]
    walk_at "y"
    refine line_value ok x9 ln hjd (by lia) (by lia) hmm9 mmne fun H10 e10 => ?_
    rw [line_eq ok ln hd3 hq2 hjd]
    have x10 := x9.mono e10
    refine e_loc rfl (c_ne ?_)
    rw [decide_eq_true rfl]; walk_at "z"; refine ifF nofun ?_
    walk_at "y"
    refine count_root ok x10 hd3 hq2 fun H11 e11 => ?_
    have x11 := x10.mono e11
    walk_at "y"
    refine law_count x11.treeAt ok (by lia) (by lia) fun H12 e12 => ?_
    have x12 := x11.mono e12
    refine c_ne ?_
    rw [decide_eq_true rfl]; walk_at "z"; refine ifF nofun ?_
    walk_at "y"
    refine law_digit 3 rfl (by decide) ?_
    have d3lo := dig_lo (atS is 0) 3
    have d3hi := dig_hi (atS is 0) 3
    obtain ⟨lm, hlm⟩ : ∃ lm : Nat, dig (atS is 0) 3 = lm := ⟨_, (Int.toNat_of_nonneg d3lo).symm⟩
    rw [hlm]
    walk_at "y"
    refine law_kept hlen x12 (by lia) fun H13 e13 => ?_
    have x13 := x12.mono e13
    have i13 := x13.ins
    walk_at "y"
    refine ifF nofun ?_
    walk_at "y"
    refine x13.key ?_
    walk_at "y"
    refine ifF (by simp) ?_
    walk_at "y"
    refine x13.side ?_
    rw [bit0]
    walk_at "y"
    rw [decide_eq_true rfl, if_neg nofun]
    have t13 := x13.treeAt
    walk_at "y"
    refine g_tup t13.tree 0 rfl rfl ?_
    walk_at "y"
    refine reached_nodes t13 ok fun M a1 H14 mM e14 ha1 => ?_
    have t14 := t13.mono e14
    walk_at "y"
    refine g_tup t14.tree 0 rfl rfl ?_
    walk_at "y"
    refine longest_way t14 ok fun h H15 hh e15 => ?_
    have t15 := t14.mono e15
    walk_at "y"
    intro tp H16 N16
    have t16 := t15.mono N16.ext
    walk_at "y"
    refine g_tup t16.tree 0 rfl rfl ?_
    walk_at "y"
    refine law_rounds t16 ok hh fun S r2 m2 H17 dS mS e17 hm2 hr2 => ?_
    have e1417 := e15.trans (N16.ext.trans e17)
    rw [sorted_eq ok dS mS mM] at hm2
    have dl : ∀ {k : Nat}, H17[k]? = some (.list (((List.range (treeS is).sz).filter M).map nd)) → dataV 3 H17 (.ref k) = some (.list ((((List.range (treeS is).sz).filter M).map fun (i : Nat) => (i : Int)).map PyData.int)) := fun {k} hk => data_list hk (by rw [nd_map, data_ints])
    have dt : ∀ {k p : Nat}, H17[k]? = some (.tup [.ref p, .int (h 0)]) → H17[p]? = some (.list (((List.range (treeS is).sz).filter M).map nd)) → dataV 4 H17 (.ref k) = some (.tuple [.list ((((List.range (treeS is).sz).filter M).map fun (i : Nat) => (i : Int)).map PyData.int), .int (h 0)]) := fun {k p} hk hp => data_tup hk (by show (dataV 3 H17 (.ref _)).bind _ = _; rw [dl hp]; rfl)
    refine c_ne_same (dt (e17 _ _ N16.is) (e1417 _ _ ha1)) (dt hr2 hm2) ?_
    walk_at "z"; refine ifF nofun ?_
    have x17 := x13.mono (e14.trans e1417)
    have t17 := x17.treeAt
    have g17 := x17.gainAt
    walk_at "y"
    refine g_tup t17.tree 0 rfl rfl ?_
    walk_at "y"
    refine g_tup t17.tree 1 rfl rfl ?_
    walk_at "y"
    refine g_tup t17.tree 2 rfl rfl ?_
    walk_at "y"
    refine g_tup t17.tree 3 rfl rfl ?_
    walk_at "y"
    refine g_tup t17.tree 4 rfl rfl ?_
    walk_at "y"
    intro ra H18 N18
    have x18 := x17.mono N18.ext
    walk_at "y"
    refine law_at 1 rfl (.inl (by decide)) fun H19 e19 => ?_
    have x19 := x18.mono e19
    walk_at "y"
    refine law_bent ok x19.treeAt x19.gainAt (e19 _ _ N18.is) fun r3 H20 out => ?_
    refine x0_2 out fun e20 o10 => ?_
    clear out
    refine x1_2 o10 fun R' ho href => ?_
    clear o10
    have x20 := x19.mono e20
    refine up_of ho rfl ?_
    walk_at "y"
    have chl : ∀ i, i < (treeS is).sz → (chI (treeS is) i).length < 900 := fun i _ => by have := ok.cnt i; rw [chI_len]; lia
    refine law_refused (rows_all x20.treeAt x20.gainAt) (e20 _ _ (e19 _ _ N18.is)) (by show szS is < 900; lia) chl (fun _ H21 e21 => ?_) (fun g => absurd (by rw [rowsD_k]; exact good_all ok) g)
    walk_at "y"
    refine ifT (show (!false) = true from rfl) ?_
    walk_at "y"
    refine href H21 _ e21 fun H22 e22 => ?_
    exact e_loc rfl (c_eq_same (d := .bool (!decide ((atS is 1).fmod 8 = 6))) rfl rfl rfl)
end Mine.P
end
section
open PySem PySem.W PyProof.Rows
set_option Elab.async false
namespace Mine
theorem ref_inj {a b : Addr} (h : (some (.ref a) : Option Value) = some (.ref b)) : a = b := Value.ref.inj (Option.some.inj h)
theorem post_true (d : WData) : WTm.value [] (.eq .res (.lit (.bool true))) { args := [d], res := some (.bool true), after := [d] } = some (.bool true) := by
  simp [WTm.value]
  simp [same]
set_option maxRecDepth 100000 in
set_option maxHeartbeats 8000000 in
theorem holds_of (pure_law : ∀ is : List Int, is.length ≤ 63 → ∃ H', f_law [.scr is] [] = some (.ret (.bool true), H')) : PySem.Challenge.rw_nt0437_01.Holds := by
  refine holds_law said_ fun said => ?_
  refine holds_open (q := view) (loose := []) (Xt := fun s => xlAt view [] s && recOk PySem.Challenge.rw_nt0437_01.row.toRowW.records s) (XP := XL view []) (Yf := hk.obs) (Ya := hk.val) (YP := hk.says) (N := 5870) left hk.of hk.keeps (fun s e => xl_of s (Bool.and_eq_true_iff.mp e).1) XL.keeps (by rfl) (by rfl) (by rfl) (fun s e => recFacts_of (Bool.and_eq_true_iff.mp e).2) (by rfl) (by first | assumption | decide +kernel) (by decide +kernel) ⟨rfl, rfl, rfl, rfl, rfl, by decide +kernel⟩ ?hw ?hc
  case hw => w_witness2
  intro w s₀ s₁ mg mb G Y fa o pm cd doc dV kV ho hd hcd hD hmg hg args vals as hpre hlay hrd hwl hlo
  have KX : (Kp w.params).In s₁.heap := Y
  refine Ground.open G ?_
  intro T B D TE TW
  clear hD hcd hd D TE TW B
  wrow_args hpre hlay hrd hwl hlo
  rename_i is _ _ _ _ _ _ _ a vs _ hL _ _ _ hI _ hc _
  refine enter_call ?_
  have hlen : is.length ≤ 63 := by omega
  have e : nsIn (Kp w.params) mainGlobals "law" = some (some (.ref 439)) := by rfl
  have e2 : mg "law" = some (.ref 439) := mg_of KX T.g e
  have e3 : fa = 439 := by
    exact ref_inj (hmg.symm.trans e2)
  subst e3
  let V : Gv := { prog := PySem.Challenge.rw_nt0437_01.row.prog, w := w, B := s₁.heap, p := _, loose := _, mean := _, mg := mg, mb := mb, X := KX, T := T, big := ⟨439, o, by decide, ho⟩ }
  obtain ⟨H', hp⟩ := pure_law is hlen
  refine r_law V callerA s₁ [] [] [.scr is] [.ref a] _ H' _ ?_ ?_ ?_ (.cons (.scr hL hI (by unfold lim; omega)) .nil) hp ?_ ?_
  · exact ⟨.inr rfl, by decide, by decide⟩
  · exact ⟨[], rfl, trivial, by simp⟩
  · exact ⟨fun _ _ e => e, rfl, List.nodup_nil, by simp, by simp, by simp, by simp, by simp⟩
  · intro v v' π' h' tk' hr hv S
    cases hr
    cases hv
    refine ⟨.inl ⟨_, _, [], rfl, fun _ => rfl, .bool _, ?_, by simp⟩, ?_, rfl, ?_⟩
    · exact postW_of (r := PySem.Challenge.rw_nt0437_01.row.toRowW) (X := true) rfl (post_true _) rfl
    · exact .of_keep S.rel.stays
    · exact .of_eq hg
  · intro c e π' h' tk' hr
    cases hr
end Mine
end
theorem PySem.Challenge.cw_nt0437_01_holds : PySem.Challenge.rw_nt0437_01.Holds := by
  exact Mine.holds_of Mine.P.law_holds
