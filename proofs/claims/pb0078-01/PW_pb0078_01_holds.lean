import PyProof.Rows.All
import Wide.All
import OpenK.AllK
import Wide.FinOn
import Lean
import PySem.Challenge.RW_pb0078_01
open PySem PySem.W PyProof.Rows
set_option Elab.async false
set_option tactic.hygienic false
set_option genCtorIdx false
set_option bootstrap.genMatcherCode false
set_option maxRecDepth 100000
set_option linter.unusedSimpArgs false
set_option linter.unusedVariables false
set_option maxHeartbeats 8000000
namespace Mine
open PySem.Calls
namespace Hd
noncomputable def nth : List Stmt → Nat → Stmt
 | [],_ => .Pass ⟨0,0,0,0⟩
 | s :: _,0 => s
 | _ :: r,n + 1 => nth r n
noncomputable def st (i : Nat) : Stmt := nth PySem.Challenge.pw_pb0078_01.main.body i
noncomputable def cb : Stmt → List Stmt
 | .ClassDef _ _ _ b _ _ _ _ _ _ _ => b
 | _ => []
noncomputable def me (i j : Nat) : Stmt := nth (cb (st i)) j
noncomputable def ob (c : Value) (d : Data) : Obj := ⟨c,none,d,.mk []⟩
noncomputable def oE : Obj := ob (.type "tuple") (.seq (.mk []) 0)
noncomputable def oN : Obj := ob .none (.fields (.mk []))
noncomputable def oQ (c : Value) (l : List Value) : Obj := ob c (.seq (.mk l) 0)
noncomputable def oF (c : Value) (l : List Value) : Obj := ob c (.fields (.mk l))
noncomputable def en (P : Params) (k : Str) (t : Nat) (v : Value) : DictEntry := ⟨PyData.keyHash P k,.str k t,v⟩
noncomputable def oD (c : Value) (l : List DictEntry) (n : Nat) : Obj := ob c (.dict (.mk l) n)
noncomputable def oP (c : Value) (l : List (Option Value)) : Obj := ⟨c,none,.plain,.mk l⟩
noncomputable def oX (c : Value) (s : Stmt) (q : Str) (g : Nat) (dv pm cd : Value) : Obj := match s with
 | .FunctionDef n a b _ _ _ sc _ _ _ => ob c (.func { name := n,qualname := q,params := a,body := .stmts b,scope := sc,globals := g,closure := [],defaults := dv,kwdefaults := .none,pyModule := pm,code := cd })
 | _ => oN
noncomputable def oK (c : Value) (n : Str) (bs mro : List Value) (ns : Nat) (subs : List Value) (sl : List (Option Value)) : Obj := ⟨c,none,.cls { name := n,bases := bs,mro := mro,ns := ns,qualname := n,subclasses := subs },.mk sl⟩
noncomputable def oC (n q : Str) (t : Nat) (ln np fl : Int) (r8 : Nat) (b : Bool) (r11 : Nat) (v13 v14 v15 : Value) (i : Nat) : Obj :=
 oF (.type "code") [.str n t,.str q (t + 1),.str "/claim/cut.py" (t + 2),.int ln 0,.int np 0,.int 0 0,.int 0 0,.int fl 0,.ref r8,.bool b,.int 181 0,.ref r11,.none,v13,v14,v15,.int i 0,.int ln 0,.str "/claim/cut.py" (i + 1)]
noncomputable def nm : List Str → Nat → List Value
 | [],_ => []
 | x :: r,t => .str x t :: nm r (t + 1)
noncomputable def f7 (a : Nat) (s : Stmt) (n q : Str) (t : Nat) (ln np : Int) (ps : List Str) (dv : Value) (m : Str) (mt : Nat) (tl : List Obj) : List Obj :=
 oE :: oN :: oQ (.type "tuple") (nm ps (t + 3)) :: oE :: oX .none s q 0 .none .none .none :: oC n q t ln np 3 a true (a + 1) (.ref (a + 2)) (.ref (a + 3)) (.ref (a + 4)) (t + 3 + ps.length) :: oX (.type "function") s q 3 dv (.str m mt) (.ref (a + 5)) :: tl
noncomputable def g3 (P : Params) : List DictEntry := [en P "__doc__" 166 .none,
 en P "__package__" 167 .none,
 en P "__loader__" 168 (.builtin "__main__.__loader__#opaque"),
 en P "__spec__" 169 .none,
 en P "__annotations__" 170 (.ref 6),
 en P "__builtins__" 171 (.ref 4),
 en P "__file__" 173 (.str "/claim/cut.py" 172),
 en P "__cached__" 174 .none,
 en P "_wall" 193 (.ref 21),
 en P "NO_MOVE" 195 (.int 0 194),
 en P "MATE" 199 (.int 32000 198),
 en P "DRAW" 201 (.int 0 200),
 en P "INFINITE" 203 (.int 32001 202),
 en P "MAX_PLY" 205 (.int 246 204),
 en P "MATE_LEAST" 207 (.int 31754 206),
 en P "mated_in" 214 (.ref 28),
 en P "mate_in" 221 (.ref 35),
 en P "to_table" 229 (.ref 42),
 en P "from_table" 237 (.ref 49),
 en P "ChessError" 268 (.ref 66),
 en P "BadMove" 284 (.ref 79),
 en P "SearchStopped" 310 (.ref 99),
 en P "BadTable" 326 (.ref 111),
 en P "BOUND_NONE" 330 (.int 0 329),
 en P "BOUND_UPPER" 332 (.int 1 331),
 en P "BOUND_LOWER" 334 (.int 2 333),
 en P "BOUND_EXACT" 336 (.int 3 335),
 en P "AGES" 338 (.int 64 337),
 en P "DEPTH_LEAST" 341 (.int (-8) 340),
 en P "DEPTH_MOST" 343 (.int 247 342),
 en P "VALUE_MOST" 345 (.int 32767 344),
 en P "KEY_AT" 347 (.int 48 346),
 en P "pack_entry" 360 (.ref 120),
 en P "unpack_entry" 370 (.ref 127),
 en P "find_slot" 381 (.ref 134),
 en P "worth" 389 (.ref 141),
 en P "victim_slot" 401 (.ref 148),
 en P "pushes_out" 411 (.ref 155),
 en P "with_move" 419 (.ref 162),
 en P "TransTable" 499 (.ref 214),
 en P "cutoff" 514 (.ref 225),
 en P "SearchContext" 567 (.ref 249),
 en P "step_into" 575 (.ref 260),
 en P "step_back" 582 (.ref 267),
 en P "clear_line" 590 (.ref 274),
 en P "set_line" 599 (.ref 281),
 en P "scale_down" 610 (.ref 288),
 en P "History" 679 (.ref 333),
 en P "Killers" 735 (.ref 375),
 en P "reward" 750 (.ref 386),
 en P "TABLE_STAGE" 754 (.int 0 753),
 en P "GOOD_STAGE" 756 (.int 1 755),
 en P "KILLER_STAGE" 758 (.int 2 757),
 en P "QUIET_STAGE" 760 (.int 3 759),
 en P "END_STAGE" 762 (.int 5 761),
 en P "killer_pair" 770 (.ref 393),
 en P "past_score" 779 (.ref 400),
 en P "Picker" 861 (.ref 450),
 en P "take_best" 870 (.ref 461),
 en P "quiesce" 886 (.ref 468),
 en P "quiesce_moves" 902 (.ref 475),
 en P "IID_DEPTH" 906 (.int 4 905),
 en P "search" 925 (.ref 482),
 en P "search_moves" 951 (.ref 489),
 en P "search_child" 965 (.ref 496),
 en P "look_up" 979 (.ref 503),
 en P "keep_value" 994 (.ref 510),
 en P "TreeGame" 1116 (.ref 602),
 en P "_law_mate" 1120 (.int 32000 1119),
 en P "_law_pull" 1128 (.ref 613),
 en P "_law_ways" 1141 (.ref 620),
 en P "_law_world" 1147 (.ref 625),
 en P "_law_raised" 1154 (.ref 632),
 en P "_law_quiet_rows" 1167 (.ref 639),
 en P "_law_quiet" 1173 (.ref 644),
 en P "_law_deep_rows" 1179 (.ref 649),
 en P "_law_window" 1189 (.ref 656),
 en P "_law_is_told_well" 1199 (.ref 663),
 en P "_law_leads" 1213 (.ref 670),
 en P "_law_rows_are_true" 1229 (.ref 677),
 en P "law" 1251 (.ref 684)]
noncomputable def g12 : List Value := [(.int 1 0),(.int 0 0),(.ref 20),(.int 11 0),(.int 0 0),(.ref 27),(.int 13 0),(.int 0 0),(.ref 34),(.int 15 0),(.int 0 0),(.ref 41),(.int 21 0),(.int 0 0),(.ref 48),(.int 28 0),(.int 0 0),(.ref 55),(.int 33 0),(.int 0 0),(.ref 75),(.int 35 0),(.int 0 0),(.ref 87),(.int 40 0),(.int 0 0),(.ref 107),(.int 52 0),(.int 0 0),(.ref 119),(.int 67 0),(.int 0 0),(.ref 126),(.int 72 0),(.int 0 0),(.ref 133),(.int 77 0),(.int 0 0),(.ref 140),(.int 79 0),(.int 0 0),(.ref 147),(.int 87 0),(.int 0 0),(.ref 154),(.int 91 0),(.int 0 0),(.ref 161),(.int 93 0),(.int 0 0),(.ref 168),(.int 136 0),(.int 0 0),(.ref 224),(.int 149 0),(.int 0 0),(.ref 231),(.int 167 0),(.int 0 0),(.ref 259),(.int 170 0),(.int 0 0),(.ref 266),(.int 173 0),(.int 0 0),(.ref 273),(.int 177 0),(.int 0 0),(.ref 280),(.int 180 0),(.int 0 0),(.ref 287),(.int 184 0),(.int 0 0),(.ref 294),(.int 211 0),(.int 0 0),(.ref 343),(.int 232 0),(.int 0 0),(.ref 385),(.int 245 0),(.int 0 0),(.ref 392),(.int 249 0),(.int 0 0),(.ref 399),(.int 253 0),(.int 0 0),(.ref 406),(.int 314 0),(.int 0 0),(.ref 460),(.int 321 0),(.int 0 0),(.ref 467),(.int 337 0),(.int 0 0),(.ref 474),(.int 353 0),(.int 0 0),(.ref 481),(.int 383 0),(.int 0 0),(.ref 488),(.int 417 0),(.int 0 0),(.ref 495),(.int 424 0),(.int 0 0),(.ref 502),(.int 434 0),(.int 0 0),(.ref 509),(.int 444 0),(.int 0 0),(.ref 516),(.int 494 0),(.int 0 0),(.ref 612),(.int 500 0),(.int 0 0),(.ref 619),(.int 511 0),(.int 0 0),(.ref 624),(.int 523 0),(.int 0 0),(.ref 631),(.int 528 0),(.int 0 0),(.ref 638),(.int 537 0),(.int 0 0),(.ref 643),(.int 550 0),(.int 0 0),(.ref 648),(.int 564 0),(.int 0 0),(.ref 655),(.int 575 0),(.int 0 0),(.ref 662),(.int 579 0),(.int 0 0),(.ref 669),(.int 591 0),(.int 0 0),(.ref 676),(.int 605 0),(.int 0 0),(.ref 683)]
noncomputable def c1 (P : Params) (x66 : Obj) (tl : List Obj) : List Obj :=
 f7 15 (st 0) "_wall" "_wall" 187 1 1 ["k"] .none "__main__" 164 (f7 22 (st 8) "mated_in" "mated_in" 208 11 1 ["ply"] .none "chess.values" 196 (f7 29 (st 9) "mate_in" "mate_in" 215 13 1 ["ply"] .none "chess.values" 196 (f7 36 (st 10) "to_table" "to_table" 222 15 2 ["value","ply"] .none "chess.values" 196 (f7 43 (st 11) "from_table" "from_table" 230 21 2 ["value","ply"] .none "chess.values" 196 (oQ (.type "tuple") [(.type "Exception")] :: oF (.type "builtin_function_or_method") [(.builtin "type.__prepare__"),(.type "type")] :: oD (.type "dict") [en P "__module__" 247 (.str "chess.errors" 238),en P "__qualname__" 249 (.str "ChessError" 248),en P "__firstlineno__" 251 (.int 28 250),en P "__init__" 259 (.ref 63),en P "__static_attributes__" 261 (.ref 64)] 5 :: oE :: oF .none [(.int 30 0),(.int 4 0),(.ref 62)] :: oC "ChessError" "ChessError" 242 28 0 0 53 false 54 .none .none .none 245 :: oP (.type "frame") [some (.ref 55),some (.ref 3),some (.ref 52),none,some (.str "chess.errors" 238),none,some (.ref 0)] :: f7 57 (me 13 0) "__init__" "ChessError.__init__" 252 30 2 ["self","text"] .none "chess.errors" 238 (oQ (.type "tuple") [(.str "text" 260)] :: oD (.type "dict") [en P "__module__" 247 (.str "chess.errors" 238),en P "__firstlineno__" 251 (.int 28 250),en P "__init__" 259 (.ref 63),en P "__static_attributes__" 261 (.ref 64),en P "__weakref__" 263 (.ref 67),en P "__doc__" 264 .none] 3 :: x66 :: oF (.type "getset_descriptor") [(.str "__weakref__" 262),(.ref 66),(.builtin "ExceptionGroup.__weakref__"),.none] :: oF (.type "super") [(.ref 66),(.ref 66),(.ref 66)] :: oF (.type "builtin_function_or_method") [(.builtin "object.__init_subclass__"),(.ref 66)] :: oQ (.type "tuple") [(.ref 66)] :: oF (.type "builtin_function_or_method") [(.builtin "type.__prepare__"),(.type "type")] :: oD (.type "dict") [en P "__module__" 276 (.str "chess.errors" 238),en P "__qualname__" 278 (.str "BadMove" 277),en P "__firstlineno__" 280 (.int 33 279),en P "__static_attributes__" 281 (.ref 77)] 4 :: oE :: oN :: oC "BadMove" "BadMove" 271 33 0 0 73 false 74 .none .none .none 274 :: oP (.type "frame") [some (.ref 75),some (.ref 3),some (.ref 72),none,some (.str "chess.errors" 238),none,some (.ref 0)] :: oE :: oD (.type "dict") [en P "__module__" 276 (.str "chess.errors" 238),en P "__firstlineno__" 280 (.int 33 279),en P "__static_attributes__" 281 (.ref 77),en P "__doc__" 282 .none] 2 :: oK (.type "type") "BadMove" [(.ref 66)] [(.ref 79),(.ref 66),(.type "Exception"),(.type "BaseException"),(.type "object")] 78 [] [some (.ref 70),none,some (.str "BadMove" 269),some (.str "BadMove" 277),some (.builtin "Exception.__new__"),some (.bool true)] :: oF (.type "super") [(.ref 79),(.ref 79),(.ref 79)] :: oF (.type "builtin_function_or_method") [(.builtin "object.__init_subclass__"),(.ref 79)] :: oQ (.type "tuple") [(.ref 66)] :: oF (.type "builtin_function_or_method") [(.builtin "type.__prepare__"),(.type "type")] :: oD (.type "dict") [en P "__module__" 292 (.str "chess.errors" 238),en P "__qualname__" 294 (.str "SearchStopped" 293),en P "__firstlineno__" 296 (.int 35 295),en P "__init__" 305 (.ref 96),en P "__static_attributes__" 307 (.ref 97)] 5 :: oE :: oF .none [(.int 37 0),(.int 4 0),(.ref 95)] :: oC "SearchStopped" "SearchStopped" 287 35 0 0 85 false 86 .none .none .none 290 :: oP (.type "frame") [some (.ref 87),some (.ref 3),some (.ref 84),none,some (.str "chess.errors" 238),none,some (.ref 0)] :: oQ (.type "tuple") [(.int 0 297)] :: f7 90 (me 15 0) "__init__" "SearchStopped.__init__" 298 37 2 ["self","nodes"] (.ref 89) "chess.errors" 238 (oQ (.type "tuple") [(.str "nodes" 306)] :: oD (.type "dict") [en P "__module__" 292 (.str "chess.errors" 238),en P "__firstlineno__" 296 (.int 35 295),en P "__init__" 305 (.ref 96),en P "__static_attributes__" 307 (.ref 97),en P "__doc__" 308 .none] 2 :: oK (.type "type") "SearchStopped" [(.ref 66)] [(.ref 99),(.ref 66),(.type "Exception"),(.type "BaseException"),(.type "object")] 98 [] [some (.ref 82),none,some (.str "SearchStopped" 285),some (.str "SearchStopped" 293),some (.builtin "Exception.__new__"),some (.bool true)] :: oF (.type "super") [(.ref 99),(.ref 99),(.ref 99)] :: oF (.type "builtin_function_or_method") [(.builtin "object.__init_subclass__"),(.ref 99)] :: tl)))))))
noncomputable def c2 (P : Params) (tl : List Obj) : List Obj :=
 oQ (.type "tuple") [(.ref 66)] :: oF (.type "builtin_function_or_method") [(.builtin "type.__prepare__"),(.type "type")] :: oD (.type "dict") [en P "__module__" 318 (.str "chess.errors" 238),en P "__qualname__" 320 (.str "BadTable" 319),en P "__firstlineno__" 322 (.int 40 321),en P "__static_attributes__" 323 (.ref 109)] 4 :: oE :: oN :: oC "BadTable" "BadTable" 313 40 0 0 105 false 106 .none .none .none 316 :: oP (.type "frame") [some (.ref 107),some (.ref 3),some (.ref 104),none,some (.str "chess.errors" 238),none,some (.ref 0)] :: oE :: oD (.type "dict") [en P "__module__" 318 (.str "chess.errors" 238),en P "__firstlineno__" 322 (.int 40 321),en P "__static_attributes__" 323 (.ref 109),en P "__doc__" 324 .none] 2 :: oK (.type "type") "BadTable" [(.ref 66)] [(.ref 111),(.ref 66),(.type "Exception"),(.type "BaseException"),(.type "object")] 110 [] [some (.ref 102),none,some (.str "BadTable" 311),some (.str "BadTable" 319),some (.builtin "Exception.__new__"),some (.bool true)] :: oF (.type "super") [(.ref 111),(.ref 111),(.ref 111)] :: oF (.type "builtin_function_or_method") [(.builtin "object.__init_subclass__"),(.ref 111)] :: f7 114 (st 27) "pack_entry" "pack_entry" 348 52 6 ["key","move","value","depth","bound","age","low"] .none "chess.tt" 327 (f7 121 (st 28) "unpack_entry" "unpack_entry" 361 67 1 ["entry","move","value","depth"] .none "chess.tt" 327 (f7 128 (st 29) "find_slot" "find_slot" 371 72 4 ["slots","start","ways","key","at"] .none "chess.tt" 327 (f7 135 (st 30) "worth" "worth" 382 77 2 ["entry","age"] .none "chess.tt" 327 (f7 142 (st 31) "victim_slot" "victim_slot" 390 79 4 ["slots","start","ways","age","found","at"] .none "chess.tt" 327 (f7 149 (st 32) "pushes_out" "pushes_out" 402 87 4 ["entry","depth","bound","age"] .none "chess.tt" 327 (f7 156 (st 33) "with_move" "with_move" 412 91 2 ["entry","move"] .none "chess.tt" 327 (oE :: oF (.type "builtin_function_or_method") [(.builtin "type.__prepare__"),(.type "type")] :: oD (.type "dict") [en P "__module__" 427 (.str "chess.tt" 327),en P "__qualname__" 429 (.str "TransTable" 428),en P "__firstlineno__" 431 (.int 93 430),en P "__init__" 440 (.ref 176),en P "probe" 450 (.ref 183),en P "save" 466 (.ref 190),en P "new_search" 473 (.ref 197),en P "clear" 480 (.ref 204),en P "fullness" 487 (.ref 211),en P "__static_attributes__" 492 (.ref 212)] 10 :: oE :: oF .none [(.int 95 0),(.int 4 0),(.ref 175),(.int 103 0),(.int 4 0),(.ref 182),(.int 110 0),(.int 4 0),(.ref 189),(.int 126 0),(.int 4 0),(.ref 196),(.int 129 0),(.int 4 0),(.ref 203),(.int 133 0),(.int 4 0),(.ref 210)] :: oC "TransTable" "TransTable" 422 93 0 0 166 false 167 .none .none .none 425 :: oP (.type "frame") [some (.ref 168),some (.ref 3),some (.ref 165),none,some (.str "chess.tt" 327),none,some (.ref 0)] :: f7 170 (me 34 0) "__init__" "TransTable.__init__" 432 95 3 ["self","clusters","ways"] .none "chess.tt" 327 (f7 177 (me 34 1) "probe" "TransTable.probe" 441 103 2 ["self","key","at","row"] .none "chess.tt" 327 (f7 184 (me 34 2) "save" "TransTable.save" 451 110 6 ["self","key","move","value","depth","bound","entry","start","at","old"] .none "chess.tt" 327 (f7 191 (me 34 3) "new_search" "TransTable.new_search" 467 126 1 ["self"] .none "chess.tt" 327 (f7 198 (me 34 4) "clear" "TransTable.clear" 474 129 1 ["self"] .none "chess.tt" 327 (f7 205 (me 34 5) "fullness" "TransTable.fullness" 481 133 1 ["self"] .none "chess.tt" 327 (oQ (.type "tuple") [(.str "age" 488),(.str "clusters" 489),(.str "slots" 490),(.str "ways" 491)] :: oD (.type "dict") [en P "__module__" 427 (.str "chess.tt" 327),en P "__firstlineno__" 431 (.int 93 430),en P "__init__" 440 (.ref 176),en P "probe" 450 (.ref 183),en P "save" 466 (.ref 190),en P "new_search" 473 (.ref 197),en P "clear" 480 (.ref 204),en P "fullness" 487 (.ref 211),en P "__static_attributes__" 492 (.ref 212),en P "__dict__" 494 (.ref 215),en P "__weakref__" 496 (.ref 216),en P "__doc__" 497 .none] 4 :: oK (.type "type") "TransTable" [(.type "object")] [(.ref 214),(.type "object")] 213 [] [none,none,some (.str "TransTable" 420),some (.str "TransTable" 428),some (.builtin "object.__new__"),some (.bool true)] :: oF (.type "getset_descriptor") [(.str "__dict__" 493),(.ref 214),(.builtin "function.__dict__"),(.builtin "function.__dict__#set")] :: oF (.type "getset_descriptor") [(.str "__weakref__" 495),(.ref 214),(.builtin "ExceptionGroup.__weakref__"),.none] :: oF (.type "super") [(.ref 214),(.ref 214),(.ref 214)] :: oF (.type "builtin_function_or_method") [(.builtin "object.__init_subclass__"),(.ref 214)] :: tl)))))))))))))
noncomputable def c3 (P : Params) (tl : List Obj) : List Obj :=
 f7 219 (st 36) "cutoff" "cutoff" 502 136 7 ["value","depth","bound","want","is_exact","alpha","beta"] .none "chess.alphabeta" 500 (oE :: oF (.type "builtin_function_or_method") [(.builtin "type.__prepare__"),(.type "type")] :: oD (.type "dict") [en P "__module__" 524 (.str "chess.context" 515),en P "__qualname__" 526 (.str "SearchContext" 525),en P "__firstlineno__" 528 (.int 149 527),en P "__init__" 542 (.ref 239),en P "tick" 549 (.ref 246),en P "__static_attributes__" 560 (.ref 247)] 6 :: oE :: oF .none [(.int 151 0),(.int 4 0),(.ref 238),(.int 163 0),(.int 4 0),(.ref 245)] :: oC "SearchContext" "SearchContext" 519 149 0 0 229 false 230 .none .none .none 522 :: oP (.type "frame") [some (.ref 231),some (.ref 3),some (.ref 228),none,some (.str "chess.context" 515),none,some (.ref 0)] :: f7 233 (me 38 0) "__init__" "SearchContext.__init__" 529 151 8 ["self","game","table","killers","history","qdepth","is_exact","max_nodes"] .none "chess.context" 515 (f7 240 (me 38 1) "tick" "SearchContext.tick" 543 163 1 ["self"] .none "chess.context" 515 (oQ (.type "tuple") [(.str "game" 550),(.str "history" 551),(.str "is_exact" 552),(.str "killers" 553),(.str "lines" 554),(.str "made" 555),(.str "max_nodes" 556),(.str "nodes" 557),(.str "qdepth" 558),(.str "table" 559)] :: oD (.type "dict") [en P "__module__" 524 (.str "chess.context" 515),en P "__firstlineno__" 528 (.int 149 527),en P "__init__" 542 (.ref 239),en P "tick" 549 (.ref 246),en P "__static_attributes__" 560 (.ref 247),en P "__dict__" 562 (.ref 250),en P "__weakref__" 564 (.ref 251),en P "__doc__" 565 .none] 4 :: oK (.type "type") "SearchContext" [(.type "object")] [(.ref 249),(.type "object")] 248 [] [none,none,some (.str "SearchContext" 517),some (.str "SearchContext" 525),some (.builtin "object.__new__"),some (.bool true)] :: oF (.type "getset_descriptor") [(.str "__dict__" 561),(.ref 249),(.builtin "function.__dict__"),(.builtin "function.__dict__#set")] :: oF (.type "getset_descriptor") [(.str "__weakref__" 563),(.ref 249),(.builtin "ExceptionGroup.__weakref__"),.none] :: oF (.type "super") [(.ref 249),(.ref 249),(.ref 249)] :: oF (.type "builtin_function_or_method") [(.builtin "object.__init_subclass__"),(.ref 249)] :: f7 254 (st 39) "step_into" "step_into" 568 167 2 ["ctx","move"] .none "chess.context" 515 (f7 261 (st 40) "step_back" "step_back" 576 170 1 ["ctx"] .none "chess.context" 515 (f7 268 (st 41) "clear_line" "clear_line" 583 173 2 ["ctx","ply"] .none "chess.context" 515 (f7 275 (st 42) "set_line" "set_line" 591 177 3 ["ctx","ply","move"] .none "chess.context" 515 (f7 282 (st 44) "scale_down" "scale_down" 602 180 3 ["value","by","limit"] .none "chess.history" 600 (oE :: oF (.type "builtin_function_or_method") [(.builtin "type.__prepare__"),(.type "type")] :: oD (.type "dict") [en P "__module__" 618 (.str "chess.history" 600),en P "__qualname__" 620 (.str "History" 619),en P "__firstlineno__" 622 (.int 184 621),en P "__init__" 630 (.ref 302),en P "get" 639 (.ref 309),en P "update" 651 (.ref 316),en P "bonus" 659 (.ref 323),en P "age" 669 (.ref 330),en P "__static_attributes__" 672 (.ref 331)] 9 :: oE :: oF .none [(.int 186 0),(.int 4 0),(.ref 301),(.int 192 0),(.int 4 0),(.ref 308),(.int 195 0),(.int 4 0),(.ref 315),(.int 201 0),(.int 4 0),(.ref 322),(.int 204 0),(.int 4 0),(.ref 329)] :: oC "History" "History" 613 184 0 0 292 false 293 .none .none .none 616 :: oP (.type "frame") [some (.ref 294),some (.ref 3),some (.ref 291),none,some (.str "chess.history" 600),none,some (.ref 0)] :: f7 296 (me 45 0) "__init__" "History.__init__" 623 186 2 ["self","limit"] .none "chess.history" 600 (f7 303 (me 45 1) "get" "History.get" 631 192 3 ["self","side","move"] .none "chess.history" 600 (f7 310 (me 45 2) "update" "History.update" 640 195 4 ["self","side","move","bonus","at","old"] .none "chess.history" 600 (f7 317 (me 45 3) "bonus" "History.bonus" 652 201 2 ["self","depth"] .none "chess.history" 600 (f7 324 (me 45 4) "age" "History.age" 660 204 1 ["self","kept","at","half"] .none "chess.history" 600 (oQ (.type "tuple") [(.str "limit" 670),(.str "scores" 671)] :: oD (.type "dict") [en P "__module__" 618 (.str "chess.history" 600),en P "__firstlineno__" 622 (.int 184 621),en P "__init__" 630 (.ref 302),en P "get" 639 (.ref 309),en P "update" 651 (.ref 316),en P "bonus" 659 (.ref 323),en P "age" 669 (.ref 330),en P "__static_attributes__" 672 (.ref 331),en P "__dict__" 674 (.ref 334),en P "__weakref__" 676 (.ref 335),en P "__doc__" 677 .none] 4 :: oK (.type "type") "History" [(.type "object")] [(.ref 333),(.type "object")] 332 [] [none,none,some (.str "History" 611),some (.str "History" 619),some (.builtin "object.__new__"),some (.bool true)] :: oF (.type "getset_descriptor") [(.str "__dict__" 673),(.ref 333),(.builtin "function.__dict__"),(.builtin "function.__dict__#set")] :: oF (.type "getset_descriptor") [(.str "__weakref__" 675),(.ref 333),(.builtin "ExceptionGroup.__weakref__"),.none] :: oF (.type "super") [(.ref 333),(.ref 333),(.ref 333)] :: oF (.type "builtin_function_or_method") [(.builtin "object.__init_subclass__"),(.ref 333)] :: tl)))))))))))))
noncomputable def c4 (P : Params) (tl : List Obj) : List Obj :=
 oE :: oF (.type "builtin_function_or_method") [(.builtin "type.__prepare__"),(.type "type")] :: oD (.type "dict") [en P "__module__" 687 (.str "chess.history" 600),en P "__qualname__" 689 (.str "Killers" 688),en P "__firstlineno__" 691 (.int 211 690),en P "__init__" 699 (.ref 351),en P "add" 708 (.ref 358),en P "pair" 716 (.ref 365),en P "clear" 724 (.ref 372),en P "__static_attributes__" 728 (.ref 373)] 8 :: oE :: oF .none [(.int 213 0),(.int 4 0),(.ref 350),(.int 218 0),(.int 4 0),(.ref 357),(.int 223 0),(.int 4 0),(.ref 364),(.int 228 0),(.int 4 0),(.ref 371)] :: oC "Killers" "Killers" 682 211 0 0 341 false 342 .none .none .none 685 :: oP (.type "frame") [some (.ref 343),some (.ref 3),some (.ref 340),none,some (.str "chess.history" 600),none,some (.ref 0)] :: f7 345 (me 46 0) "__init__" "Killers.__init__" 692 213 2 ["self","plies"] .none "chess.history" 600 (f7 352 (me 46 1) "add" "Killers.add" 700 218 3 ["self","ply","move"] .none "chess.history" 600 (f7 359 (me 46 2) "pair" "Killers.pair" 709 223 2 ["self","ply"] .none "chess.history" 600 (f7 366 (me 46 3) "clear" "Killers.clear" 717 228 2 ["self","ply"] .none "chess.history" 600 (oQ (.type "tuple") [(.str "first" 725),(.str "plies" 726),(.str "second" 727)] :: oD (.type "dict") [en P "__module__" 687 (.str "chess.history" 600),en P "__firstlineno__" 691 (.int 211 690),en P "__init__" 699 (.ref 351),en P "add" 708 (.ref 358),en P "pair" 716 (.ref 365),en P "clear" 724 (.ref 372),en P "__static_attributes__" 728 (.ref 373),en P "__dict__" 730 (.ref 376),en P "__weakref__" 732 (.ref 377),en P "__doc__" 733 .none] 4 :: oK (.type "type") "Killers" [(.type "object")] [(.ref 375),(.type "object")] 374 [] [none,none,some (.str "Killers" 680),some (.str "Killers" 688),some (.builtin "object.__new__"),some (.bool true)] :: oF (.type "getset_descriptor") [(.str "__dict__" 729),(.ref 375),(.builtin "function.__dict__"),(.builtin "function.__dict__#set")] :: oF (.type "getset_descriptor") [(.str "__weakref__" 731),(.ref 375),(.builtin "ExceptionGroup.__weakref__"),.none] :: oF (.type "super") [(.ref 375),(.ref 375),(.ref 375)] :: oF (.type "builtin_function_or_method") [(.builtin "object.__init_subclass__"),(.ref 375)] :: f7 380 (st 47) "reward" "reward" 736 232 7 ["history","killers","side","ply","depth","best","tried","bonus","move"] .none "chess.history" 600 (f7 387 (st 54) "killer_pair" "killer_pair" 763 245 2 ["killers","ply"] .none "chess.picker" 751 (f7 394 (st 55) "past_score" "past_score" 771 249 3 ["history","side","move"] .none "chess.picker" 751 (oE :: oF (.type "builtin_function_or_method") [(.builtin "type.__prepare__"),(.type "type")] :: oD (.type "dict") [en P "__module__" 787 (.str "chess.picker" 751),en P "__qualname__" 789 (.str "Picker" 788),en P "__firstlineno__" 791 (.int 253 790),en P "__init__" 804 (.ref 414),en P "next" 811 (.ref 421),en P "fill" 817 (.ref 426),en P "fill_table" 824 (.ref 433),en P "fill_good" 835 (.ref 440),en P "fill_killers" 844 (.ref 447),en P "__static_attributes__" 854 (.ref 448)] 10 :: oE :: oF .none [(.int 255 0),(.int 4 0),(.ref 413),(.int 266 0),(.int 4 0),(.ref 420),(.int 274 0),(.int 4 0),(.ref 425),(.int 286 0),(.int 4 0),(.ref 432),(.int 292 0),(.int 4 0),(.ref 439),(.int 307 0),(.int 4 0),(.ref 446)] :: oC "Picker" "Picker" 782 253 0 0 404 false 405 .none .none .none 785 :: oP (.type "frame") [some (.ref 406),some (.ref 3),some (.ref 403),none,some (.str "chess.picker" 751),none,some (.ref 0)] :: f7 408 (me 56 0) "__init__" "Picker.__init__" 792 255 7 ["self","game","moves","table_move","killers","history","ply"] .none "chess.picker" 751 (f7 415 (me 56 1) "next" "Picker.next" 805 266 1 ["self"] .none "chess.picker" 751 (oE :: oN :: oX .none (me 56 2) "Picker.fill" 0 .none .none .none :: oC "fill" "Picker.fill" 812 274 2 3 422 true 423 .none .none (.ref 424) 815 :: oX (.type "function") (me 56 2) "Picker.fill" 3 .none (.str "chess.picker" 751) (.ref 425) :: f7 427 (me 56 3) "fill_table" "Picker.fill_table" 818 286 1 ["self"] .none "chess.picker" 751 (f7 434 (me 56 4) "fill_good" "Picker.fill_good" 825 292 1 ["self","good","quiet","move","gain"] .none "chess.picker" 751 (f7 441 (me 56 5) "fill_killers" "Picker.fill_killers" 836 307 1 ["self","found","move"] .none "chess.picker" 751 (oQ (.type "tuple") [(.str "game" 845),(.str "history" 846),(.str "killers" 847),(.str "left" 848),(.str "losing" 849),(.str "ply" 850),(.str "ready" 851),(.str "stage" 852),(.str "table_move" 853)] :: oD (.type "dict") [en P "__module__" 787 (.str "chess.picker" 751),en P "__firstlineno__" 791 (.int 253 790),en P "__init__" 804 (.ref 414),en P "next" 811 (.ref 421),en P "fill" 817 (.ref 426),en P "fill_table" 824 (.ref 433),en P "fill_good" 835 (.ref 440),en P "fill_killers" 844 (.ref 447),en P "__static_attributes__" 854 (.ref 448),en P "__dict__" 856 (.ref 451),en P "__weakref__" 858 (.ref 452),en P "__doc__" 859 .none] 4 :: oK (.type "type") "Picker" [(.type "object")] [(.ref 450),(.type "object")] 449 [] [none,none,some (.str "Picker" 780),some (.str "Picker" 788),some (.builtin "object.__new__"),some (.bool true)] :: oF (.type "getset_descriptor") [(.str "__dict__" 855),(.ref 450),(.builtin "function.__dict__"),(.builtin "function.__dict__#set")] :: oF (.type "getset_descriptor") [(.str "__weakref__" 857),(.ref 450),(.builtin "ExceptionGroup.__weakref__"),.none] :: oF (.type "super") [(.ref 450),(.ref 450),(.ref 450)] :: oF (.type "builtin_function_or_method") [(.builtin "object.__init_subclass__"),(.ref 450)] :: f7 455 (st 57) "take_best" "take_best" 862 314 1 ["scored","best","at"] .none "chess.picker" 751 (f7 462 (st 59) "quiesce" "quiesce" 873 321 5 ["ctx","alpha","beta","ply","qdepth","game","moves","best"] .none "chess.quiesce" 871 (tl))))))))))))))
noncomputable def c5 (P : Params) (tl : List Obj) : List Obj :=
 f7 469 (st 60) "quiesce_moves" "quiesce_moves" 887 337 7 ["ctx","moves","best","alpha","beta","ply","qdepth","picker","move","value"] .none "chess.quiesce" 871 (f7 476 (st 63) "search" "search" 907 353 6 ["ctx","alpha","beta","depth","ply","is_pv","game","low","high","key","table_move","value","moves"] .none "chess.pvs" 903 (f7 483 (st 64) "search_moves" "search_moves" 926 383 9 ["ctx","moves","table_move","key","alpha","beta","depth","ply","is_pv","game","side","picker","start","best","best_move","quiets","is_first","move","is_noisy","value"] .none "chess.pvs" 903 (f7 490 (st 65) "search_child" "search_child" 952 417 7 ["ctx","alpha","beta","depth","ply","is_pv","is_first","value"] .none "chess.pvs" 903 (f7 497 (st 66) "look_up" "look_up" 966 424 6 ["ctx","key","alpha","beta","depth","ply","found","value"] .none "chess.pvs" 903 (f7 504 (st 67) "keep_value" "keep_value" 980 434 8 ["ctx","key","move","best","start","beta","depth","ply","bound"] .none "chess.pvs" 903 (oE :: oF (.type "builtin_function_or_method") [(.builtin "type.__prepare__"),(.type "type")] :: oD (.type "dict") [en P "__module__" 1004 (.str "chess.treegame" 995),en P "__qualname__" 1006 (.str "TreeGame" 1005),en P "__firstlineno__" 1008 (.int 444 1007),en P "__init__" 1021 (.ref 524),en P "moves" 1028 (.ref 531),en P "noisy" 1034 (.ref 536),en P "make" 1043 (.ref 543),en P "undo" 1050 (.ref 550),en P "value" 1057 (.ref 557),en P "key" 1064 (.ref 564),en P "in_check" 1071 (.ref 571),en P "is_draw" 1078 (.ref 578),en P "is_noisy" 1086 (.ref 585),en P "gain" 1094 (.ref 592),en P "side" 1101 (.ref 599),en P "__static_attributes__" 1109 (.ref 600)] 16 :: oE :: oF .none [(.int 446 0),(.int 4 0),(.ref 523),(.int 455 0),(.int 4 0),(.ref 530),(.int 458 0),(.int 4 0),(.ref 535),(.int 461 0),(.int 4 0),(.ref 542),(.int 467 0),(.int 4 0),(.ref 549),(.int 472 0),(.int 4 0),(.ref 556),(.int 475 0),(.int 4 0),(.ref 563),(.int 478 0),(.int 4 0),(.ref 570),(.int 481 0),(.int 4 0),(.ref 577),(.int 484 0),(.int 4 0),(.ref 584),(.int 487 0),(.int 4 0),(.ref 591),(.int 490 0),(.int 4 0),(.ref 598)] :: oC "TreeGame" "TreeGame" 999 444 0 0 514 false 515 .none .none .none 1002 :: oP (.type "frame") [some (.ref 516),some (.ref 3),some (.ref 513),none,some (.str "chess.treegame" 995),none,some (.ref 0)] :: f7 518 (me 69 0) "__init__" "TreeGame.__init__" 1009 446 7 ["self","children","values","checks","draws","noisy","gains"] .none "chess.treegame" 995 (f7 525 (me 69 1) "moves" "TreeGame.moves" 1022 455 1 ["self"] .none "chess.treegame" 995 (oE :: oN :: oX .none (me 69 2) "TreeGame.noisy" 0 .none .none .none :: oC "noisy" "TreeGame.noisy" 1029 458 1 3 532 true 533 .none .none (.ref 534) 1032 :: oX (.type "function") (me 69 2) "TreeGame.noisy" 3 .none (.str "chess.treegame" 995) (.ref 535) :: f7 537 (me 69 3) "make" "TreeGame.make" 1035 461 2 ["self","move","kids"] .none "chess.treegame" 995 (f7 544 (me 69 4) "undo" "TreeGame.undo" 1044 467 1 ["self"] .none "chess.treegame" 995 (f7 551 (me 69 5) "value" "TreeGame.value" 1051 472 1 ["self"] .none "chess.treegame" 995 (f7 558 (me 69 6) "key" "TreeGame.key" 1058 475 1 ["self"] .none "chess.treegame" 995 (f7 565 (me 69 7) "in_check" "TreeGame.in_check" 1065 478 1 ["self"] .none "chess.treegame" 995 (f7 572 (me 69 8) "is_draw" "TreeGame.is_draw" 1072 481 1 ["self"] .none "chess.treegame" 995 (f7 579 (me 69 9) "is_noisy" "TreeGame.is_noisy" 1079 484 2 ["self","move"] .none "chess.treegame" 995 (f7 586 (me 69 10) "gain" "TreeGame.gain" 1087 487 2 ["self","move"] .none "chess.treegame" 995 (f7 593 (me 69 11) "side" "TreeGame.side" 1095 490 1 ["self"] .none "chess.treegame" 995 (oQ (.type "tuple") [(.str "checks" 1102),(.str "children" 1103),(.str "draws" 1104),(.str "gain_rows" 1105),(.str "noisy_rows" 1106),(.str "path" 1107),(.str "values" 1108)] :: oD (.type "dict") [en P "__module__" 1004 (.str "chess.treegame" 995),en P "__firstlineno__" 1008 (.int 444 1007),en P "__init__" 1021 (.ref 524),en P "moves" 1028 (.ref 531),en P "noisy" 1034 (.ref 536),en P "make" 1043 (.ref 543),en P "undo" 1050 (.ref 550),en P "value" 1057 (.ref 557),en P "key" 1064 (.ref 564),en P "in_check" 1071 (.ref 571),en P "is_draw" 1078 (.ref 578),en P "is_noisy" 1086 (.ref 585),en P "gain" 1094 (.ref 592),en P "side" 1101 (.ref 599),en P "__static_attributes__" 1109 (.ref 600),en P "__dict__" 1111 (.ref 603),en P "__weakref__" 1113 (.ref 604),en P "__doc__" 1114 .none] 4 :: oK (.type "type") "TreeGame" [(.type "object")] [(.ref 602),(.type "object")] 601 [] [none,none,some (.str "TreeGame" 997),some (.str "TreeGame" 1005),some (.builtin "object.__new__"),some (.bool true)] :: oF (.type "getset_descriptor") [(.str "__dict__" 1110),(.ref 602),(.builtin "function.__dict__"),(.builtin "function.__dict__#set")] :: oF (.type "getset_descriptor") [(.str "__weakref__" 1112),(.ref 602),(.builtin "ExceptionGroup.__weakref__"),.none] :: oF (.type "super") [(.ref 602),(.ref 602),(.ref 602)] :: oF (.type "builtin_function_or_method") [(.builtin "object.__init_subclass__"),(.ref 602)] :: f7 607 (st 72) "_law_pull" "_law_pull" 1121 494 2 ["reel","many"] .none "law_pb0078_01" 1117 (f7 614 (st 73) "_law_ways" "_law_ways" 1129 500 2 ["reel","size","ways","left","place","row","turn"] .none "law_pb0078_01" 1117 (oE :: oN :: oX .none (st 74) "_law_world" 0 .none .none .none :: oC "_law_world" "_law_world" 1142 511 1 3 621 true 622 .none .none (.ref 623) 1145 :: oX (.type "function") (st 74) "_law_world" 3 .none (.str "law_pb0078_01" 1117) (.ref 624) :: tl)))))))))))))))))))
noncomputable def c6 (tl : List Obj) : List Obj :=
 f7 626 (st 75) "_law_raised" "_law_raised" 1148 523 1 ["merit"] .none "law_pb0078_01" 1117 (f7 633 (st 76) "_law_quiet_rows" "_law_quiet_rows" 1155 528 2 ["world","most","size","rows","plies","row","place"] .none "law_pb0078_01" 1117 (oE :: oN :: oX .none (st 77) "_law_quiet" 0 .none .none .none :: oC "_law_quiet" "_law_quiet" 1168 537 4 3 640 true 641 .none .none (.ref 642) 1171 :: oX (.type "function") (st 77) "_law_quiet" 3 .none (.str "law_pb0078_01" 1117) (.ref 643) :: oE :: oN :: oX .none (st 78) "_law_deep_rows" 0 .none .none .none :: oC "_law_deep_rows" "_law_deep_rows" 1174 550 3 3 645 true 646 .none .none (.ref 647) 1177 :: oX (.type "function") (st 78) "_law_deep_rows" 3 .none (.str "law_pb0078_01" 1117) (.ref 648) :: f7 650 (st 79) "_law_window" "_law_window" 1180 564 2 ["reel","merit","sort","low"] .none "law_pb0078_01" 1117 (f7 657 (st 80) "_law_is_told_well" "_law_is_told_well" 1190 575 4 ["told","merit","low","high"] .none "law_pb0078_01" 1117 (f7 664 (st 81) "_law_leads" "_law_leads" 1200 579 5 ["world","deep","trail","depth","told","place","move","merit"] .none "law_pb0078_01" 1117 (f7 671 (st 82) "_law_rows_are_true" "_law_rows_are_true" 1214 591 3 ["world","deep","table","place","row","move","told","depth","bound","merit"] .none "law_pb0078_01" 1117 (f7 678 (st 83) "law" "law" 1230 605 1 ["script","reel","world","plies","deep","game","table","has_past","killers","ctx","turn","depth","low","high","is_main","told"] .none "law_pb0078_01" 1117 (tl)))))))
noncomputable def H0 (P : Params) : List Obj := boot_o_0 P :: boot_o_1 P :: boot_o_2 P :: oD (.type "dict") (en P "__name__" 165 (.str "__main__" 164) :: (g3 P).take 8) 9 :: boot_o_4 P :: boot_o_5 P :: boot_o_6 P :: boot_o_7 P :: boot_o_8 P :: boot_o_9 P :: boot_o_10 P :: oE :: oF .none (g12.take 0) :: oC "<module>" "<module>" 182 1 0 0 11 false 12 .none .none .none 185 :: oP (.type "frame") [some (.ref 13),some (.ref 3),some (.ref 3),none,some (.str "__main__" 164),none,some (.ref 0)] :: []
noncomputable def H1 (P : Params) : List Obj := boot_o_0 P :: boot_o_1 P :: oD .none [en P "type.__subclasses__.Exception.0" 265 (.int 66 0),en P "type.__subclasses__.Exception.n" 266 (.int 1 0)] 2 :: oD (.type "dict") (en P "__name__" 165 (.str "chess.errors" 238) :: (g3 P).take 22) 23 :: boot_o_4 P :: boot_o_5 P :: boot_o_6 P :: boot_o_7 P :: boot_o_8 P :: boot_o_9 P :: boot_o_10 P :: oE :: oF .none (g12.take 24) :: oC "<module>" "<module>" 182 1 0 0 11 false 12 .none .none .none 185 :: oP (.type "frame") [some (.ref 13),some (.ref 3),some (.ref 3),none,some (.str "__main__" 164),none,some (.ref 0)] :: c1 P (oK (.type "type") "ChessError" [(.type "Exception")] [(.ref 66),(.type "Exception"),(.type "BaseException"),(.type "object")] 65 [(.ref 79),(.ref 99)] [some (.ref 50),none,some (.str "ChessError" 240),some (.str "ChessError" 248),some (.builtin "Exception.__new__"),some (.bool true)]) ([])
noncomputable def H2 (P : Params) : List Obj := boot_o_0 P :: boot_o_1 P :: oD .none [en P "type.__subclasses__.Exception.0" 265 (.int 66 0),en P "type.__subclasses__.Exception.n" 266 (.int 1 0)] 2 :: oD (.type "dict") (en P "__name__" 165 (.str "chess.alphabeta" 500) :: (g3 P).take 40) 41 :: boot_o_4 P :: boot_o_5 P :: boot_o_6 P :: boot_o_7 P :: boot_o_8 P :: boot_o_9 P :: boot_o_10 P :: oE :: oF .none (g12.take 51) :: oC "<module>" "<module>" 182 1 0 0 11 false 12 .none .none .none 185 :: oP (.type "frame") [some (.ref 13),some (.ref 3),some (.ref 3),none,some (.str "__main__" 164),none,some (.ref 0)] :: c1 P (oK (.type "type") "ChessError" [(.type "Exception")] [(.ref 66),(.type "Exception"),(.type "BaseException"),(.type "object")] 65 [(.ref 79),(.ref 99),(.ref 111)] [some (.ref 50),none,some (.str "ChessError" 240),some (.str "ChessError" 248),some (.builtin "Exception.__new__"),some (.bool true)]) (c2 P ([]))
noncomputable def H3 (P : Params) : List Obj := boot_o_0 P :: boot_o_1 P :: oD .none [en P "type.__subclasses__.Exception.0" 265 (.int 66 0),en P "type.__subclasses__.Exception.n" 266 (.int 1 0)] 2 :: oD (.type "dict") (en P "__name__" 165 (.str "chess.history" 600) :: (g3 P).take 48) 49 :: boot_o_4 P :: boot_o_5 P :: boot_o_6 P :: boot_o_7 P :: boot_o_8 P :: boot_o_9 P :: boot_o_10 P :: oE :: oF .none (g12.take 75) :: oC "<module>" "<module>" 182 1 0 0 11 false 12 .none .none .none 185 :: oP (.type "frame") [some (.ref 13),some (.ref 3),some (.ref 3),none,some (.str "__main__" 164),none,some (.ref 0)] :: c1 P (oK (.type "type") "ChessError" [(.type "Exception")] [(.ref 66),(.type "Exception"),(.type "BaseException"),(.type "object")] 65 [(.ref 79),(.ref 99),(.ref 111)] [some (.ref 50),none,some (.str "ChessError" 240),some (.str "ChessError" 248),some (.builtin "Exception.__new__"),some (.bool true)]) (c2 P (c3 P ([])))
noncomputable def H4 (P : Params) : List Obj := boot_o_0 P :: boot_o_1 P :: oD .none [en P "type.__subclasses__.Exception.0" 265 (.int 66 0),en P "type.__subclasses__.Exception.n" 266 (.int 1 0)] 2 :: oD (.type "dict") (en P "__name__" 165 (.str "chess.quiesce" 871) :: (g3 P).take 60) 61 :: boot_o_4 P :: boot_o_5 P :: boot_o_6 P :: boot_o_7 P :: boot_o_8 P :: boot_o_9 P :: boot_o_10 P :: oE :: oF .none (g12.take 96) :: oC "<module>" "<module>" 182 1 0 0 11 false 12 .none .none .none 185 :: oP (.type "frame") [some (.ref 13),some (.ref 3),some (.ref 3),none,some (.str "__main__" 164),none,some (.ref 0)] :: c1 P (oK (.type "type") "ChessError" [(.type "Exception")] [(.ref 66),(.type "Exception"),(.type "BaseException"),(.type "object")] 65 [(.ref 79),(.ref 99),(.ref 111)] [some (.ref 50),none,some (.str "ChessError" 240),some (.str "ChessError" 248),some (.builtin "Exception.__new__"),some (.bool true)]) (c2 P (c3 P (c4 P ([]))))
noncomputable def H5 (P : Params) : List Obj := boot_o_0 P :: boot_o_1 P :: oD .none [en P "type.__subclasses__.Exception.0" 265 (.int 66 0),en P "type.__subclasses__.Exception.n" 266 (.int 1 0)] 2 :: oD (.type "dict") (en P "__name__" 165 (.str "law_pb0078_01" 1117) :: (g3 P).take 72) 73 :: boot_o_4 P :: boot_o_5 P :: boot_o_6 P :: boot_o_7 P :: boot_o_8 P :: boot_o_9 P :: boot_o_10 P :: oE :: oF .none (g12.take 126) :: oC "<module>" "<module>" 182 1 0 0 11 false 12 .none .none .none 185 :: oP (.type "frame") [some (.ref 13),some (.ref 3),some (.ref 3),none,some (.str "__main__" 164),none,some (.ref 0)] :: c1 P (oK (.type "type") "ChessError" [(.type "Exception")] [(.ref 66),(.type "Exception"),(.type "BaseException"),(.type "object")] 65 [(.ref 79),(.ref 99),(.ref 111)] [some (.ref 50),none,some (.str "ChessError" 240),some (.str "ChessError" 248),some (.builtin "Exception.__new__"),some (.bool true)]) (c2 P (c3 P (c4 P (c5 P ([])))))
noncomputable def H6 (P : Params) : List Obj := boot_o_0 P :: boot_o_1 P :: oD .none [en P "type.__subclasses__.Exception.0" 265 (.int 66 0),en P "type.__subclasses__.Exception.n" 266 (.int 1 0)] 2 :: oD (.type "dict") (en P "__name__" 165 (.str "law_pb0078_01" 1117) :: (g3 P).take 81) 82 :: boot_o_4 P :: boot_o_5 P :: boot_o_6 P :: boot_o_7 P :: boot_o_8 P :: boot_o_9 P :: boot_o_10 P :: oE :: oF .none (g12.take 153) :: oC "<module>" "<module>" 182 1 0 0 11 false 12 .none .none .none 185 :: oP (.type "frame") [some (.ref 13),some (.ref 3),some (.ref 3),none,some (.str "__main__" 164),none,some (.ref 0)] :: c1 P (oK (.type "type") "ChessError" [(.type "Exception")] [(.ref 66),(.type "Exception"),(.type "BaseException"),(.type "object")] 65 [(.ref 79),(.ref 99),(.ref 111)] [some (.ref 50),none,some (.str "ChessError" 240),some (.str "ChessError" 248),some (.builtin "Exception.__new__"),some (.bool true)]) (c2 P (c3 P (c4 P (c5 P (c6 ([]))))))
noncomputable def ev1 : List Obj → List Obj
 | x :: _ :: r => x :: ev1 r
 | l => l
noncomputable def od1 : List Obj → List Obj
 | _ :: x :: r => x :: od1 r
 | _ => []
noncomputable def tr : Nat → List Obj → BT
 | n + 1,x :: r => .node x (tr n (ev1 r)) (tr n (od1 r))
 | _,_ => .nil
noncomputable abbrev pw : Program := PySem.Challenge.pw_pb0078_01
noncomputable abbrev RS (H : Params → Heap) (k : Nat) (w : World) (os : OsState) : Shared := ⟨H w.params,.mk [],boot_drawn,k,os⟩
noncomputable abbrev RT (H : Params → List Obj) (n k : Nat) (w : World) (os : OsState) : SharedT := ⟨tr 11 (H w.params),n,{},.mk [],boot_drawn,k,os⟩
noncomputable abbrev ann : Option Value := some (.ref 6)
noncomputable def ev : Env := { scope := pw.main.scope,locals := mainNs,globals := mainNs,cells := [],code := .ref 13,frame := some 14 }
noncomputable abbrev bE : List Stmt := behindTheImports pw
noncomputable abbrev cE : Code := .body bE ev
noncomputable abbrev q0 : Pos := ⟨0,0,0,0⟩
noncomputable abbrev fr : List PySem.Frame := [topFrame q0]
noncomputable def Hi (P : Params) : Heap := ⟨.mk (H0 P),{}⟩
noncomputable def Hf (P : Params) : Heap := ⟨.mk (H6 P),{}⟩
noncomputable def b1 : List Stmt := [st 0,st 1,st 2,st 3,st 4,st 5,st 6,st 7,st 8,st 9,st 10,st 11,st 12,st 13,st 14,st 15]
theorem pc1 (w : World) (os : OsState) : segRunT treeTable pw w 11 ann 1 916 (RT H0 15 187 w os) (piecesOf b1 ev cE ⟨0,0,0,0⟩ fr) = some (.next,(RT H1 102 311 w os),cE,⟨35,0,39,26⟩) := by kernel_rfl
noncomputable def b2 : List Stmt := [st 16,st 17,st 18,st 19,st 20,st 21,st 22,st 23,st 24,st 25,st 26,st 27,st 28,st 29,st 30,st 31,st 32,st 33,st 34,st 35]
theorem pc2 (w : World) (os : OsState) : segRunT treeTable pw w 11 ann 1 937 (RT H1 102 311 w os) (piecesOf b2 ev cE ⟨35,0,39,26⟩ fr) = some (.next,(RT H2 219 502 w os),cE,⟨135,0,135,8⟩) := by kernel_rfl
noncomputable def b3 : List Stmt := [st 36,st 37,st 38,st 39,st 40,st 41,st 42,st 43,st 44,st 45]
theorem pc3 (w : World) (os : OsState) : segRunT treeTable pw w 11 ann 1 831 (RT H2 219 502 w os) (piecesOf b3 ev cE ⟨135,0,135,8⟩ fr) = some (.next,(RT H3 338 680 w os),cE,⟨184,0,210,26⟩) := by kernel_rfl
noncomputable def b4 : List Stmt := [st 46,st 47,st 48,st 49,st 50,st 51,st 52,st 53,st 54,st 55,st 56,st 57,st 58,st 59]
theorem pc4 (w : World) (os : OsState) : segRunT treeTable pw w 11 ann 1 943 (RT H3 338 680 w os) (piecesOf b4 ev cE ⟨184,0,210,26⟩ fr) = some (.next,(RT H4 469 887 w os),cE,⟨321,0,336,86⟩) := by kernel_rfl
noncomputable def b5 : List Stmt := [st 60,st 61,st 62,st 63,st 64,st 65,st 66,st 67,st 68,st 69,st 70,st 71,st 72,st 73,st 74]
theorem pc5 (w : World) (os : OsState) : segRunT treeTable pw w 11 ann 1 948 (RT H4 469 887 w os) (piecesOf b5 ev cE ⟨321,0,336,86⟩ fr) = some (.next,(RT H5 626 1148 w os),cE,⟨511,0,522,16⟩) := by kernel_rfl
noncomputable def b6 : List Stmt := [st 75,st 76,st 77,st 78,st 79,st 80,st 81,st 82,st 83]
theorem pc6 (w : World) (os : OsState) : segRunT treeTable pw w 11 ann 1 299 (RT H5 626 1148 w os) (piecesOf b6 ev cE ⟨511,0,522,16⟩ fr) = some (.next,(RT H6 685 1252 w os),cE,⟨605,0,628,15⟩) := by kernel_rfl
theorem pre (w : World) (os : OsState) : topGo treeTable pw w 11 ann 12 (RS boot_heap boot_toks w os) (topStub pw) = some (RS Hi 187 w os,⟨denote treeTable cE,cE,⟨0,0,0,0⟩,fr⟩) := by kernel_rfl
theorem blk (w : World) (os : OsState) : segRun treeTable pw w 11 ann 1 1 (RS Hi 187 w os) (blockOf bE ev cE ⟨0,0,0,0⟩ fr) = some (.next,(RT H0 15 187 w os).abs,cE,⟨0,0,0,0⟩) := by kernel_rfl
noncomputable abbrev Sf (w : World) (os : OsState) : Shared := RS Hf 1252 w os
theorem r6 (w : World) (os : OsState) : topRun treeTable pw w 11 ann 2 (RT H6 685 1252 w os).abs (restOf [] ev cE ⟨605,0,628,15⟩ fr) = some (Sf w os) := by kernel_rfl
theorem r5 (w : World) (os : OsState) : topRun treeTable pw w 11 ann (299 + 2) (RT H5 626 1148 w os).abs (restOf (b6 ++ []) ev cE ⟨511,0,522,16⟩ fr) = some (Sf w os) := @piece_app treeTable pw w 11 ann ev q0 299 2 (RT H5 626 1148 w os).abs (RT H6 685 1252 w os).abs (Sf w os) b6 [] cE ⟨511,0,522,16⟩ ⟨605,0,628,15⟩ (segRun_of (pc6 w os)) (r6 w os)
theorem r4 (w : World) (os : OsState) : topRun treeTable pw w 11 ann (948 + (299 + 2)) (RT H4 469 887 w os).abs (restOf (b5 ++ (b6 ++ [])) ev cE ⟨321,0,336,86⟩ fr) = some (Sf w os) := @piece_app treeTable pw w 11 ann ev q0 948 (299 + 2) (RT H4 469 887 w os).abs (RT H5 626 1148 w os).abs (Sf w os) b5 (b6 ++ []) cE ⟨321,0,336,86⟩ ⟨511,0,522,16⟩ (segRun_of (pc5 w os)) (r5 w os)
theorem r3 (w : World) (os : OsState) : topRun treeTable pw w 11 ann (943 + (948 + (299 + 2))) (RT H3 338 680 w os).abs (restOf (b4 ++ (b5 ++ (b6 ++ []))) ev cE ⟨184,0,210,26⟩ fr) = some (Sf w os) := @piece_app treeTable pw w 11 ann ev q0 943 (948 + (299 + 2)) (RT H3 338 680 w os).abs (RT H4 469 887 w os).abs (Sf w os) b4 (b5 ++ (b6 ++ [])) cE ⟨184,0,210,26⟩ ⟨321,0,336,86⟩ (segRun_of (pc4 w os)) (r4 w os)
theorem r2 (w : World) (os : OsState) : topRun treeTable pw w 11 ann (831 + (943 + (948 + (299 + 2)))) (RT H2 219 502 w os).abs (restOf (b3 ++ (b4 ++ (b5 ++ (b6 ++ [])))) ev cE ⟨135,0,135,8⟩ fr) = some (Sf w os) := @piece_app treeTable pw w 11 ann ev q0 831 (943 + (948 + (299 + 2))) (RT H2 219 502 w os).abs (RT H3 338 680 w os).abs (Sf w os) b3 (b4 ++ (b5 ++ (b6 ++ []))) cE ⟨135,0,135,8⟩ ⟨184,0,210,26⟩ (segRun_of (pc3 w os)) (r3 w os)
theorem r1 (w : World) (os : OsState) : topRun treeTable pw w 11 ann (937 + (831 + (943 + (948 + (299 + 2))))) (RT H1 102 311 w os).abs (restOf (b2 ++ (b3 ++ (b4 ++ (b5 ++ (b6 ++ []))))) ev cE ⟨35,0,39,26⟩ fr) = some (Sf w os) := @piece_app treeTable pw w 11 ann ev q0 937 (831 + (943 + (948 + (299 + 2)))) (RT H1 102 311 w os).abs (RT H2 219 502 w os).abs (Sf w os) b2 (b3 ++ (b4 ++ (b5 ++ (b6 ++ [])))) cE ⟨35,0,39,26⟩ ⟨135,0,135,8⟩ (segRun_of (pc2 w os)) (r2 w os)
theorem r0 (w : World) (os : OsState) : topRun treeTable pw w 11 ann (916 + (937 + (831 + (943 + (948 + (299 + 2)))))) (RT H0 15 187 w os).abs (restOf (b1 ++ (b2 ++ (b3 ++ (b4 ++ (b5 ++ (b6 ++ [])))))) ev cE ⟨0,0,0,0⟩ fr) = some (Sf w os) := @piece_app treeTable pw w 11 ann ev q0 916 (937 + (831 + (943 + (948 + (299 + 2))))) (RT H0 15 187 w os).abs (RT H1 102 311 w os).abs (Sf w os) b1 (b2 ++ (b3 ++ (b4 ++ (b5 ++ (b6 ++ []))))) cE ⟨0,0,0,0⟩ ⟨35,0,39,26⟩ (segRun_of (pc1 w os)) (r1 w os)
theorem body_eq : bE = (b1 ++ (b2 ++ (b3 ++ (b4 ++ (b5 ++ (b6 ++ [])))))) := by kernel_rfl
theorem run0 (w : World) (os : OsState) : topRun treeTable pw w 11 ann (916 + (937 + (831 + (943 + (948 + (299 + 2)))))) (RT H0 15 187 w os).abs (restOf bE ev cE ⟨0,0,0,0⟩ fr) = some (Sf w os) := (congrArg (fun b => topRun treeTable pw w 11 ann (916 + (937 + (831 + (943 + (948 + (299 + 2)))))) (RT H0 15 187 w os).abs (restOf b ev cE ⟨0,0,0,0⟩ fr)) body_eq).trans (r0 w os)
theorem run (w : World) (os : OsState) : topRun treeTable pw w 11 ann (12 + (1 + (916 + (937 + (831 + (943 + (948 + (299 + 2)))))))) (RS boot_heap boot_toks w os) (topStub pw) = some (Sf w os) :=
 @go_top treeTable pw w 11 ann 12 (1 + (916 + (937 + (831 + (943 + (948 + (299 + 2))))))) (RS boot_heap boot_toks w os) (RS Hi 187 w os) (Sf w os) (topStub pw) ⟨denote treeTable cE,cE,⟨0,0,0,0⟩,fr⟩ (pre w os) (@piece_block treeTable pw w 11 ann ev q0 1 (916 + (937 + (831 + (943 + (948 + (299 + 2)))))) (RS Hi 187 w os) (RT H0 15 187 w os).abs (Sf w os) bE cE ⟨0,0,0,0⟩ ⟨0,0,0,0⟩ (blk w os) (run0 w os))
noncomputable def ka : List Nat := [0,1,2,3,20,21,27,28,34,35,41,42,48,49,52,55,62,63,65,66,72,75,78,79,84,87,95,96,98,99,104,107,110,111,119,120,126,127,133,134,140,141,147,148,154,155,161,162,165,168,175,176,182,183,189,190,196,197,203,204,210,211,213,214,224,225,228,231,238,239,245,246,248,249,259,260,266,267,273,274,280,281,287,288,291,294,301,302,308,309,315,316,322,323,329,330,332,333,340,343,350,351,357,358,364,365,371,372,374,375,385,386,392,393,399,400,403,406,413,414,420,421,425,426,432,433,439,440,446,447,449,450,460,461,467,468,474,475,481,482,488,489,495,496,502,503,509,510,513,516,523,524,530,531,535,536,542,543,549,550,556,557,563,564,570,571,577,578,584,585,591,592,598,599,601,602,612,613,619,620,624,625,631,632,638,639,643,644,648,649,655,656,662,663,669,670,676,677,683,684]
noncomputable def lo : List Str := (["_wall","NO_MOVE","MATE","DRAW","INFINITE","MAX_PLY","MATE_LEAST","mated_in","mate_in","to_table","from_table","ChessError","BadMove","SearchStopped","BadTable","BOUND_NONE","BOUND_UPPER","BOUND_LOWER","BOUND_EXACT","AGES","DEPTH_LEAST","DEPTH_MOST","VALUE_MOST","KEY_AT","pack_entry","unpack_entry","find_slot","worth","victim_slot","pushes_out","with_move","TransTable","cutoff","SearchContext","step_into","step_back","clear_line","set_line","scale_down","History","Killers","reward","TABLE_STAGE","GOOD_STAGE","KILLER_STAGE","QUIET_STAGE","END_STAGE","killer_pair","past_score","Picker","take_best","quiesce","quiesce_moves","IID_DEPTH","search","search_moves","search_child","look_up","keep_value","TreeGame","_law_mate","_law_pull","_law_ways","_law_world","_law_raised","_law_quiet_rows","_law_quiet","_law_deep_rows","_law_window","_law_is_told_well","_law_leads","_law_rows_are_true"] : List String).map Str.ofString
noncomputable abbrev rw' : OpenLaw := PySem.Challenge.rw_pb0078_01
theorem sd1 : (["vars","dir","locals"] : List Str).filter (readsOut rw'.row.prog rw'.row.prog.main.body) = [] := by kernel_rfl
theorem sd2 : namesResolve rw'.row.prog = true := by kernel_rfl
theorem sd3 : noRoadLSs { strict := !(importedModules rw'.row.prog.main.body).all cThrough.contains,foot := none,bare := [] } rw'.row.prog.main.body = true := by kernel_rfl
theorem sd4 : (namesMeet rw'.row.prog rw'.row.prog.main.body fun _ n => attrL n) = true := by kernel_rfl
theorem sd5 : looksOpen rw'.row.prog = true := by unfold looksOpen; rw [sd1,sd2,sd3,sd4]; kernel_rfl
theorem sd6 : rw'.row.wellSaid = true := by unfold OpenRow.wellSaid OpenRow.partSaid; rw [sd5]; kernel_rfl
theorem sd7 : namesMeet rw'.prog rw'.above (fun _ n => !rw'.own.contains n) = true := by kernel_rfl
theorem sd8 : (rw'.bound'.all fun n => !builtinNamed n || rw'.about == [n] || !rw'.reads n) = true := by kernel_rfl
theorem said : rw'.wellSaid = true := by unfold OpenLaw.wellSaid; rw [sd6,sd7,sd8]; kernel_rfl
end Hd
set_option backward.match.sparseCases false
theorem aE2 {p q X : Prop} (f : p → q → X) (h : p ∧ q) : X := f h.1 h.2
theorem aE3 {p0 p1 p2 X : Prop} (f : p0 → p1 → p2 → X) (h : p0 ∧ p1 ∧ p2) : X := aE2 (f h.1) h.2
theorem aE4 {p0 p1 p2 p3 X : Prop} (f : p0 → p1 → p2 → p3 → X) (h : p0 ∧ p1 ∧ p2 ∧ p3) : X := aE3 (f h.1) h.2
theorem aE5 {p0 p1 p2 p3 p4 X : Prop} (f : p0 → p1 → p2 → p3 → p4 → X) (h : p0 ∧ p1 ∧ p2 ∧ p3 ∧ p4) : X := aE4 (f h.1) h.2
theorem aE6 {p0 p1 p2 p3 p4 p5 X : Prop} (f : p0 → p1 → p2 → p3 → p4 → p5 → X) (h : p0 ∧ p1 ∧ p2 ∧ p3 ∧ p4 ∧ p5) : X := aE5 (f h.1) h.2
theorem aE7 {p0 p1 p2 p3 p4 p5 p6 X : Prop} (f : p0 → p1 → p2 → p3 → p4 → p5 → p6 → X) (h : p0 ∧ p1 ∧ p2 ∧ p3 ∧ p4 ∧ p5 ∧ p6) : X := aE6 (f h.1) h.2
theorem aE8 {p0 p1 p2 p3 p4 p5 p6 p7 X : Prop} (f : p0 → p1 → p2 → p3 → p4 → p5 → p6 → p7 → X) (h : p0 ∧ p1 ∧ p2 ∧ p3 ∧ p4 ∧ p5 ∧ p6 ∧ p7) : X := aE7 (f h.1) h.2
theorem aE9 {p0 p1 p2 p3 p4 p5 p6 p7 p8 X : Prop} (f : p0 → p1 → p2 → p3 → p4 → p5 → p6 → p7 → p8 → X) (h : p0 ∧ p1 ∧ p2 ∧ p3 ∧ p4 ∧ p5 ∧ p6 ∧ p7 ∧ p8) : X := aE8 (f h.1) h.2
theorem aE10 {p0 p1 p2 p3 p4 p5 p6 p7 p8 p9 X : Prop} (f : p0 → p1 → p2 → p3 → p4 → p5 → p6 → p7 → p8 → p9 → X) (h : p0 ∧ p1 ∧ p2 ∧ p3 ∧ p4 ∧ p5 ∧ p6 ∧ p7 ∧ p8 ∧ p9) : X := aE9 (f h.1) h.2
theorem aE11 {p0 p1 p2 p3 p4 p5 p6 p7 p8 p9 p10 X : Prop} (f : p0 → p1 → p2 → p3 → p4 → p5 → p6 → p7 → p8 → p9 → p10 → X) (h : p0 ∧ p1 ∧ p2 ∧ p3 ∧ p4 ∧ p5 ∧ p6 ∧ p7 ∧ p8 ∧ p9 ∧ p10) : X := aE10 (f h.1) h.2
theorem aE12 {p0 p1 p2 p3 p4 p5 p6 p7 p8 p9 p10 p11 X : Prop} (f : p0 → p1 → p2 → p3 → p4 → p5 → p6 → p7 → p8 → p9 → p10 → p11 → X) (h : p0 ∧ p1 ∧ p2 ∧ p3 ∧ p4 ∧ p5 ∧ p6 ∧ p7 ∧ p8 ∧ p9 ∧ p10 ∧ p11) : X := aE11 (f h.1) h.2
theorem aE13 {p0 p1 p2 p3 p4 p5 p6 p7 p8 p9 p10 p11 p12 X : Prop} (f : p0 → p1 → p2 → p3 → p4 → p5 → p6 → p7 → p8 → p9 → p10 → p11 → p12 → X) (h : p0 ∧ p1 ∧ p2 ∧ p3 ∧ p4 ∧ p5 ∧ p6 ∧ p7 ∧ p8 ∧ p9 ∧ p10 ∧ p11 ∧ p12) : X := aE12 (f h.1) h.2
theorem aE14 {p0 p1 p2 p3 p4 p5 p6 p7 p8 p9 p10 p11 p12 p13 X : Prop} (f : p0 → p1 → p2 → p3 → p4 → p5 → p6 → p7 → p8 → p9 → p10 → p11 → p12 → p13 → X) (h : p0 ∧ p1 ∧ p2 ∧ p3 ∧ p4 ∧ p5 ∧ p6 ∧ p7 ∧ p8 ∧ p9 ∧ p10 ∧ p11 ∧ p12 ∧ p13) : X := aE13 (f h.1) h.2
theorem aE15 {p0 p1 p2 p3 p4 p5 p6 p7 p8 p9 p10 p11 p12 p13 p14 X : Prop} (f : p0 → p1 → p2 → p3 → p4 → p5 → p6 → p7 → p8 → p9 → p10 → p11 → p12 → p13 → p14 → X) (h : p0 ∧ p1 ∧ p2 ∧ p3 ∧ p4 ∧ p5 ∧ p6 ∧ p7 ∧ p8 ∧ p9 ∧ p10 ∧ p11 ∧ p12 ∧ p13 ∧ p14) : X := aE14 (f h.1) h.2
theorem xE1 {α : Sort _} {p : α → Prop} {X : Prop} (f : ∀ x, p x → X) (h : ∃ x, p x) : X := Exists.elim h f
theorem xE2 {α0 : Sort _} {α1 : Sort _} {p : α0 → α1 → Prop} {X : Prop} (f : ∀ x0 x1, p x0 x1 → X) (h : ∃ x0 x1, p x0 x1) : X := Exists.elim h fun x h => xE1 (f x) h
theorem xE3 {α0 : Sort _} {α1 : Sort _} {α2 : Sort _} {p : α0 → α1 → α2 → Prop} {X : Prop} (f : ∀ x0 x1 x2, p x0 x1 x2 → X) (h : ∃ x0 x1 x2, p x0 x1 x2) : X := Exists.elim h fun x h => xE2 (f x) h
theorem xE4 {α0 : Sort _} {α1 : Sort _} {α2 : Sort _} {α3 : Sort _} {p : α0 → α1 → α2 → α3 → Prop} {X : Prop} (f : ∀ x0 x1 x2 x3, p x0 x1 x2 x3 → X) (h : ∃ x0 x1 x2 x3, p x0 x1 x2 x3) : X := Exists.elim h fun x h => xE3 (f x) h
theorem xE5 {α0 : Sort _} {α1 : Sort _} {α2 : Sort _} {α3 : Sort _} {α4 : Sort _} {p : α0 → α1 → α2 → α3 → α4 → Prop} {X : Prop} (f : ∀ x0 x1 x2 x3 x4, p x0 x1 x2 x3 x4 → X) (h : ∃ x0 x1 x2 x3 x4, p x0 x1 x2 x3 x4) : X := Exists.elim h fun x h => xE4 (f x) h
theorem xE6 {α0 : Sort _} {α1 : Sort _} {α2 : Sort _} {α3 : Sort _} {α4 : Sort _} {α5 : Sort _} {p : α0 → α1 → α2 → α3 → α4 → α5 → Prop} {X : Prop} (f : ∀ x0 x1 x2 x3 x4 x5, p x0 x1 x2 x3 x4 x5 → X) (h : ∃ x0 x1 x2 x3 x4 x5, p x0 x1 x2 x3 x4 x5) : X := Exists.elim h fun x h => xE5 (f x) h
theorem xE7 {α0 : Sort _} {α1 : Sort _} {α2 : Sort _} {α3 : Sort _} {α4 : Sort _} {α5 : Sort _} {α6 : Sort _} {p : α0 → α1 → α2 → α3 → α4 → α5 → α6 → Prop} {X : Prop} (f : ∀ x0 x1 x2 x3 x4 x5 x6, p x0 x1 x2 x3 x4 x5 x6 → X) (h : ∃ x0 x1 x2 x3 x4 x5 x6, p x0 x1 x2 x3 x4 x5 x6) : X := Exists.elim h fun x h => xE6 (f x) h
theorem xE8 {α0 : Sort _} {α1 : Sort _} {α2 : Sort _} {α3 : Sort _} {α4 : Sort _} {α5 : Sort _} {α6 : Sort _} {α7 : Sort _} {p : α0 → α1 → α2 → α3 → α4 → α5 → α6 → α7 → Prop} {X : Prop} (f : ∀ x0 x1 x2 x3 x4 x5 x6 x7, p x0 x1 x2 x3 x4 x5 x6 x7 → X) (h : ∃ x0 x1 x2 x3 x4 x5 x6 x7, p x0 x1 x2 x3 x4 x5 x6 x7) : X := Exists.elim h fun x h => xE7 (f x) h
theorem xE9 {α0 : Sort _} {α1 : Sort _} {α2 : Sort _} {α3 : Sort _} {α4 : Sort _} {α5 : Sort _} {α6 : Sort _} {α7 : Sort _} {α8 : Sort _} {p : α0 → α1 → α2 → α3 → α4 → α5 → α6 → α7 → α8 → Prop} {X : Prop} (f : ∀ x0 x1 x2 x3 x4 x5 x6 x7 x8, p x0 x1 x2 x3 x4 x5 x6 x7 x8 → X) (h : ∃ x0 x1 x2 x3 x4 x5 x6 x7 x8, p x0 x1 x2 x3 x4 x5 x6 x7 x8) : X := Exists.elim h fun x h => xE8 (f x) h
theorem xE10 {α0 : Sort _} {α1 : Sort _} {α2 : Sort _} {α3 : Sort _} {α4 : Sort _} {α5 : Sort _} {α6 : Sort _} {α7 : Sort _} {α8 : Sort _} {α9 : Sort _} {p : α0 → α1 → α2 → α3 → α4 → α5 → α6 → α7 → α8 → α9 → Prop} {X : Prop} (f : ∀ x0 x1 x2 x3 x4 x5 x6 x7 x8 x9, p x0 x1 x2 x3 x4 x5 x6 x7 x8 x9 → X) (h : ∃ x0 x1 x2 x3 x4 x5 x6 x7 x8 x9, p x0 x1 x2 x3 x4 x5 x6 x7 x8 x9) : X := Exists.elim h fun x h => xE9 (f x) h
set_option genSizeOf false
set_option genCtorIdx true in
inductive V where
 | none
 | bool (b : Bool)
 | int (i : Int)
 | str (s : Str)
 | tup (l : List V)
 | rng (lo hi step : Int)
 | ref (a : Addr)
set_option genCtorIdx true in
inductive AO where
 | list (l : List V)
 | inst (C : Str) (d : Addr)
 | dict (l : List (Str × V))
 | idict (l : List (Int × V))
 | flist (l : List V)
noncomputable abbrev Loc := Str → Option V
noncomputable abbrev AH := Addr → Option AO
noncomputable def cd (s : Str) : Nat := s.cps.toList.foldl (fun n c => (n * 131 + c) % 2285) 1
noncomputable def sq (x y : Str) : Bool := decide (x = y)
theorem sq_t {x y : Str} (h : x = y) : sq x y = true := decide_eq_true h
theorem sq_f {x y : Str} (h : ¬ x = y) : sq x y = false := decide_eq_false h
noncomputable def pk2 {α : Type} (c : Bool) (a b : α) : α := match c with
 | true => a
 | false => b
noncomputable def pick (c : Bool) (y x : Str) (v : V) (m : Loc) : Option V := match c with
 | true => pk2 (sq y x) (some v) (m y)
 | false => m y
noncomputable def Loc.set (m : Loc) (x : Str) (v : V) : Loc := fun y => pick (cd y == cd x) y x v m
theorem pk_eq {α : Type} {x y : Str} {a b : α} : (match cd x == cd y with | true => pk2 (sq x y) a b | false => b) = if x = y then a else b := by
 by_cases h : x = y
 · subst h; rw [if_pos rfl, beq_self_eq_true, sq_t rfl]; rfl
 · rw [if_neg h, sq_f h]; cases cd x == cd y <;> rfl
theorem Loc.set_eq {m : Loc} {x y : Str} {v : V} : Loc.set m x v y = if y = x then some v else m y := pk_eq
noncomputable def AH.set (σ : AH) (a : Addr) (o : AO) : AH := fun b => if b = a then some o else σ b
set_option genCtorIdx true in
inductive BI where | len | min | max | abs | range | list
set_option genInjectivity false
mutual
inductive PE where
 | none
 | bool (b : Bool)
 | int (i : Int)
 | str (s : Str)
 | loc (x : Str)
 | glob (x : Str) (i : Int)
 | bin (op : Operator) (l r : PE)
 | neg (e : PE)
 | not (e : PE)
 | cmp (op : CmpOp) (l r : PE)
 | cmp2 (o1 o2 : CmpOp) (l m r : PE)
 | bop (op : BoolOp) (l : PEs)
 | ite (t b e : PE)
 | attr (e : PE) (x : Str)
 | sub (e i : PE)
 | call (f : Str) (args : PEs)
 | bi (b : BI) (args : PEs)
 | meth (e : PE) (x : Str) (args : PEs)
 | lst (es : PEs)
 | tup (es : PEs)
 | dict (kvs : PKs)
 | comp (elt : PE) (x : Str) (it : PE) (cond : PEs)
 | slc (e : PE) (n : Nat)
inductive PEs where
 | nil
 | cons (e : PE) (es : PEs)
inductive PKs where
 | nil
 | cons (k : Str) (e : PE) (es : PKs)
end
mutual
inductive PS where
 | asgn (x : Str) (e : PE)
 | asgnA (o : PE) (x : Str) (e : PE)
 | asgnS (o i e : PE)
 | asgnT (xs : List Str) (e : PE)
 | augN (x : Str) (op : Operator) (e : PE)
 | augA (o : PE) (x : Str) (op : Operator) (e : PE)
 | augS (o i : PE) (op : Operator) (e : PE)
 | expr (e : PE)
 | ret (e : PE)
 | ret0
 | ite (t : PE) (b o : PSs)
 | whl (t : PE) (b : PSs)
 | for_ (x : Str) (it : PE) (b : PSs)
 | brk
 | cont
 | pass
 | stop
inductive PSs where
 | nil
 | cons (s : PS) (r : PSs)
end
noncomputable abbrev Kinds := List (Str × NameKind)
noncomputable def tabAt {α : Type} : List (String × α) → Str → Option α
 | [], _ => Option.none
 | p :: r, x => if x = p.1 then some p.2 else tabAt r x
theorem tabAt_mem {α : Type} {x : Str} {a : α} : ∀ {l : List (String × α)}, tabAt l x = some a → ∃ s, (s, a) ∈ l ∧ x = Str.ofString s
 | p :: r, h => by
   unfold tabAt at h
   by_cases hx : x = p.1
   · rw [if_pos hx] at h; cases h; exact ⟨p.1, .head _, hx⟩
   · rw [if_neg hx] at h
     refine (xE1 fun s => aE2 fun a b => ?_) (tabAt_mem h)
     exact ⟨s, .tail _ a, b⟩
noncomputable def biTab : List (String × BI) := [("len", .len), ("min", .min), ("max", .max), ("abs", .abs), ("range", .range), ("list", .list)]
noncomputable def conTab : List (String × Int) := [("NO_MOVE", 0), ("MATE", 32000), ("DRAW", 0), ("INFINITE", 32001), ("MATE_LEAST", 31754), ("BOUND_NONE", 0), ("BOUND_UPPER", 1), ("BOUND_LOWER", 2), ("BOUND_EXACT", 3), ("AGES", 64), ("DEPTH_LEAST", (-8)), ("DEPTH_MOST", 247), ("VALUE_MOST", 32767), ("KEY_AT", 48), ("TABLE_STAGE", 0), ("GOOD_STAGE", 1), ("KILLER_STAGE", 2), ("QUIET_STAGE", 3), ("END_STAGE", 5), ("IID_DEPTH", 4), ("_law_mate", 32000)]
noncomputable def biOf (f : Str) : Option BI := tabAt biTab f
noncomputable def gcon (x : Str) : Option Int := tabAt conTab x
noncomputable def fnTab : List String :=
 ["mated_in", "mate_in", "to_table", "from_table", "pack_entry", "unpack_entry", "find_slot", "worth", "victim_slot", "pushes_out", "with_move", "cutoff", "step_into", "step_back",
  "clear_line", "set_line", "scale_down", "reward", "killer_pair", "past_score", "Picker", "take_best", "quiesce", "quiesce_moves", "search", "search_moves", "search_child", "look_up", "keep_value",
  "_law_pull", "_law_ways", "_law_world", "_law_raised", "_law_quiet_rows", "_law_quiet", "_law_deep_rows", "_law_window", "_law_is_told_well", "_law_leads", "_law_rows_are_true",
  "TreeGame", "TransTable", "Killers", "SearchContext", "History"]
noncomputable def fnOk (x : Str) : Bool := fnTab.any fun y => decide (x = y)
noncomputable def okBase : Expr → Bool
 | .Name .. | .Attribute .. | .Subscript .. => true
 | _ => false
noncomputable def okItem : Expr → Bool
 | .Slice .. => false
 | _ => true
noncomputable def okTest : Expr → Bool
 | .Compare _ [_] [_] _ => true
 | .Name .. | .Attribute .. | .Subscript .. | .Call .. => true
 | _ => false
noncomputable def bind2 {α β γ : Type} (f : α → β → γ) (x : Option α) (y : Option β) : Option γ := x.bind fun a => y.map (f a)
noncomputable def bind3 {α β γ δ : Type} (f : α → β → γ → δ) (x : Option α) (y : Option β) (z : Option γ) : Option δ := x.bind fun a => bind2 (f a) y z
theorem bind2_inv {α β γ : Type} {f : α → β → γ} {x : Option α} {y : Option β} {c : γ} (h : bind2 f x y = some c) : ∃ a b, x = some a ∧ y = some b ∧ f a b = c := by
 refine (xE1 fun a => aE2 fun e h => ?_) (Option.bind_eq_some_iff.mp h)
 refine (xE1 fun b => aE2 fun e' h => ?_) (Option.map_eq_some_iff.mp h)
 exact ⟨a, b, e, e', h⟩
theorem bind3_inv {α β γ δ : Type} {f : α → β → γ → δ} {x : Option α} {y : Option β} {z : Option γ} {c : δ} (h : bind3 f x y z = some c) : ∃ a b d, x = some a ∧ y = some b ∧ z = some d ∧ f a b d = c := by
 refine (xE1 fun a => aE2 fun e h => ?_) (Option.bind_eq_some_iff.mp h)
 refine (xE2 fun b d => aE3 fun e' e'' h => ?_) (bind2_inv h)
 exact ⟨a, b, d, e, e', e'', h⟩
theorem guard_inv {α : Type} {b : Bool} {x : Option α} {c : α} (h : (if b then x else Option.none) = some c) : b = true ∧ x = some c := by
 cases b with
 | true => exact ⟨rfl, h⟩
 | false => cases h
theorem no_some {α : Type} {p : α} {C : Prop} (h : Option.none = some p) : C := by cases h
noncomputable def toEsWith (f : Expr → Option PE) : List Expr → Option PEs
 | [] => some .nil
 | e :: r => bind2 .cons (f e) (toEsWith f r)
noncomputable def strOf : Expr → Option Str
 | .Constant c _ _ => (match c with | .str s => some s | _ => Option.none)
 | _ => Option.none
noncomputable def intOf : Expr → Option Int
 | .Constant c _ _ => (match c with | .int s => some s | _ => Option.none)
 | _ => Option.none
noncomputable def toKsWith (f : Expr → Option PE) : List (Option Expr) → List Expr → Option PKs
 | [], vs => if vs.isEmpty then some .nil else Option.none
 | k :: ks, vs => match vs with
   | e :: r => bind3 .cons (k.bind strOf) (f e) (toKsWith f ks r)
   | [] => Option.none
noncomputable def compKinds (outer inner : Kinds) : Kinds :=
 inner.map fun p => if p.2 == .free && outer.lookup p.1 == some .cell then (p.1, .cell) else p
noncomputable def toConst : Const → Option PE
 | .none => some .none
 | .bool b => some (.bool b)
 | .int i => some (.int i)
 | .str s => some (.str s)
 | _ => Option.none
noncomputable def toNameK (x : Str) : NameKind → Option PE
 | .local => some (.loc x)
 | .cell => some (.loc x)
 | .globalImplicit => (gcon x).map (.glob x)
 | _ => Option.none
noncomputable def toName (ks : Kinds) (x : Str) : Option PE := if x != "__debug__" && x != ".0" then (ks.lookup x).bind (toNameK x) else Option.none
noncomputable def toUn (x : Option PE) : UnaryOp → Option PE
 | .USub => x.map .neg
 | .Not => x.map .not
 | _ => Option.none
noncomputable def toCmp (f : Expr → Option PE) (l : Expr) : List CmpOp → List Expr → Option PE
 | [o], [r] => bind2 (.cmp o) (f l) (f r)
 | [o1, o2], [m, r] => bind3 (.cmp2 o1 o2) (f l) (f m) (f r)
 | _, _ => Option.none
noncomputable def isName : Expr → Bool
 | .Name .. => true
 | _ => false
noncomputable def slcOf : Expr → Option Int
 | .Slice lo hi st _ => if lo.isNone && st.isNone then hi.bind intOf else Option.none
 | _ => Option.none
noncomputable def toSlc (f : Expr → Option PE) (o i : Expr) : Option PE := (slcOf i).bind fun b => if isName o && decide (0 ≤ b) then (f o).map (.slc · b.toNat) else Option.none
noncomputable def toCallN (x : Str) (as : PEs) : Option PE := match biOf x with
 | some b => some (.bi b as)
 | Option.none => if fnOk x then some (.call x as) else Option.none
noncomputable def toCall (f : Expr → Option PE) (ks : Kinds) (args : List Expr) (kws : List Keyword) (pos : Pos) : Expr → Option PE
 | .Name x _ => if kws.isEmpty && x != "__debug__" && ks.lookup x == some .globalImplicit then (toEsWith f args).bind (toCallN x) else Option.none
 | .Attribute o x apos => if kws.isEmpty && okBase o && apos.endLine == pos.line && decide (args.length < 20) then bind2 (fun a as => .meth a x as) (f o) (toEsWith f args) else Option.none
 | _ => Option.none
noncomputable def nameOf : Expr → Option Str
 | .Name x _ => some x
 | _ => Option.none
noncomputable def compOk (ks : Kinds) (sc : Scope) (ifs : List Expr) (x : Str) : Bool :=
 sc.kind == .function && ifs.all okTest && decide (ifs.length ≤ 1) && sc.names.lookup x == some .local && sc.names.all (fun p => (p.2 == .local && (p.1 == x || p.1 == ".0") && sc.names.lookup p.1 == some .local) || p.2 == .globalImplicit || (p.2 == .free && ks.lookup p.1 == some .cell))
noncomputable def toComp (f : Kinds → Expr → Option PE) (ks : Kinds) (elt : Expr) (sc : Scope) : List Comprehension → Option PE
 | [g] => (nameOf g.target).bind fun x => if decide (g.is_async = 0) && compOk ks sc g.ifs x then bind3 (fun i a c => .comp a x i c) (f ks g.iter) (f (compKinds ks sc.names) elt) (toEsWith (f (compKinds ks sc.names)) g.ifs) else Option.none
 | _ => Option.none
noncomputable def toE1 (f : Kinds → Expr → Option PE) (ks : Kinds) : Expr → Option PE
 | .Constant c _ _ => toConst c
 | .Name x _ => toName ks x
 | .BinOp l op r _ => bind2 (.bin op) (f ks l) (f ks r)
 | .UnaryOp op x _ => toUn (f ks x) op
 | .Compare l ops rs _ => toCmp (f ks) l ops rs
 | .BoolOp op es _ => (toEsWith (f ks) es).map (.bop op)
 | .IfExp t b o _ => if okTest t then bind3 .ite (f ks t) (f ks b) (f ks o) else Option.none
 | .Attribute o x _ => if okBase o then (f ks o).map (.attr · x) else Option.none
 | .Subscript o i _ => if okItem i then bind2 .sub (f ks o) (f ks i) else toSlc (f ks) o i
 | .Call g args kws pos => toCall (f ks) ks args kws pos g
 | .List es _ => (toEsWith (f ks) es).map .lst
 | .Tuple es _ _ => (toEsWith (f ks) es).map .tup
 | .Dict kk vs _ => if decide (kk.length ≤ 15) then (toKsWith (f ks) kk vs).map .dict else Option.none
 | .ListComp elt gens sc _ => toComp f ks elt sc gens
 | _ => Option.none
noncomputable def toEn : Nat → Kinds → Expr → Option PE
 | 0, _, _ => Option.none
 | n + 1, ks, e => toE1 (toEn n) ks e
noncomputable abbrev toE (ks : Kinds) (n : Nat) (e : Expr) : Option PE := toEn n ks e
noncomputable def namesOf : List Expr → Option (List Str)
 | [] => some []
 | e :: r => bind2 List.cons (nameOf e) (namesOf r)
noncomputable def isComp : Expr → Bool
 | .ListComp .. | .SetComp .. | .DictComp .. => true
 | _ => false
noncomputable def isTuple : Expr → Bool
 | .Tuple .. => true
 | _ => false
noncomputable def storable (ks : Kinds) (x : Str) : Bool := x != ".0" && (ks.lookup x == some .local || ks.lookup x == some .cell)
noncomputable def toSsWith (f : Stmt → Option PS) : List Stmt → Option PSs
 | [] => some .nil
 | e :: r => bind2 .cons (f e) (toSsWith f r)
noncomputable def toAsg (f : Expr → Option PE) (ks : Kinds) (e : Expr) : Expr → Option PS
 | .Name x _ => if storable ks x then (f e).map (.asgn x) else Option.none
 | .Attribute o x _ => if okBase o && !isComp e then bind2 (fun a b => .asgnA a x b) (f o) (f e) else Option.none
 | .Subscript o i _ => if okItem i && !isComp e then bind3 .asgnS (f o) (f i) (f e) else Option.none
 | .Tuple ts _ _ => if !isComp e && !isTuple e then (namesOf ts).bind fun xs => if xs.all (storable ks) then (f e).map (.asgnT xs) else Option.none else Option.none
 | _ => Option.none
noncomputable def toAug (f : Expr → Option PE) (ks : Kinds) (op : Operator) (e : Expr) : Expr → Option PS
 | .Name x _ => if storable ks x then (f e).map (.augN x op) else Option.none
 | .Attribute o x _ => if okBase o then bind2 (fun a b => .augA a x op b) (f o) (f e) else Option.none
 | .Subscript o i _ => if okItem i then bind3 (fun a b c => .augS a b op c) (f o) (f i) (f e) else Option.none
 | _ => Option.none
noncomputable def toRet (f : Expr → Option PE) : Option Expr → Option PS
 | some e => (f e).map .ret
 | Option.none => some .ret0
noncomputable def toFor (f : Expr → Option PE) (g : Stmt → Option PS) (ks : Kinds) (it : Expr) (b o : List Stmt) : Expr → Option PS
 | .Name x _ => if storable ks x && o.isEmpty then bind2 (.for_ x) (f it) (toSsWith g b) else Option.none
 | _ => Option.none
noncomputable def toAsgs (f : Expr → Option PE) (ks : Kinds) (e : Expr) : List Expr → Option PS
 | [t] => toAsg f ks e t
 | _ => Option.none
noncomputable def toS1 (f : Expr → Option PE) (g : Stmt → Option PS) (ks : Kinds) : Stmt → Option PS
 | .Assign ts e _ => toAsgs f ks e ts
 | .AugAssign t op e _ => toAug f ks op e t
 | .Expr e _ => if !isComp e then (f e).map .expr else Option.none
 | .Return o _ => toRet f o
 | .If t b o _ => bind3 .ite (f t) (toSsWith g b) (toSsWith g o)
 | .While t b o _ => if o.isEmpty then bind2 .whl (f t) (toSsWith g b) else Option.none
 | .For t it b o _ => toFor f g ks it b o t
 | .Break _ => some .brk
 | .Continue _ => some .cont
 | .Pass _ => some .pass
 | .Raise .. => some .stop
 | _ => Option.none
noncomputable def toS (ks : Kinds) : Nat → Stmt → Option PS
 | 0, _ => Option.none
 | n + 1, s => toS1 (toE ks n) (toS ks n) ks s
noncomputable def toBody (ks : Kinds) (b : List Stmt) : Option PSs := toSsWith (toS ks 40) b
set_option backward.match.sparseCases false
inductive CF where
 | fn (x : Str)
 | me (C x : Str)
noncomputable abbrev CallP := CF → List V → AH → (V → AH → Prop) → Prop
noncomputable def asInts : List V → Option (List Int)
 | [] => some []
 | .int i :: r => (asInts r).map (i :: ·)
 | _ => Option.none
structure Blk {α : Sort _} (K : α) : Type where
noncomputable def onS {α : Type} (K : α → Prop) (_ : Blk K) : Option α → Prop
 | some a => K a
 | Option.none => False
noncomputable def onI (K : Int → Prop) (_ : Blk K) : V → Prop
 | .int i => K i
 | _ => False
noncomputable def onT (K : List V → Prop) (_ : Blk K) : V → Prop
 | .tup l => K l
 | _ => False
noncomputable def onR (K : Addr → Prop) (_ : Blk K) : V → Prop
 | .ref a => K a
 | _ => False
noncomputable def onId (K : List (Int × V) → Prop) (_ : Blk K) : AO → Prop
 | .idict l => K l
 | _ => False
noncomputable def onN (K : Str → Addr → Prop) (_ : Blk K) : AO → Prop
 | .inst C d => K C d
 | _ => False
noncomputable def onD (K : List (Str × V) → Prop) (_ : Blk K) : AO → Prop
 | .dict l => K l
 | _ => False
noncomputable def onF (K : List V → Prop) (_ : Blk K) : AO → Prop
 | .flist l => K l
 | _ => False
noncomputable def onL (K : List V → Prop) (_ : Blk K) : AO → Prop
 | .list l => K l
 | _ => False
noncomputable def onC (A B : Prop) (_ : Blk A) (_ : Blk B) : Bool → Prop
 | true => A
 | false => B
noncomputable def onA (A : Prop) (_ : Blk A) : Bool → Prop
 | true => A
 | false => False
noncomputable def asT (K : Loc → Prop) (_ : Blk K) : Loc → List Str → List V → Prop
 | m, x :: xs, v :: vs => asT K ⟨⟩ (m.set x v) xs vs
 | m, [], [] => K m
 | _, _, _ => False
noncomputable def pyIdx (i : Int) (n : Nat) : Option Nat :=
 if 0 ≤ i then (if i < n then some i.toNat else Option.none) else if 0 ≤ i + n then some (i + n).toNat else Option.none
noncomputable def rngSize (a b c : Int) : Nat := if 0 < c then (b - a).toNat else (a - b).toNat
noncomputable def rngFrom (c : Int) : Nat → Int → List Int
 | 0, _ => []
 | n + 1, x => x :: rngFrom c n (x + c)
noncomputable def rngItems (a b c : Int) : List Int := rngFrom c (rngSize a b c) a
noncomputable def smallI (i : Int) : Prop := -(2 ^ 60) ≤ i ∧ i ≤ 2 ^ 60
noncomputable def sizeOk (n : Nat) : Prop := n ≤ 1000000
noncomputable def pickF (c : Bool) (y x : Str) (v r : Option V) : Option V := match c with
 | true => pk2 (sq y x) v r
 | false => r
noncomputable def getF : List (Str × V) → Str → Option V
 | [], _ => Option.none
 | p :: r, x => pickF (cd p.1 == cd x) p.1 x (some p.2) (getF r x)
theorem getF_eq {p : Str × V} {r : List (Str × V)} {x : Str} : getF (p :: r) x = if p.1 = x then some p.2 else getF r x := pk_eq
noncomputable def pickS (c : Bool) (y x : Str) (a b : List (Str × V)) : List (Str × V) := match c with
 | true => pk2 (sq y x) a b
 | false => b
noncomputable def setF : List (Str × V) → Str → V → List (Str × V)
 | [], x, v => [(x, v)]
 | p :: r, x, v => pickS (cd p.1 == cd x) p.1 x ((x, v) :: r) (p :: setF r x v)
theorem setF_eq {p : Str × V} {r : List (Str × V)} {x : Str} {v : V} : setF (p :: r) x v = if p.1 = x then (x, v) :: r else p :: setF r x v := pk_eq
noncomputable def getI : List (Int × V) → Int → Option V
 | [], _ => Option.none
 | p :: r, x => if p.1 = x then some p.2 else getI r x
noncomputable def setI : List (Int × V) → Int → V → List (Int × V)
 | [], x, v => [(x, v)]
 | p :: r, x, v => if p.1 = x then (x, v) :: r else p :: setI r x v
noncomputable def attrTab : List (String × List String) :=
 [("SearchContext", ["game", "table", "killers", "history", "qdepth", "is_exact", "max_nodes", "nodes", "made", "lines"]),
  ("History", ["limit", "scores"]), ("Killers", ["plies", "first", "second"]), ("TransTable", ["clusters", "ways", "age", "slots"]),
  ("Picker", ["game", "left", "table_move", "killers", "history", "ply", "stage", "ready", "losing"]),
  ("TreeGame", ["children", "values", "checks", "draws", "noisy_rows", "gain_rows", "path"])]
noncomputable def attrOk (C x : Str) : Bool := attrTab.any fun p => decide (C = p.1) && p.2.any fun y => decide (x = y)
noncomputable def methTab : List (String × List String) :=
 [("SearchContext", ["tick"]), ("History", ["get", "update", "bonus"]), ("Killers", ["add", "pair", "clear"]),
  ("TransTable", ["probe", "save", "new_search"]), ("Picker", ["next", "fill", "fill_table", "fill_good", "fill_killers"]),
  ("TreeGame", ["moves", "noisy", "make", "undo", "value", "key", "in_check", "is_draw", "is_noisy", "gain", "side"])]
noncomputable def methOk (C x : Str) : Bool := methTab.any fun p => decide (C = p.1) && p.2.any fun y => decide (x = y)
section
variable (Z : CallP)
noncomputable def onNo (K : Prop) (_ : Blk K) : V → Prop
 | .none => K
 | _ => False
noncomputable def isNo : V → Bool
 | .none => true
 | _ => false
noncomputable abbrev lstAt (σ : AH) (a : Addr) (K : List V → Prop) : Prop := onS (fun o => onL K ⟨⟩ o) ⟨⟩ (σ a)
noncomputable abbrev dctAt (σ : AH) (a : Addr) (K : List (Str × V) → Prop) : Prop := onS (fun o => onD K ⟨⟩ o) ⟨⟩ (σ a)
noncomputable def wpTruth : V → AH → (Bool → AH → Prop) → Prop
 | .bool b, σ, Q => Q b σ
 | .none, σ, Q => Q false σ
 | .ref a, σ, Q => lstAt σ a fun l => sizeOk l.length ∧ Q (!l.isEmpty) σ
 | _, _, _ => False
noncomputable abbrev intsAt (σ : AH) (x : Addr) (K : List Int → Prop) : Prop := lstAt σ x fun l => onS K ⟨⟩ (asInts l)
noncomputable def cmpE (f : Int → Int → Bool) (g : List Int → List Int → Bool) (b : V) (σ : AH) (Q : Bool → AH → Prop) : V → Prop
 | .int i => onI (fun j => Q (f i j) σ) ⟨⟩ b
 | .ref x => onR (fun y => intsAt σ x fun xs => intsAt σ y fun ys => Q (g xs ys) σ) ⟨⟩ b
 | _ => False
noncomputable def cmpI (f : List Int → Bool) (σ : AH) (Q : Bool → AH → Prop) : V → Prop
 | .tup l => onS (fun xs => Q (f xs) σ) ⟨⟩ (asInts l)
 | .ref x => intsAt σ x fun xs => Q (f xs) σ
 | _ => False
noncomputable def wpCmp : CmpOp → V → V → AH → (Bool → AH → Prop) → Prop
 | .Eq, a, b, σ, Q => cmpE (fun i j => decide (i = j)) (fun xs ys => decide (xs = ys)) b σ Q a
 | .NotEq, a, b, σ, Q => cmpE (fun i j => decide (i ≠ j)) (fun xs ys => decide (xs ≠ ys)) b σ Q a
 | .Lt, a, b, σ, Q => onI (fun i => onI (fun j => Q (decide (i < j)) σ) ⟨⟩ b) ⟨⟩ a
 | .LtE, a, b, σ, Q => onI (fun i => onI (fun j => Q (decide (i ≤ j)) σ) ⟨⟩ b) ⟨⟩ a
 | .Gt, a, b, σ, Q => onI (fun i => onI (fun j => Q (decide (j < i)) σ) ⟨⟩ b) ⟨⟩ a
 | .GtE, a, b, σ, Q => onI (fun i => onI (fun j => Q (decide (j ≤ i)) σ) ⟨⟩ b) ⟨⟩ a
 | .Is, a, b, σ, Q => onNo (Q (isNo a) σ) ⟨⟩ b
 | .IsNot, a, b, σ, Q => onNo (Q (!isNo a) σ) ⟨⟩ b
 | .In, a, b, σ, Q => onI (fun i => cmpI (fun xs => xs.contains i) σ Q b) ⟨⟩ a
 | .NotIn, a, b, σ, Q => onI (fun i => cmpI (fun xs => !xs.contains i) σ Q b) ⟨⟩ a
noncomputable abbrev onII (a b : V) (K : Int → Int → Prop) : Prop := onI (fun i => onI (fun j => K i j) ⟨⟩ b) ⟨⟩ a
noncomputable def wpAdd (b : V) (σ : AH) (Q : V → AH → Prop) : V → Prop
 | .int i => onI (fun j => Q (.int (i + j)) σ) ⟨⟩ b
 | .ref x => onR (fun y => lstAt σ x fun l => lstAt σ y fun k => sizeOk (l.length + k.length) ∧ ∀ c, σ c = Option.none → Q (.ref c) (σ.set c (.list (l ++ k)))) ⟨⟩ b
 | _ => False
noncomputable def onOne (K : V → Prop) (_ : Blk K) : List V → Prop
 | [v] => K v
 | _ => False
noncomputable def wpMul (b : V) (σ : AH) (Q : V → AH → Prop) : V → Prop
 | .int i => onI (fun j => smallI i ∧ smallI j ∧ Q (.int (i * j)) σ) ⟨⟩ b
 | .ref x => onI (fun n => lstAt σ x fun l => onOne (fun v => 0 ≤ n ∧ n ≤ 1000000 ∧ ∀ c, σ c = Option.none → Q (.ref c) (σ.set c (.list (List.replicate n.toNat v)))) ⟨⟩ l) ⟨⟩ b
 | _ => False
noncomputable def wpBin : Operator → V → V → AH → (V → AH → Prop) → Prop
 | .Add, a, b, σ, Q => wpAdd b σ Q a
 | .Sub, a, b, σ, Q => onII a b fun a b => Q (.int (a - b)) σ
 | .Mult, a, b, σ, Q => wpMul b σ Q a
 | .FloorDiv, a, b, σ, Q => onII a b fun a b => smallI a ∧ smallI b ∧ b ≠ 0 ∧ Q (.int (a.fdiv b)) σ
 | .Mod, a, b, σ, Q => onII a b fun a b => b ≠ 0 ∧ Q (.int (a.fmod b)) σ
 | .LShift, a, b, σ, Q => onII a b fun a b => smallI a ∧ 0 ≤ b ∧ b ≤ 64 ∧ Q (.int (a * 2 ^ b.toNat)) σ
 | .RShift, a, b, σ, Q => onII a b fun a b => 0 ≤ b ∧ Q (.int (a.fdiv (2 ^ b.toNat))) σ
 | .BitAnd, a, b, σ, Q => onII a b fun a b => Q (.int (Builtin.bitAnd a b)) σ
 | .BitOr, a, b, σ, Q => onII a b fun a b => Q (.int (Builtin.bitOr a b)) σ
 | _, _, _, _, _ => False
noncomputable def subT (l : List V) (σ : AH) (Q : V → AH → Prop) : V → Prop
 | .int i => onS (fun k => onS (fun v => smallI i ∧ Q v σ) ⟨⟩ l[k]?) ⟨⟩ (pyIdx i l.length)
 | _ => False
noncomputable def subR (a : Addr) (σ : AH) (Q : V → AH → Prop) : V → Prop
 | .int i => lstAt σ a fun l => onS (fun k => onS (fun v => smallI i ∧ sizeOk l.length ∧ Q v σ) ⟨⟩ l[k]?) ⟨⟩ (pyIdx i l.length)
 | .str x => dctAt σ a fun fs => onS (fun v => Q v σ) ⟨⟩ (getF fs x)
 | _ => False
noncomputable def wpSub : V → V → AH → (V → AH → Prop) → Prop
 | .tup l, b, σ, Q => subT l σ Q b
 | .ref a, b, σ, Q => subR a σ Q b
 | _, _, _, _ => False
noncomputable def setO (a : Addr) (i : Int) (v : V) (σ : AH) (Q : AH → Prop) : AO → Prop
 | .list l => 0 ≤ i ∧ i < l.length ∧ sizeOk l.length ∧ Q (σ.set a (.list (l.set i.toNat v)))
 | .idict l => l.length ≤ 1000000 ∧ Q (σ.set a (.idict (setI l i v)))
 | _ => False
noncomputable def setR (a : Addr) (v : V) (σ : AH) (Q : AH → Prop) : V → Prop
 | .int i => onS (fun o => setO a i v σ Q o) ⟨⟩ (σ a)
 | .str x => dctAt σ a fun fs => fs.length ≤ 900 ∧ Q (σ.set a (.dict (setF fs x v)))
 | _ => False
noncomputable def wpSetSub : V → V → V → AH → (AH → Prop) → Prop
 | .ref a, b, v, σ, Q => setR a v σ Q b
 | _, _, _, _, _ => False
noncomputable def wpAttr : V → Str → AH → (V → AH → Prop) → Prop
 | .ref a, x, σ, Q => onS (fun o => onN (fun C d => onS (fun o2 => onD (fun fs => onS (fun v => onA (Q v σ) ⟨⟩ (attrOk C x)) ⟨⟩ (getF fs x)) ⟨⟩ o2) ⟨⟩ (σ d)) ⟨⟩ o) ⟨⟩ (σ a)
 | _, _, _, _ => False
noncomputable def wpSetAttr : V → Str → V → AH → (AH → Prop) → Prop
 | .ref a, x, v, σ, Q => onS (fun o => onN (fun C d => onS (fun o2 => onD (fun fs => onA (fs.length ≤ 900 ∧ Q (σ.set d (.dict (setF fs x v)))) ⟨⟩ (attrOk C x)) ⟨⟩ o2) ⟨⟩ (σ d)) ⟨⟩ o) ⟨⟩ (σ a)
 | _, _, _, _, _ => False
noncomputable def onOneP (K : Int → List Int → Prop) (_ : Blk K) : List Int → Prop
 | x :: xs => K x xs
 | [] => False
noncomputable def biL (σ : AH) (Q : V → AH → Prop) : V → Prop
 | .ref a => lstAt σ a fun l => sizeOk l.length ∧ ∀ c, σ c = Option.none → Q (.ref c) (σ.set c (.list l))
 | .rng a b d => smallI a ∧ smallI b ∧ d = 1 ∧ sizeOk (rngSize a b d) ∧ ∀ c, σ c = Option.none → Q (.ref c) (σ.set c (.list ((rngItems a b d).map .int)))
 | _ => False
noncomputable def bi1 (σ : AH) (Q : V → AH → Prop) : BI → V → Prop
 | .len, a => onR (fun a => lstAt σ a fun l => sizeOk l.length ∧ Q (.int l.length) σ) ⟨⟩ a
 | .max, a => onR (fun a => lstAt σ a fun l => onS (fun xs => onOneP (fun x xs => sizeOk l.length ∧ Q (.int (xs.foldl max x)) σ) ⟨⟩ xs) ⟨⟩ (asInts l)) ⟨⟩ a
 | .abs, a => onI (fun a => Q (.int (a.natAbs : Int)) σ) ⟨⟩ a
 | .range, b => onI (fun b => smallI b ∧ Q (.rng 0 b 1) σ) ⟨⟩ b
 | .list, a => biL σ Q a
 | _, _ => False
noncomputable def bi2 (σ : AH) (Q : V → AH → Prop) : BI → V → V → Prop
 | .min, a, b => onII a b fun a b => Q (.int (min a b)) σ
 | .max, a, b => onII a b fun a b => Q (.int (max a b)) σ
 | .range, a, b => onII a b fun a b => smallI a ∧ smallI b ∧ Q (.rng a b 1) σ
 | _, _, _ => False
noncomputable def wpBi : BI → List V → AH → (V → AH → Prop) → Prop
 | b, [u], σ, Q => bi1 σ Q b u
 | b, [u, v], σ, Q => bi2 σ Q b u v
 | .range, [u, v, w], σ, Q => onII u v fun a b => onI (fun c => smallI a ∧ smallI b ∧ c = -1 ∧ Q (.rng a b c) σ) ⟨⟩ w
 | _, _, _, _ => False
noncomputable def wpSlc : V → Nat → AH → (V → AH → Prop) → Prop
 | .ref a, n, σ, Q => onS (fun o => onF (fun l => sizeOk l.length ∧ ∀ c, σ c = Option.none → Q (.ref c) (σ.set c (.list (l.take n)))) ⟨⟩ o) ⟨⟩ (σ a)
 | _, _, _, _ => False
inductive MK where
 | inst (C : Str)
 | list
 | idict
noncomputable def methD (C : Str) (x : Str) : AO → Option MK
 | .dict fs => if methOk C x && (getF fs x).isNone then some (.inst C) else Option.none
 | _ => Option.none
noncomputable def methO (x : Str) (σ : AH) : AO → Option MK
 | .inst C d => (σ d).bind (methD C x)
 | .list _ => if decide (x = "append" ∨ x = "pop" ∨ x = "remove") then some .list else Option.none
 | .idict _ => if decide (x = "get") then some .idict else Option.none
 | _ => Option.none
noncomputable def methKind : V → Str → AH → Option MK
 | .ref a, x, σ => (σ a).bind (methO x σ)
 | _, _, _ => Option.none
noncomputable def wpApp (a : Addr) (l : List V) (σ : AH) (Q : V → AH → Prop) : List V → Prop
 | [v] => Q .none (σ.set a (.list (l ++ [v])))
 | _ => False
noncomputable def wpPop (a : Addr) (l : List V) (σ : AH) (Q : V → AH → Prop) : List V → Prop
 | [] => onS (fun v => Q v (σ.set a (.list l.dropLast))) ⟨⟩ l.getLast?
 | [u] => onI (fun i => onS (fun k => onS (fun v => smallI i ∧ Q v (σ.set a (.list (l.eraseIdx k)))) ⟨⟩ l[k]?) ⟨⟩ (pyIdx i l.length)) ⟨⟩ u
 | _ => False
noncomputable def wpRem (a : Addr) (l : List V) (σ : AH) (Q : V → AH → Prop) : List V → Prop
 | [u] => onI (fun i => onS (fun xs => xs.contains i = true ∧ Q .none (σ.set a (.list ((xs.erase i).map .int)))) ⟨⟩ (asInts l)) ⟨⟩ u
 | _ => False
noncomputable def wpGet (l : List (Int × V)) (σ : AH) (Q : V → AH → Prop) : List V → Prop
 | [u, v] => onI (fun k => Q ((getI l k).getD v) σ) ⟨⟩ u
 | _ => False
noncomputable def wpMeth (Z : CallP) : MK → V → Str → List V → AH → (V → AH → Prop) → Prop
 | .inst C, v, x, vs, σ, Q => Z (.me C x) (v :: vs) σ Q
 | .list, v, x, vs, σ, Q => onR (fun a => lstAt σ a fun l => sizeOk l.length ∧ (if x = "append" then wpApp a l σ Q vs else if x = "pop" then wpPop a l σ Q vs else if x = "remove" then wpRem a l σ Q vs else False)) ⟨⟩ v
 | .idict, v, _, vs, σ, Q => onR (fun a => onS (fun o => onId (fun l => wpGet l σ Q vs) ⟨⟩ o) ⟨⟩ (σ a)) ⟨⟩ v
noncomputable def lstOf : AO → Option (List V)
 | .list l => some l
 | _ => Option.none
noncomputable def iterOf : V → AH → Option (List V)
 | .rng a b c, _ => some ((rngItems a b c).map .int)
 | .tup l, _ => some l
 | .ref a, σ => (σ a).bind lstOf
 | _, _ => Option.none
noncomputable def iterOk : V → List V → AH → Prop
 | .rng a b c, _, _ => smallI a ∧ smallI b ∧ (c = 1 ∨ c = -1)
 | .tup _, _, _ => True
 | .ref a, l, σ => σ a = some (.list l) ∧ sizeOk l.length
 | _, _, _ => False
noncomputable def wpComp (turn : Loc → AH → (Option V → AH → Prop) → Prop) (src : V) (whole : List V) (x : Str) (m : Loc) : List V → AH → List V → (List V → AH → Prop) → Prop
 | [], σ, acc, Q => iterOk src whole σ ∧ Q acc σ
 | v :: r, σ, acc, Q => iterOk src whole σ ∧ turn (m.set x v) σ fun o σ => match o with
   | some u => sizeOk acc.length ∧ wpComp turn src whole x m r σ (acc ++ [u]) Q
   | Option.none => wpComp turn src whole x m r σ acc Q
mutual
noncomputable def wpE : PE → Loc → AH → (V → AH → Prop) → Prop
 | .none, _, σ, Q => Q .none σ
 | .bool b, _, σ, Q => Q (.bool b) σ
 | .int i, _, σ, Q => Q (.int i) σ
 | .str s, _, σ, Q => Q (.str s) σ
 | .loc x, m, σ, Q => onS (fun v => Q v σ) ⟨⟩ (m x)
 | .glob _ i, _, σ, Q => Q (.int i) σ
 | .bin op l r, m, σ, Q => wpE l m σ fun a σ => wpE r m σ fun b σ => wpBin op a b σ Q
 | .neg e, m, σ, Q => wpE e m σ fun v σ => onI (fun i => Q (.int (-i)) σ) ⟨⟩ v
 | .not e, m, σ, Q => wpE e m σ fun v σ => wpTruth v σ fun b σ => Q (.bool (!b)) σ
 | .cmp op l r, m, σ, Q => wpE l m σ fun a σ => wpE r m σ fun b σ => wpCmp op a b σ fun c σ => Q (.bool c) σ
 | .cmp2 o1 o2 l x r, m, σ, Q => wpE l m σ fun a σ => wpE x m σ fun b σ => wpCmp o1 a b σ fun c σ =>
     onC (wpE r m σ fun d σ => wpCmp o2 b d σ fun c σ => Q (.bool c) σ) (Q (.bool false) σ) ⟨⟩ ⟨⟩ c
 | .bop op l, m, σ, Q => wpB op l m σ Q
 | .ite t b e, m, σ, Q => wpE t m σ fun v σ => wpTruth v σ fun c σ => onC (wpE b m σ Q) (wpE e m σ Q) ⟨⟩ ⟨⟩ c
 | .attr e x, m, σ, Q => wpE e m σ fun v σ => wpAttr v x σ Q
 | .sub e i, m, σ, Q => wpE e m σ fun v σ => wpE i m σ fun k σ => wpSub v k σ Q
 | .call f as, m, σ, Q => wpEs as m σ fun vs σ => Z (.fn f) vs σ Q
 | .bi b as, m, σ, Q => wpEs as m σ fun vs σ => wpBi b vs σ Q
 | .meth e x as, m, σ, Q => wpE e m σ fun v σ => onS (fun mk => wpEs as m σ fun vs σ => wpMeth Z mk v x vs σ Q) ⟨⟩ (methKind v x σ)
 | .lst es, m, σ, Q => wpEs es m σ fun vs σ => sizeOk vs.length ∧ ∀ c, σ c = Option.none → Q (.ref c) (σ.set c (.list vs))
 | .tup es, m, σ, Q => wpEs es m σ fun vs σ => sizeOk vs.length ∧ Q (.tup vs) σ
 | .dict kvs, m, σ, Q => match kvs with
   | .nil => ∀ c, σ c = Option.none → Q (.ref c) (σ.set c (.idict []))
   | .cons _ _ _ => wpKs kvs m σ fun fs σ => (fs.map (·.1)).Nodup ∧ ∀ c, σ c = Option.none → Q (.ref c) (σ.set c (.dict fs))
 | .comp elt x it cond, m, σ, Q => wpE it m σ fun v σ => onS (fun l => wpComp (fun m σ Q => wpCd cond m σ fun b σ => onC (wpE elt m σ fun u σ => Q (some u) σ) (Q Option.none σ) ⟨⟩ ⟨⟩ b) v l x m l σ [] fun us σ => ∀ c, σ c = Option.none → Q (.ref c) (σ.set c (.list us))) ⟨⟩ (iterOf v σ)
 | .slc e n, m, σ, Q => wpE e m σ fun v σ => wpSlc v n σ Q
noncomputable def wpCd : PEs → Loc → AH → (Bool → AH → Prop) → Prop
 | .nil, _, σ, K => K true σ
 | .cons e es, m, σ, K => wpE e m σ fun v σ => match es with
   | .nil => wpTruth v σ K
   | .cons _ _ => False
noncomputable def wpEs : PEs → Loc → AH → (List V → AH → Prop) → Prop
 | .nil, _, σ, Q => Q [] σ
 | .cons e es, m, σ, Q => wpE e m σ fun v σ => wpEs es m σ fun vs σ => Q (v :: vs) σ
noncomputable def wpKs : PKs → Loc → AH → (List (Str × V) → AH → Prop) → Prop
 | .nil, _, σ, Q => Q [] σ
 | .cons k e es, m, σ, Q => wpE e m σ fun v σ => wpKs es m σ fun vs σ => Q ((k, v) :: vs) σ
noncomputable def wpB : BoolOp → PEs → Loc → AH → (V → AH → Prop) → Prop
 | _, .nil, _, _, _ => False
 | op, .cons e es, m, σ, Q => wpE e m σ fun v σ => match es with
   | .nil => Q v σ
   | .cons _ _ => wpTruth v σ fun t σ => match op with
     | .And => onC (wpB op es m σ Q) (Q v σ) ⟨⟩ ⟨⟩ t
     | .Or => onC (Q v σ) (wpB op es m σ Q) ⟨⟩ ⟨⟩ t
end
noncomputable def wpT : PE → Loc → AH → (Bool → AH → Prop) → Prop
 | .not e, m, σ, Q => wpT e m σ fun b σ => Q (!b) σ
 | .bop op l, m, σ, Q => wpTs op l m σ Q
 | .cmp op l r, m, σ, Q => wpE Z l m σ fun a σ => wpE Z r m σ fun b σ => wpCmp op a b σ Q
 | .cmp2 o1 o2 l x r, m, σ, Q => wpE Z l m σ fun a σ => wpE Z x m σ fun b σ => wpCmp o1 a b σ fun c σ =>
     onC (wpE Z r m σ fun d σ => wpCmp o2 b d σ Q) (Q false σ) ⟨⟩ ⟨⟩ c
 | .ite _ _ _, _, _, _ => False
 | e, m, σ, Q => wpE Z e m σ fun v σ => wpTruth v σ Q
where
 wpTs : BoolOp → PEs → Loc → AH → (Bool → AH → Prop) → Prop
 | op, .nil, _, σ, Q => Q (op == .And) σ
 | op, .cons e es, m, σ, Q => wpT e m σ fun b σ => match op with
   | .And => onC (wpTs op es m σ Q) (Q false σ) ⟨⟩ ⟨⟩ b
   | .Or => onC (Q true σ) (wpTs op es m σ Q) ⟨⟩ ⟨⟩ b
set_option genCtorIdx true in
inductive Fl where
 | next | brk | cont
 | ret (v : V)
noncomputable abbrev SQ := Fl → Loc → AH → Prop
noncomputable def aft (r : Loc → AH → Prop) (Q : SQ) : SQ
 | .next, m, σ => r m σ
 | f, m, σ => Q f m σ
noncomputable def bodyQ (Q : V → AH → Prop) : SQ
 | .ret v, _, σ => Q v σ
 | _, _, σ => Q .none σ
noncomputable def wpIter (body : Loc → AH → SQ → Prop) (src : V) (whole : List V) (x : Str) : List V → Loc → AH → SQ → Prop
 | [], m, σ, Q => iterOk src whole σ ∧ Q .next m σ
 | v :: r, m, σ, Q => iterOk src whole σ ∧ body (m.set x v) σ fun f m σ => match f with
   | .next => wpIter body src whole x r m σ Q
   | .cont => wpIter body src whole x r m σ Q
   | .brk => Q .next m σ
   | .ret v => Q (.ret v) m σ
noncomputable def wpLoop (test : Loc → AH → (Bool → AH → Prop) → Prop) (body : Loc → AH → SQ → Prop) : Nat → Loc → AH → SQ → Prop
 | 0, _, _, _ => False
 | n + 1, m, σ, Q => test m σ fun b σ => match b with
   | true => body m σ fun f m σ => match f with
     | .next => wpLoop test body n m σ Q
     | .cont => wpLoop test body n m σ Q
     | .brk => Q .next m σ
     | .ret v => Q (.ret v) m σ
   | false => Q .next m σ
noncomputable def augF : Operator → Int → Int → (Int → Prop) → Prop
 | .Add, i, k, K => K (i + k)
 | .Sub, i, k, K => K (i - k)
 | _, _, _, _ => False
noncomputable def setAll : Loc → List Str → List V → Loc
 | m, x :: xs, v :: vs => setAll (m.set x v) xs vs
 | m, _, _ => m
theorem asT_cons {K : Loc → Prop} {b : Blk K} {m : Loc} {x xs v vs} : asT K b m (x :: xs) (v :: vs) = asT K b (m.set x v) xs vs := rfl
theorem asT_nil {K : Loc → Prop} {b : Blk K} {m : Loc} : asT K b m [] [] = K m := rfl
theorem asT_eq {K : Loc → Prop} {b : Blk K} : ∀ {m : Loc} {xs : List Str} {vs : List V}, asT K b m xs vs = (vs.length = xs.length ∧ K (setAll m xs vs))
 | m, [], [] => by simp [asT, setAll]
 | m, [], v :: vs => by simp [asT]
 | m, x :: xs, [] => by simp [asT]
 | m, x :: xs, v :: vs => by
   rw [asT_cons, asT_eq, setAll]; simp
mutual
noncomputable def wpS : PS → Loc → AH → SQ → Prop
 | .asgn x e, m, σ, Q => wpE Z e m σ fun v σ => Q .next (m.set x v) σ
 | .asgnA o x e, m, σ, Q => wpE Z e m σ fun v σ => wpE Z o m σ fun ov σ => wpSetAttr ov x v σ fun σ => Q .next m σ
 | .asgnS o i e, m, σ, Q => wpE Z e m σ fun v σ => wpE Z o m σ fun ov σ => wpE Z i m σ fun iv σ => wpSetSub ov iv v σ fun σ => Q .next m σ
 | .asgnT xs e, m, σ, Q => wpE Z e m σ fun v σ => onT (fun l => asT (fun m => Q .next m σ) ⟨⟩ m xs l) ⟨⟩ v
 | .augN x op e, m, σ, Q => onS (fun u => onI (fun i => wpE Z e m σ fun v σ => onI (fun k => augF op i k fun j => Q .next (m.set x (.int j)) σ) ⟨⟩ v) ⟨⟩ u) ⟨⟩ (m x)
 | .augA o x op e, m, σ, Q => wpE Z o m σ fun ov σ => wpAttr ov x σ fun old σ => wpE Z e m σ fun v σ => onI (fun i => onI (fun k => augF op i k fun j => wpSetAttr ov x (.int j) σ fun σ => Q .next m σ) ⟨⟩ v) ⟨⟩ old
 | .augS o j op e, m, σ, Q => wpE Z o m σ fun ov σ => wpE Z j m σ fun iv σ => wpSub ov iv σ fun old σ => wpE Z e m σ fun v σ => onI (fun i => onI (fun k => augF op i k fun j => wpSetSub ov iv (.int j) σ fun σ => Q .next m σ) ⟨⟩ v) ⟨⟩ old
 | .expr e, m, σ, Q => wpE Z e m σ fun _ σ => Q .next m σ
 | .ret e, m, σ, Q => wpE Z e m σ fun v σ => Q (.ret v) m σ
 | .ret0, m, σ, Q => Q (.ret .none) m σ
 | .ite t b o, m, σ, Q => wpT Z t m σ fun c σ => onC (wpSs b m σ Q) (wpSs o m σ Q) ⟨⟩ ⟨⟩ c
 | .whl t b, m, σ, Q => ∃ n, wpLoop (fun m σ Q => wpT Z t m σ Q) (fun m σ Q => wpSs b m σ Q) n m σ Q
 | .for_ x it b, m, σ, Q => wpE Z it m σ fun v σ => onS (fun l => wpIter (fun m σ Q => wpSs b m σ Q) v l x l m σ Q) ⟨⟩ (iterOf v σ)
 | .brk, m, σ, Q => Q .brk m σ
 | .cont, m, σ, Q => Q .cont m σ
 | .pass, m, σ, Q => Q .next m σ
 | .stop, _, _, _ => False
noncomputable def wpSs : PSs → Loc → AH → SQ → Prop
 | .nil, m, σ, Q => Q .next m σ
 | .cons s r, m, σ, Q => wpS s m σ (aft (fun m σ => wpSs r m σ Q) Q)
end
noncomputable def wpBody (b : PSs) (m : Loc) (σ : AH) (Q : V → AH → Prop) : Prop :=
 wpSs Z b m σ (bodyQ Q)
end
set_option backward.match.sparseCases false
noncomputable def attrStat (K : Frag) (C : Addr) (x : Str) : Bool :=
 plainGet K C x && hasDictIn K C && findIn K (.ref C) x == some none && findIn K (.ref C) "__setattr__" == some (some (.builtin "object.__setattr__")) &&
 plainOver K C && takerIn K C x == some none
noncomputable def gad (K : Frag) (x : Str) : Addr := match nsIn K mainGlobals x with
 | some (some (.ref a)) => a
 | _ => 0
noncomputable def mad (K : Frag) (C x : Str) : Addr := match findIn K (.ref (gad K C)) x with
 | some (some (.ref f)) => f
 | _ => 0
noncomputable def methStat (K : Frag) (C x : Str) : Bool :=
 plainGet K (gad K C) x && findIn K (.ref (gad K C)) x == some (some (.ref (mad K C x))) && isFn K (.ref (mad K C x)) && keepIn K (.ref (mad K C x))
noncomputable def CF.addr (K : Frag) : CF → Addr
 | .fn x => gad K x
 | .me C x => mad K C x
set_option genInjectivity false
set_option genSizeOf false
structure Wld where
 prog : Program
 w : World
 K : Frag
 hb : Heap
 mg : Str → Option Value
 mb : Str → Option Value
 os : OsState
 fz : Option (Addr × Obj)
 X : K.In hb
 G : hb.Ns mainGlobals mg
 B : hb.Ns builtinsNs mb
 bt : ∀ x : Str, x ≠ "__name__" → mb x = bootBuiltins x
 nl : hb.NoLimit
 sysm : ∃ o, hb.get? sysModules = some o
 con : ∀ x i, gcon x = some i → ∃ t, nsIn K mainGlobals x = some (some (.int i t))
 bis : ∀ x b, biOf x = some b → nsIn K mainGlobals x = some none
 att : ∀ C x, attrOk C x = true → attrStat K (gad K C) x = true
 met : ∀ C x, methOk C x = true → methStat K C x = true
 fns : ∀ x, fnOk x = true → nsIn K mainGlobals x = some (some (.ref (gad K x))) ∧ keepIn K (.ref (gad K x)) = true
noncomputable abbrev Wld.M (W : Wld) : Model := model W.prog W.w
noncomputable def Imm (o : Obj) : Prop := (o.cls = .type "tuple" ∧ ∃ its n, o.data = .seq its n) ∨ (o.cls = .type "range" ∧ ∃ vs, o.data = .fields vs)
noncomputable def KeepImm (h h' : Heap) : Prop := ∀ a o, h.get? a = some o → Imm o → h'.get? a = some o
theorem KeepImm.refl (h : Heap) : KeepImm h h := fun _ _ e _ => e
theorem KeepImm.trans {a b c : Heap} (x : KeepImm a b) (y : KeepImm b c) : KeepImm a c := fun p o e k => y p o (x p o e k) k
mutual
inductive VR (h : Heap) : V → Value → Prop where
 | none : VR h .none .none
 | bool (b) : VR h (.bool b) (.bool b)
 | int (i t) : VR h (.int i) (.int i t)
 | str (x t) : VR h (.str x) (.str x t)
 | ref (a) : VR h (.ref a) (.ref a)
 | tup {a l items n} : h.get? a = some ⟨.type "tuple", Option.none, .seq items n, #[]⟩ → VRs h l items.toList → VR h (.tup l) (.ref a)
 | rng {r a b c t u v} : IsRange h r a b c t u v → VR h (.rng a b c) (.ref r)
inductive VRs (h : Heap) : List V → List Value → Prop where
 | nil : VRs h [] []
 | cons {v x l xs} : VR h v x → VRs h l xs → VRs h (v :: l) (x :: xs)
end
mutual
theorem VR.keep {h h' : Heap} (k : KeepImm h h') : ∀ {v x}, VR h v x → VR h' v x
 | _, _, .none => .none
 | _, _, .bool b => .bool b
 | _, _, .int i t => .int i t
 | _, _, .str x t => .str x t
 | _, _, .ref a => .ref a
 | _, _, .tup e r => .tup (k _ _ e (.inl ⟨rfl, _, _, rfl⟩)) (VRs.keep k r)
 | _, _, .rng e => .rng (k _ _ e (.inr ⟨rfl, _, rfl⟩))
theorem VRs.keep {h h' : Heap} (k : KeepImm h h') : ∀ {l xs}, VRs h l xs → VRs h' l xs
 | _, _, .nil => .nil
 | _, _, .cons a r => .cons (VR.keep k a) (VRs.keep k r)
end
theorem VR.none_inv {h : Heap} {x : Value} (r : VR h .none x) : x = .none := by cases r; rfl
theorem VR.bool_inv {h : Heap} {b : Bool} {x : Value} (r : VR h (.bool b) x) : x = .bool b := by cases r; rfl
theorem VR.int_inv {h : Heap} {i : Int} {x : Value} (r : VR h (.int i) x) : ∃ t, x = .int i t := by cases r; exact ⟨_, rfl⟩
theorem VR.str_inv {h : Heap} {i : Str} {x : Value} (r : VR h (.str i) x) : ∃ t, x = .str i t := by cases r; exact ⟨_, rfl⟩
theorem VR.ref_inv {h : Heap} {a : Addr} {x : Value} (r : VR h (.ref a) x) : x = .ref a := by cases r; rfl
theorem VR.tup_inv {h : Heap} {l : List V} {x : Value} (r : VR h (.tup l) x) : ∃ a items n, x = .ref a ∧ h.get? a = some ⟨.type "tuple", Option.none, .seq items n, #[]⟩ ∧ VRs h l items.toList := by cases r with | tup e r => exact ⟨_, _, _, rfl, e, r⟩
theorem VR.rng_inv {h : Heap} {a b c : Int} {x : Value} (q : VR h (.rng a b c) x) : ∃ r t u v, x = .ref r ∧ IsRange h r a b c t u v := by cases q with | rng e => exact ⟨_, _, _, _, rfl, e⟩
theorem onS_inv {α : Type} {K : α → Prop} : ∀ {o : Option α}, onS K ⟨⟩ o → ∃ a, o = some a ∧ K a
 | some a, h => ⟨a, rfl, h⟩
theorem onI_inv {K : Int → Prop} {v : V} (h : onI K ⟨⟩ v) : ∃ i, v = .int i ∧ K i := by cases v <;> first | exact ⟨_, rfl, h⟩ | exact h.elim
theorem onT_inv {K : List V → Prop} {v : V} (h : onT K ⟨⟩ v) : ∃ i, v = .tup i ∧ K i := by cases v <;> first | exact ⟨_, rfl, h⟩ | exact h.elim
theorem onR_inv {K : Addr → Prop} {v : V} (h : onR K ⟨⟩ v) : ∃ i, v = .ref i ∧ K i := by cases v <;> first | exact ⟨_, rfl, h⟩ | exact h.elim
theorem onNo_inv {K : Prop} {v : V} (h : onNo K ⟨⟩ v) : v = .none ∧ K := by cases v <;> first | exact ⟨rfl, h⟩ | exact h.elim
theorem onL_inv {K : List V → Prop} {o : AO} (h : onL K ⟨⟩ o) : ∃ l, o = .list l ∧ K l := by cases o <;> first | exact ⟨_, rfl, h⟩ | exact h.elim
theorem onF_inv {K : List V → Prop} {o : AO} (h : onF K ⟨⟩ o) : ∃ l, o = .flist l ∧ K l := by cases o <;> first | exact ⟨_, rfl, h⟩ | exact h.elim
theorem onD_inv {K : List (Str × V) → Prop} {o : AO} (h : onD K ⟨⟩ o) : ∃ l, o = .dict l ∧ K l := by cases o <;> first | exact ⟨_, rfl, h⟩ | exact h.elim
theorem onId_inv {K : List (Int × V) → Prop} {o : AO} (h : onId K ⟨⟩ o) : ∃ l, o = .idict l ∧ K l := by cases o <;> first | exact ⟨_, rfl, h⟩ | exact h.elim
theorem onN_inv {K : Str → Addr → Prop} {o : AO} (h : onN K ⟨⟩ o) : ∃ C d, o = .inst C d ∧ K C d := by cases o <;> first | exact ⟨_, _, rfl, h⟩ | exact h.elim
theorem onA_true {A : Prop} {c : Bool} (h : onA A ⟨⟩ c) : c = true ∧ A := by cases c <;> first | exact ⟨rfl, h⟩ | exact h.elim
theorem onII_inv {a b : V} {K : Int → Int → Prop} (h : onII a b K) : ∃ i j, a = .int i ∧ b = .int j ∧ K i j := let ⟨i, e, h⟩ := onI_inv h; let ⟨j, f, h⟩ := onI_inv h; ⟨i, j, e, f, h⟩
theorem lst_inv {σ : AH} {a : Addr} {K : List V → Prop} (h : lstAt σ a K) : ∃ l, σ a = some (.list l) ∧ K l := let ⟨_, e, h⟩ := onS_inv h; let ⟨l, f, h⟩ := onL_inv h; ⟨l, by rw [e, f], h⟩
theorem dct_inv {σ : AH} {a : Addr} {K : List (Str × V) → Prop} (h : dctAt σ a K) : ∃ l, σ a = some (.dict l) ∧ K l := let ⟨_, e, h⟩ := onS_inv h; let ⟨l, f, h⟩ := onD_inv h; ⟨l, by rw [e, f], h⟩
theorem ints_inv {σ : AH} {a : Addr} {K : List Int → Prop} (h : intsAt σ a K) : ∃ l xs, σ a = some (.list l) ∧ asInts l = some xs ∧ K xs := let ⟨l, e, h⟩ := lst_inv h; let ⟨xs, f, h⟩ := onS_inv h; ⟨l, xs, e, f, h⟩
theorem VRs.inv_nil {h : Heap} {xs} (r : VRs h [] xs) : xs = [] := by cases r; rfl
theorem VRs.inv_cons {h : Heap} {v l xs} (r : VRs h (v :: l) xs) : ∃ x ys, xs = x :: ys ∧ VR h v x ∧ VRs h l ys := by cases r with | cons a b => exact ⟨_, _, rfl, a, b⟩
theorem VRs.length {h : Heap} : ∀ {l xs}, VRs h l xs → l.length = xs.length
 | [], xs, r => by rw [r.inv_nil]; rfl
 | v :: l, xs, r => by
   refine (xE2 fun x ys => aE3 fun e _ b => ?_) r.inv_cons
   rw [e]; exact congrArg (· + 1) b.length
theorem VRs.get {h : Heap} : ∀ {l xs} {i : Nat} {v : V}, VRs h l xs → l[i]? = some v → ∃ x, xs[i]? = some x ∧ VR h v x
 | [], _, _, _, _, e => by cases e
 | u :: l, xs, i, v, r, e => by
   refine (xE2 fun x ys => aE3 fun e1 a b => ?_) r.inv_cons
   rw [e1]
   cases i with
   | zero => cases e; exact ⟨_, rfl, a⟩
   | succ i => exact b.get (i := i) e
theorem VRs.append {h : Heap} : ∀ {l xs k ys}, VRs h l xs → VRs h k ys → VRs h (l ++ k) (xs ++ ys)
 | [], xs, _, _, r, b => by rw [r.inv_nil]; exact b
 | v :: l, xs, _, _, r, b => by
   refine (xE2 fun x ys => aE3 fun e1 a c => ?_) r.inv_cons
   rw [e1]; exact .cons a (c.append b)
theorem VRs.one {h : Heap} {v x} (a : VR h v x) : VRs h [v] [x] := .cons a .nil
theorem VRs.set {h : Heap} : ∀ {l xs} (i : Nat) {v x}, VRs h l xs → VR h v x → VRs h (l.set i v) (xs.set i x)
 | [], xs, _, _, _, r, _ => by rw [r.inv_nil]; exact .nil
 | u :: l, xs, i, v, x, r, b => by
   refine (xE2 fun y ys => aE3 fun e1 a c => ?_) r.inv_cons
   rw [e1]
   cases i with
   | zero => exact .cons b c
   | succ i => exact .cons a (c.set i b)
theorem VRs.eraseIdx {h : Heap} : ∀ {l xs} (i : Nat), VRs h l xs → VRs h (l.eraseIdx i) (xs.eraseIdx i)
 | [], xs, _, r => by rw [r.inv_nil]; exact .nil
 | u :: l, xs, i, r => by
   refine (xE2 fun y ys => aE3 fun e1 a c => ?_) r.inv_cons
   rw [e1]
   cases i with
   | zero => exact c
   | succ i => exact .cons a (c.eraseIdx i)
theorem VRs.replicate {h : Heap} {v x} (a : VR h v x) : ∀ n, VRs h (List.replicate n v) (List.replicate n x)
 | 0 => .nil
 | n + 1 => .cons a (VRs.replicate a n)
theorem VRs.dropLast {h : Heap} : ∀ {l xs}, VRs h l xs → VRs h l.dropLast xs.dropLast
 | [], xs, r => by rw [r.inv_nil]; exact .nil
 | [v], xs, r => by
   refine (xE2 fun x ys => aE3 fun e a b => ?_) r.inv_cons
   rw [e, b.inv_nil]; exact .nil
 | v :: w :: l, xs, r => by
   refine (xE2 fun x ys => aE3 fun e a b => ?_) r.inv_cons
   refine (xE2 fun y zs => aE3 fun e2 _ _ => ?_) b.inv_cons
   have q := VRs.dropLast b
   rw [e, e2] at *
   exact .cons a q
theorem VRs.last {h : Heap} : ∀ {l xs} {v}, VRs h l xs → l.getLast? = some v → ∃ x, xs.getLast? = some x ∧ VR h v x
 | [], xs, v, r, e => by cases e
 | [u], xs, v, r, e => by
   refine (xE2 fun x ys => aE3 fun e1 a b => ?_) r.inv_cons
   rw [e1, b.inv_nil]; cases e; exact ⟨_, rfl, a⟩
 | u :: w :: l, xs, v, r, e => by
   refine (xE2 fun x ys => aE3 fun e1 a b => ?_) r.inv_cons
   refine (xE2 fun y zs => aE3 fun e2 _ _ => ?_) b.inv_cons
   have q := VRs.last b (by rwa [List.getLast?_cons_cons] at e)
   rw [e1, e2] at *
   rw [List.getLast?_cons_cons]; exact q
theorem VRs.ints {h : Heap} : ∀ {l xs} {ns}, VRs h l xs → asInts l = some ns → IntsAre xs ns
 | [], xs, ns, r, e => by cases r; cases e; exact .nil
 | u :: l, xs, ns, r, e => by
   cases r with
   | cons a r =>
     cases u with
     | int i =>
       refine (xE1 fun ms => aE2 fun e1 oy0 => ?_) (Option.map_eq_some_iff.mp e); obtain rfl := oy0
       obtain ⟨t, rfl⟩ := a.int_inv
       exact .cons i t (r.ints e1)
     | _ => cases e
inductive KRs {α : Type} (h : Heap) : List (α × V) → List (α × Value) → Prop where
 | nil : KRs h [] []
 | cons {k v x l xs} : VR h v x → KRs h l xs → KRs h ((k, v) :: l) ((k, x) :: xs)
theorem KRs.keep {α : Type} {h h' : Heap} (k : KeepImm h h') {l : List (α × V)} {xs} (r : KRs h l xs) : KRs h' l xs := by
 induction r with
 | nil => exact .nil
 | cons a _ ih => exact .cons (a.keep k) ih
theorem KRs.length {α : Type} {h : Heap} {l : List (α × V)} {xs} (r : KRs h l xs) : l.length = xs.length := by
 induction r with
 | nil => rfl
 | cons _ _ ih => exact congrArg (· + 1) ih
theorem KRs.keys {α : Type} {h : Heap} {l : List (α × V)} {xs} (r : KRs h l xs) : l.map (·.1) = xs.map (·.1) := by
 induction r with
 | nil => rfl
 | cons _ _ ih => exact congrArg (_ :: ·) ih
theorem KRs.getF {h : Heap} {x : Str} {l : List (Str × V)} {xs} (r : KRs h l xs) :
   (∀ v, getF l x = some v → ∃ y, valueAt xs x = some y ∧ VR h v y) ∧ (Mine.getF l x = Option.none → valueAt xs x = Option.none) := by
 induction r with
 | nil => exact ⟨fun _ e => (nomatch e), fun _ => rfl⟩
 | @cons k v y l xs a r ih =>
   rw [getF_eq]; unfold valueAt
   rw [List.find?_cons]
   by_cases hk : k = x
   · rw [if_pos hk, decide_eq_true hk]
     exact ⟨fun v' e => by cases e; exact ⟨_, rfl, a⟩, fun e => by cases e⟩
   · rw [if_neg hk, decide_eq_false hk]
     exact ih
theorem KRs.getI {h : Heap} {x : Int} {l : List (Int × V)} {xs} (r : KRs h l xs) :
   (∀ v, getI l x = some v → ∃ y, valueAt xs x = some y ∧ VR h v y) ∧ (Mine.getI l x = Option.none → valueAt xs x = Option.none) := by
 induction r with
 | nil => exact ⟨fun _ e => (nomatch e), fun _ => rfl⟩
 | @cons k v y l xs a r ih =>
   unfold Mine.getI valueAt
   rw [List.find?_cons]
   by_cases hk : k = x
   · rw [if_pos hk, decide_eq_true hk]
     exact ⟨fun v' e => by cases e; exact ⟨_, rfl, a⟩, fun e => by cases e⟩
   · rw [if_neg hk, decide_eq_false hk]
     exact ih
theorem stored_cons_eq {α : Type} [DecidableEq α] {xs : List (α × Value)} {k : α} {y x : Value} (hn : (((k, y) :: xs).map (·.1)).Nodup) : stored ((k, y) :: xs) k x = (k, x) :: xs := by
 unfold stored
 rw [if_pos (by simp), List.map_cons, if_pos rfl]
 rw [List.map_cons, List.nodup_cons] at hn
 rw [map_store_of_not_mem _ _ _ hn.1]
theorem stored_cons_ne {α : Type} [DecidableEq α] {xs : List (α × Value)} {k j : α} {y x : Value} (hk : j ≠ k) : stored ((j, y) :: xs) k x = (j, y) :: stored xs k x := by
 unfold stored
 simp only [List.any_cons, hk, decide_false, Bool.false_or, List.map_cons, if_false]
 split <;> rfl
theorem KRs.setF {h : Heap} {k : Str} {v x} (b : VR h v x) {l : List (Str × V)} {xs} (r : KRs h l xs) : (xs.map (·.1)).Nodup → KRs h (setF l k v) (stored xs k x) := by
 induction r with
 | nil => exact fun _ => .cons b .nil
 | @cons j w y l xs a r ih =>
   intro hn
   rw [setF_eq]
   by_cases hk : j = k
   · subst hk
     rw [if_pos rfl, stored_cons_eq hn]
     exact .cons b r
   · rw [if_neg hk, stored_cons_ne hk]
     rw [List.map_cons, List.nodup_cons] at hn
     exact .cons a (ih hn.2)
theorem KRs.setI {h : Heap} {k : Int} {v x} (b : VR h v x) {l : List (Int × V)} {xs} (r : KRs h l xs) : (xs.map (·.1)).Nodup → KRs h (setI l k v) (stored xs k x) := by
 induction r with
 | nil => exact fun _ => .cons b .nil
 | @cons j w y l xs a r ih =>
   intro hn
   unfold Mine.setI
   by_cases hk : j = k
   · subst hk
     rw [if_pos rfl, stored_cons_eq hn]
     exact .cons b r
   · rw [if_neg hk, stored_cons_ne hk]
     rw [List.map_cons, List.nodup_cons] at hn
     exact .cons a (ih hn.2)
noncomputable def OR (W : Wld) (h : Heap) (a : Addr) : AO → Prop
 | .list l => ∃ items n, h.get? a = some (listOf items n) ∧ VRs h l items.toList
 | .inst C d => h.get? a = some (instObj (gad W.K C) d)
 | .dict l => ∃ kvs, h.DictOf (strKind W.prog W.w) a kvs ∧ KRs h l kvs
 | .idict l => ∃ kvs, h.DictOf (intKind W.prog W.w) a kvs ∧ KRs h l kvs
 | .flist l => ∃ o items n, W.fz = some (a, o) ∧ h.get? a = some o ∧ o.cls = .type "list" ∧ o.data = .seq items n ∧ VRs h l items.toList
theorem Imm.no_dict {o : Obj} {es ep} (h : o.data = .dict es ep) : ¬ Imm o := by
 rintro (⟨_, _, _, q⟩ | ⟨_, _, q⟩) <;> (rw [h] at q; cases q)
theorem Imm.no_cell {o : Obj} {v} (h : o.data = .cell v) : ¬ Imm o := by
 rintro (⟨_, _, _, q⟩ | ⟨_, _, q⟩) <;> (rw [h] at q; cases q)
theorem Imm.no_cls {o : Obj} {n : String} (h : o.cls = .type n) (h1 : n ≠ "tuple") (h2 : n ≠ "range") : ¬ Imm o := by
 rintro (⟨q, _⟩ | ⟨q, _⟩) <;> (rw [h] at q; cases q; contradiction)
theorem OR.at {W : Wld} {h : Heap} {a : Addr} {o : AO} (r : OR W h a o) : ∃ ob, h.get? a = some ob ∧ ¬ Imm ob := by
 cases o with
 | list l => exact (xE2 fun _ _ => aE2 fun e _ => ⟨_, e, Imm.no_cls (n := "list") rfl (by decide) (by decide)⟩) r
 | inst C d => exact ⟨_, r, fun q => q.elim (fun q => nomatch q.1) fun q => nomatch q.1⟩
 | dict l => exact (xE1 fun _ => aE2 fun q _ => (xE3 fun o es ep => aE3 fun e x _ => ⟨o, e, Imm.no_cls x.1 (by decide) (by decide)⟩) q) r
 | idict l => exact (xE1 fun _ => aE2 fun q _ => (xE3 fun o es ep => aE3 fun e x _ => ⟨o, e, Imm.no_cls x.1 (by decide) (by decide)⟩) q) r
 | flist l => exact (xE3 fun _ _ _ => aE5 fun _ e c _ _ => ⟨_, e, Imm.no_cls c (by decide) (by decide)⟩) r
theorem OR.keep {W : Wld} {h h' : Heap} {a : Addr} (k : KeepImm h h') (e : ∀ ob, h.get? a = some ob → h'.get? a = some ob) {o : AO} (r : OR W h a o) : OR W h' a o := by
 cases o with
 | list l => exact (xE2 fun _ _ => aE2 fun q r => ⟨_, _, e _ q, r.keep k⟩) r
 | inst C d => exact e _ r
 | dict l => exact (xE1 fun _ => aE2 fun q r => (xE3 fun o es ep => aE2 fun q x => ⟨_, ⟨o, es, ep, e _ q, x⟩, r.keep k⟩) q) r
 | idict l => exact (xE1 fun _ => aE2 fun q r => (xE3 fun o es ep => aE2 fun q x => ⟨_, ⟨o, es, ep, e _ q, x⟩, r.keep k⟩) q) r
 | flist l => exact (xE3 fun _ _ _ => aE5 fun f q c d r => ⟨_, _, _, f, e _ q, c, d, r.keep k⟩) r
structure Rep (W : Wld) (σ : AH) (s : Shared) : Prop where
 base : ∀ b o, W.hb.get? b = some o → s.heap.get? b = some o
 nobase : ∀ a o, σ a = some o → W.hb.get? a = Option.none
 objs : ∀ a o, σ a = some o → OR W s.heap a o
 gens : s.gens = #[]
 os : s.os = W.os
structure Step (σ : AH) (s : Shared) (σ' : AH) (s' : Shared) : Prop where
 hid : ∀ b o, s.heap.get? b = some o → σ b = Option.none → s'.heap.get? b = some o ∧ σ' b = Option.none
 imm : KeepImm s.heap s'.heap
theorem Step.refl (σ : AH) (s : Shared) : Step σ s σ s := ⟨fun _ _ e n => ⟨e, n⟩, .refl _⟩
theorem Step.trans {σ₁ σ₂ σ₃ : AH} {s₁ s₂ s₃ : Shared} (x : Step σ₁ s₁ σ₂ s₂) (y : Step σ₂ s₂ σ₃ s₃) : Step σ₁ s₁ σ₃ s₃ :=
 ⟨fun b o e n => let ⟨e', n'⟩ := x.hid b o e n; y.hid b o e' n', x.imm.trans y.imm⟩
theorem Rep.lt {W : Wld} {σ : AH} {s : Shared} (R : Rep W σ s) {a : Addr} {o : AO} (e : σ a = some o) : a < s.heap.objs.size := let ⟨_, q, _⟩ := (R.objs a o e).at; Heap.lt_size q
theorem Rep.fresh {W : Wld} {σ : AH} {s : Shared} (R : Rep W σ s) : σ s.heap.objs.size = Option.none := by
 cases e : σ s.heap.objs.size with
 | none => rfl
 | some o => exact absurd (R.lt e) (Nat.lt_irrefl _)
theorem get?_size (h : Heap) : h.get? h.objs.size = Option.none := by
 cases e : h.get? h.objs.size with
 | none => rfl
 | some o => exact absurd (Heap.lt_size e) (Nat.lt_irrefl _)
theorem Rep.same {W : Wld} {σ : AH} {s s' : Shared} (R : Rep W σ s) (k : ∀ b o, s.heap.get? b = some o → s'.heap.get? b = some o) (g : s'.gens = s.gens := by rfl) (q : s'.os = s.os := by rfl) : Rep W σ s' ∧ Step σ s σ s' :=
 have ki : KeepImm s.heap s'.heap := fun a o e _ => k a o e
 ⟨⟨fun b o e => k _ _ (R.base b o e), R.nobase, fun a o e => (R.objs a o e).keep ki (k a), g.trans R.gens, q.trans R.os⟩, ⟨fun b o e n => ⟨k b o e, n⟩, ki⟩⟩
theorem Rep.change {W : Wld} {σ : AH} {s s' : Shared} (R : Rep W σ s) (a : Addr) (ao : AO) (k : ∀ b o, b ≠ a → s.heap.get? b = some o → s'.heap.get? b = some o)
   (ha : (∃ o, σ a = some o) ∨ s.heap.get? a = Option.none) (ho : KeepImm s.heap s'.heap → OR W s'.heap a ao) (g : s'.gens = s.gens := by rfl) (q : s'.os = s.os := by rfl) : Rep W (σ.set a ao) s' ∧ Step σ s (σ.set a ao) s' := by
 have nb : W.hb.get? a = Option.none := by
   rcases ha with ⟨o, e⟩ | e
   · exact R.nobase _ _ e
   · cases q : W.hb.get? a with
     | none => rfl
     | some o => rw [R.base _ _ q] at e; cases e
 have ki : KeepImm s.heap s'.heap := fun b o e c => by
   by_cases h : b = a
   · subst h
     rcases ha with ⟨x, e'⟩ | e'
     · refine (xE1 fun ob => aE2 fun q1 q2 => ?_) ((R.objs _ _ e').at)
       rw [e] at q1; cases q1
       exact absurd c q2
     · rw [e'] at e; cases e
   · exact k b o h e
 refine ⟨⟨fun b o e => ?_, fun b o e => ?_, fun b o e => ?_, g.trans R.gens, q.trans R.os⟩, fun b o e n => ?_, ki⟩
 · exact k b o (fun h => by rw [h, nb] at e; cases e) (R.base b o e)
 · unfold AH.set at e
   by_cases h : b = a
   · rw [h]; exact nb
   · rw [if_neg h] at e; exact R.nobase b o e
 · unfold AH.set at e
   by_cases h : b = a
   · rw [if_pos h] at e; cases e; rw [h]; exact ho ki
   · rw [if_neg h] at e; exact (R.objs b o e).keep ki fun ob => k b ob h
 · have h : b ≠ a := fun h => by
     subst h
     rcases ha with ⟨x, e'⟩ | e'
     · rw [n] at e'; cases e'
     · rw [e'] at e; cases e
   exact ⟨k b o h e, by unfold AH.set; rw [if_neg h]; exact n⟩
theorem Rep.toks {W : Wld} {σ : AH} {s : Shared} (R : Rep W σ s) (t : Nat) : Rep W σ { s with toks := t } ∧ Step σ s σ { s with toks := t } := R.same (fun _ _ e => e)
structure Room (A : Around) (r k : Nat) : Prop where
 hd : A.handled = Option.none
 depth : A.depth + 2 * r ≤ 990
 units : A.units + 40 * r + k ≤ 9800
structure EnvOk (env : Env) : Prop where
 kind : env.scope.kind = .function
 glob : env.globals = mainGlobals
 blt : env.builtins = builtinsNs
structure FR (W : Wld) (env : Env) (m : Loc) (σ : AH) (h : Heap) : Prop where
 loc : ∃ mc, h.Ns env.locals mc ∧ ∀ x v, m x = some v → env.kindOf x = some .local → x ≠ ".0" → ∃ y, mc x = some y ∧ VR h v y
 cell : ∀ x v, m x = some v → env.kindOf x = some .cell → ∃ c o y, env.cells.lookup x = some c ∧ h.get? c = some o ∧ o.data = .cell (some y) ∧ VR h v y
 cells : ∀ x, env.kindOf x = some .cell → ∃ c o y, env.cells.lookup x = some c ∧ h.get? c = some o ∧ o.data = .cell y
 apart : ∀ x y c, env.kindOf x = some .cell → env.kindOf y = some .cell → env.cells.lookup x = some c → env.cells.lookup y = some c → x = y
 hidL : σ env.locals = Option.none
 hidC : ∀ x c, env.kindOf x = some .cell → env.cells.lookup x = some c → σ c = Option.none ∧ W.hb.get? c = Option.none
 above : W.hb.get? env.locals = Option.none
theorem Ns.at {h : Heap} {a : Addr} {m} (n : h.Ns a m) : ∃ o, h.get? a = some o := let ⟨o, _, _, e, _⟩ := n; ⟨o, e⟩
theorem FR.step {W : Wld} {env : Env} {m : Loc} {σ σ' : AH} {s s' : Shared} (F : FR W env m σ s.heap) (S : Step σ s σ' s') : FR W env m σ' s'.heap := by
 obtain ⟨mc, n, hv⟩ := F.loc
 revert n; refine xE3 fun oL es ep => aE2 fun eL r => ?_
 obtain ⟨eL', hL'⟩ := S.hid _ _ eL F.hidL
 refine ⟨⟨mc, ⟨oL, es, ep, eL', r⟩, fun x v e k nz => ?_⟩, fun x v e k => ?_, fun x k => ?_, F.apart, hL', fun x c k e => ?_, F.above⟩
 · (refine (xE1 fun y => aE2 fun a b => ?_) (hv x v e k nz)); exact ⟨y, a, b.keep S.imm⟩
 · refine (xE3 fun c o y => aE4 fun a b d w => ?_) (F.cell x v e k)
   exact ⟨c, o, y, a, (S.hid c o b (F.hidC x c k a).1).1, d, w.keep S.imm⟩
 · refine (xE3 fun c o y => aE3 fun a b d => ?_) (F.cells x k)
   exact ⟨c, o, y, a, (S.hid c o b (F.hidC x c k a).1).1, d⟩
 · refine (xE3 fun c' o y => aE3 fun a b d => ?_) (F.cells x k)
   rw [e] at a; cases a
   exact ⟨(S.hid c o b (F.hidC x c k e).1).2, (F.hidC x c k e).2⟩
structure Ok (W : Wld) (env : Env) (m : Loc) (σ : AH) (s : Shared) : Prop where
 rep : Rep W σ s
 fr : FR W env m σ s.heap
theorem Ok.step {W : Wld} {env : Env} {m : Loc} {σ σ' : AH} {s s' : Shared} (O : Ok W env m σ s) (R : Rep W σ' s') (S : Step σ s σ' s') : Ok W env m σ' s' := ⟨R, O.fr.step S⟩
noncomputable abbrev NoE : Value → Shared → Prop := fun _ _ => False
noncomputable def SatE (W : Wld) (env : Env) (r k : Nat) (t : Sem Value) (m : Loc) (σ : AH) (Q : V → AH → Prop) : Prop :=
 ∀ A s, Room A r k → Ok W env m σ s → ∀ P : Value → Shared → Prop, (∀ u v σ' s', VR s'.heap u v → Ok W env m σ' s' → Step σ s σ' s' → Q u σ' → P v s') → wpAny W.M A t P NoE s
noncomputable def SatP (W : Wld) (A : Around) (t : Sem Value) (σ : AH) (s : Shared) (Q : V → AH → Prop) : Prop :=
 ∀ P : Value → Shared → Prop, (∀ u v σ' s', VR s'.heap u v → Rep W σ' s' → Step σ s σ' s' → Q u σ' → P v s') → wpAny W.M A t P NoE s
noncomputable def SatPB (W : Wld) (A : Around) (t : Sem Bool) (σ : AH) (s : Shared) (Q : Bool → AH → Prop) : Prop :=
 ∀ P : Bool → Shared → Prop, (∀ b σ' s', Rep W σ' s' → Step σ s σ' s' → Q b σ' → P b s') → wpAny W.M A t P NoE s
noncomputable def SatPU (W : Wld) (A : Around) (t : Sem Unit) (σ : AH) (s : Shared) (Q : AH → Prop) : Prop :=
 ∀ P : Unit → Shared → Prop, (∀ σ' s', Rep W σ' s' → Step σ s σ' s' → Q σ' → P () s') → wpAny W.M A t P NoE s
noncomputable def CallSat (W : Wld) (r : Nat) (f : CF) (args : List V) (σ : AH) (Q : V → AH → Prop) : Prop :=
 ∀ A s vs, Room A r 30 → Rep W σ s → VRs s.heap args vs → codeAny W.M A (.call (.ref (f.addr W.K)) ⟨vs, []⟩)
   (fun res s' => ∃ v u σ', res = .ok (.ret v) ∧ VR s'.heap u v ∧ Rep W σ' s' ∧ Step σ s σ' s' ∧ Q u σ') s
theorem CallSat.mono {W : Wld} {r : Nat} {f : CF} {args : List V} {σ : AH} {Q Q' : V → AH → Prop} (h : CallSat W r f args σ Q) (k : ∀ v σ', Q v σ' → Q' v σ') : CallSat W r f args σ Q' :=
 fun A s vs R Rp va => codeAny_mono (h A s vs R Rp va) fun _ _ z => (xE3 fun v u σ' => aE5 fun a b c d e => ⟨v, u, σ', a, b, c, d, k _ _ e⟩) z
set_option backward.match.sparseCases false
section
variable {W : Wld} {A : Around} {σ : AH} {s : Shared}
theorem SatP.val {t : Sem Value} {Q : V → AH → Prop} {u : V} {v : Value} {σ' : AH} {s' : Shared} (hq : Q u σ') (hs : Rep W σ' s' ∧ Step σ s σ' s') (hv : VR s'.heap u v)
   (h : ∀ P : Value → Shared → Prop, P v s' → wpAny W.M A t P NoE s) : SatP W A t σ s Q := fun P hP => h P (hP u v σ' s' hv hs.1 hs.2 hq)
theorem SatPB.val {t : Sem Bool} {Q : Bool → AH → Prop} {u : Bool} {σ' : AH} {s' : Shared} (hq : Q u σ') (hs : Rep W σ' s' ∧ Step σ s σ' s')
   (h : ∀ P : Bool → Shared → Prop, P u s' → wpAny W.M A t P NoE s) : SatPB W A t σ s Q := fun P hP => h P (hP u σ' s' hs.1 hs.2 hq)
theorem SatPU.val {t : Sem Unit} {Q : AH → Prop} {σ' : AH} {s' : Shared} (hq : Q σ') (hs : Rep W σ' s' ∧ Step σ s σ' s')
   (h : ∀ P : Unit → Shared → Prop, P () s' → wpAny W.M A t P NoE s) : SatPU W A t σ s Q := fun P hP => h P (hP σ' s' hs.1 hs.2 hq)
theorem smallI_bits {a : Int} (h : smallI a) : Builtin.Int.intBits a ≤ 64 := by
 unfold smallI at h
 unfold Builtin.Int.intBits
 split
 · lia
 · have : a.natAbs.log2 < 61 := (Nat.log2_lt (by intro e; simp_all)).mpr (by lia)
   lia
theorem noPy {a b : Int} (h : smallI b) : Builtin.divisionGoesByPylong a b = false := PyProof.noPylong_of_log2 (by
 unfold smallI at h
 by_cases e : b.natAbs = 0
 · rw [e]; decide +kernel
 · have := (Nat.log2_lt e (k := 61)).mpr (by lia)
   lia)
theorem foldl_one (y : Value) : ∀ (n : Nat) (acc : Array Value), List.foldl (fun x1 x2 => x1 ++ x2) acc (List.replicate n #[y]) = acc ++ (List.replicate n y).toArray
 | 0, acc => by simp
 | n + 1, acc => by
   rw [List.replicate_succ, List.foldl_cons, foldl_one y n, List.replicate_succ]
   apply Array.toList_inj.mp
   simp
theorem list_at {R : Rep W σ s} {a : Addr} {l : List V} (e : σ a = some (.list l)) : ∃ items n, s.heap.get? a = some (PySem.W.listOf items n) ∧ VRs s.heap l items.toList := R.objs a _ e
theorem sizeOk_line {n : Nat} (h : sizeOk n) : n ≤ sizeLine := by unfold sizeOk at h; rw [sizeLine_eq]; lia
theorem Rep.newList (R : Rep W σ s) {l : List V} {items : Array Value} {n : Nat} (t : Nat) (hv : VRs s.heap l items.toList) :
   Rep W (σ.set s.heap.objs.size (.list l)) { s with heap := s.heap.push (PySem.W.listOf items n), toks := t } ∧ Step σ s (σ.set s.heap.objs.size (.list l)) { s with heap := s.heap.push (PySem.W.listOf items n), toks := t } :=
 R.change s.heap.objs.size (.list l) (fun b o _ e => Heap.get?_push_of_some _ e) (.inr (get?_size _)) fun ki => ⟨items, n, Heap.get?_push_size _ rfl, hv.keep ki⟩
theorem sat_bin {op : Operator} {u v : V} {x y : Value} {Q : V → AH → Prop} (R : Rep W σ s) (hu : VR s.heap u x) (hv : VR s.heap v y)
   (h : wpBin op u v σ Q) : SatP W A (binaryOp op x y) σ s Q := by
 have val : ∀ {v : Int} {t : Sem Value}, Q (.int v) σ → (∀ {Q : Value → Shared → Prop}, Q (.int v s.toks) { s with toks := s.toks + 1 } → wpAny W.M A t Q NoE s) → SatP W A t σ s Q := fun h k => SatP.val h (R.toks _) (.int _ _) fun P hP => k hP
 have two : ∀ {K : Int → Int → Prop}, onII u v K → ∃ i j t t', x = .int i t ∧ y = .int j t' ∧ K i j := fun h => by
   refine (xE2 fun i j => aE2 fun oy0 oy1 => ?_) (onII_inv h); obtain rfl := oy0; obtain ⟨rfl, h⟩ := oy1
   obtain ⟨t, rfl⟩ := hu.int_inv
   obtain ⟨t', rfl⟩ := hv.int_inv
   exact ⟨i, j, t, t', rfl, rfl, h⟩
 cases op with
 | Sub => (refine (xE4 fun i j t t' => aE2 fun oy2 oy3 => ?_) (two h); obtain rfl := oy2; obtain ⟨rfl, h⟩ := oy3); exact val h fun hP => PySem.P.sub_int hP
 | FloorDiv => (refine (xE4 fun i j t t' => aE2 fun oy4 oy5 => ?_) (two h); obtain rfl := oy4; revert oy5; refine aE2 fun oy6 oy7 => ?_; obtain rfl := oy6; revert oy7; refine aE4 fun h1 h2 h3 h => ?_); exact val h fun hP => floordiv_int h3 hP (.inl (noPy h2))
 | Mod => (refine (xE4 fun i j t t' => aE2 fun oy8 oy9 => ?_) (two h); obtain rfl := oy8; revert oy9; refine aE2 fun oy10 oy11 => ?_; obtain rfl := oy10; obtain ⟨h3, h⟩ := oy11); exact val h fun hP => mod_int' h3 hP
 | LShift => (refine (xE4 fun i j t t' => aE2 fun oy12 oy13 => ?_) (two h); obtain rfl := oy12; revert oy13; refine aE2 fun oy14 oy15 => ?_; obtain rfl := oy14; revert oy15; refine aE4 fun h1 h2 h3 h => ?_); exact val h fun hP => lshift_int_small h2 (by lia) (by unfold smallI at h1; lia) hP
 | RShift => (refine (xE4 fun i j t t' => aE2 fun oy16 oy17 => ?_) (two h); obtain rfl := oy16; revert oy17; refine aE2 fun oy18 oy19 => ?_; obtain rfl := oy18; obtain ⟨h1, h⟩ := oy19); exact val h fun hP => rshift_int h1 hP
 | BitAnd => (refine (xE4 fun i j t t' => aE2 fun oy20 oy21 => ?_) (two h); obtain rfl := oy20; obtain ⟨rfl, h⟩ := oy21); exact val h fun hP => and_int hP
 | BitOr => (refine (xE4 fun i j t t' => aE2 fun oy22 oy23 => ?_) (two h); obtain rfl := oy22; obtain ⟨rfl, h⟩ := oy23); exact val h fun hP => or_int hP
 | Add =>
   cases u with
   | int i =>
     refine (xE1 fun j => aE2 fun oy24 oy25 => ?_) (onI_inv h); obtain rfl := oy24; revert oy25; intro h
     obtain ⟨t, rfl⟩ := hu.int_inv
     obtain ⟨t', rfl⟩ := hv.int_inv
     exact val h fun hP => PySem.P.add_int hP
   | ref a =>
     refine (xE1 fun b => aE2 fun oy26 oy27 => ?_) (onR_inv h); obtain rfl := oy26; revert oy27; intro h
     obtain rfl := hu.ref_inv
     obtain rfl := hv.ref_inv
     refine (xE1 fun l => aE2 fun ea h => ?_) (lst_inv h)
     refine (xE1 fun k => aE3 fun eb hz h => ?_) (lst_inv h)
     refine (xE2 fun it1 n1 => aE2 fun e1 r1 => ?_) (R.objs _ _ ea)
     refine (xE2 fun it2 n2 => aE2 fun e2 r2 => ?_) (R.objs _ _ eb)
     have hsz : it1.size + it2.size ≤ sizeLine := by
       have := r1.length; have := r2.length; have := sizeOk_line hz
       simp only [Array.length_toList] at *; lia
     exact SatP.val (h _ R.fresh) (R.newList s.toks (items := it1 ++ it2) (n := 0) (by rw [Array.toList_append]; exact r1.append r2)) (.ref _) fun P hP =>
       concat_meets ⟨_, e1, rfl⟩ ⟨_, e2, rfl⟩ noFill_list_add seq_list_add PySem.F.slot_list_add PySem.F.entry_list_add (PySem.F.args_list_add_2 _ _) (PySem.AutoSeq1.list___add___list_list_0 _ _ _ _ _ _ hsz) ⟨e1, e2, hP⟩
   | _ => exact h.elim
 | Mult =>
   cases u with
   | int i =>
     refine (xE1 fun j => aE2 fun oy28 oy29 => ?_) (onI_inv h); obtain rfl := oy28; revert oy29; refine aE3 fun h1 h2 h => ?_
     obtain ⟨t, rfl⟩ := hu.int_inv
     obtain ⟨t', rfl⟩ := hv.int_inv
     exact val h fun hP => PySem.P.mul_int hP (.of_left (smallI_bits h1))
   | ref a =>
     refine (xE1 fun i => aE2 fun oy30 oy31 => ?_) (onI_inv h); obtain rfl := oy30; revert oy31; intro h
     obtain rfl := hu.ref_inv
     obtain ⟨t, rfl⟩ := hv.int_inv
     refine (xE1 fun l => aE2 fun ea h => ?_) (lst_inv h)
     match l, h with
     | [w], h =>
       revert h; refine aE3 fun h0 h1 h => ?_
       refine (xE2 fun it1 n1 => aE2 fun e1 r1 => ?_) (R.objs _ _ ea)
       obtain ⟨li⟩ := it1
       cases r1 with | @cons _ y' _ _ a r => cases r with | nil =>
       refine SatP.val (h _ R.fresh) (R.newList s.toks (items := (List.replicate _ y').toArray) (n := 0) (VRs.replicate a _)) (.ref _) fun P hP =>
         wpAny_binaryOp_repeat_ref (T := "list") (U := "int") (by decide) ⟨_, e1, rfl⟩ (fun s' => typeIs_int s' _ _) noFill_list_mul PySem.F.fills_int_mul PySem.F.slot_int_rmul repeat_list PySem.F.slot_int_index.lookup
           (call_meets PySem.F.slot_int_rmul (typeIs_int s _ _) PySem.F.entry_int_rmul (PySem.F.args_int_rmul_2 _ _) (int___rmul___int_list _ _ _ _ _)
             ⟨e1, rfl, ⟨_, e1, rfl⟩, call_meets PySem.F.slot_list_mul ⟨_, e1, rfl⟩ PySem.F.entry_list_mul (PySem.F.args_list_mul_2 _ _)
               (PySem.AutoListH.list___mul___list_int_3 _ _ _ _ _ (by simp [Builtin.List.listFitsIndex]; lia) (by (have hs : (Array.mk [y']).size = 1 := rfl); rw [hs]; lia) (by (have hs : (Array.mk [y']).size = 1 := rfl); rw [hs]; simp [Builtin.List.listTooLong, sizeLine]; lia)) ⟨e1, ?_⟩⟩)
       have q := foldl_one y' i.toNat #[]
       simp only [Array.empty_append] at q
       rw [if_neg (by simp), q]
       exact hP
     | [], h => exact h.elim
     | _ :: _ :: _, h => exact h.elim
   | _ => exact h.elim
 | _ => exact h.elim
theorem sat_truth {u : V} {x : Value} {Q : Bool → AH → Prop} (R : Rep W σ s) (hu : VR s.heap u x) (h : wpTruth u σ Q) : SatPB W A (truthy x) σ s Q := by
 cases u with
 | bool b => obtain rfl := hu.bool_inv; exact SatPB.val h (R.toks _) fun P hP => wpAny_truthy_bool hP
 | none => obtain rfl := hu.none_inv; exact SatPB.val h ⟨R, .refl _ _⟩ fun P hP => wpAny_pure hP
 | ref a =>
   obtain rfl := hu.ref_inv
   refine (xE1 fun l => aE3 fun e hz h => ?_) (lst_inv h)
   refine (xE2 fun it n => aE2 fun e1 r1 => ?_) (R.objs _ _ e)
   have hl : (!it.isEmpty) = !l.isEmpty := by
     have := r1.length
     obtain ⟨li⟩ := it
     cases l <;> cases li <;> simp_all
   have hz2 : (it.size : Int) < 2 ^ 63 := by
     have := r1.length; unfold sizeOk at hz; simp only [Array.length_toList] at this; lia
   exact SatPB.val h (R.toks _) fun P hP => wpAny_truthy_list ⟨_, e1, rfl, _, rfl⟩ hz2 (hl ▸ hP)
 | _ => exact h.elim
theorem beq_dec (a b : Int) : (a == b) = decide (a = b) := by by_cases e : a = b <;> simp [e]
theorem ints_list {R : Rep W σ s} {a : Addr} {l : List V} {ns : List Int} (e : σ a = some (.list l)) (hi : asInts l = some ns) : ∃ vs : List Value, s.heap.IsList a vs.toArray ∧ IntsAre vs ns := by
 refine (xE2 fun it n => aE2 fun e1 r1 => ?_) (R.objs _ _ e)
 exact ⟨it.toList, ⟨_, e1, rfl, n, by rw [Array.toArray_toList]⟩, r1.ints hi⟩
theorem any_contains (ns : List Int) (k : Int) : (ns.any (· == k)) = ns.contains k := by
 induction ns with
 | nil => rfl
 | cons n r ih => rw [List.any_cons, List.contains_cons, ih, show (n == k) = (k == n) from Bool.beq_comm]
theorem sat_cmp {op : CmpOp} {u v : V} {x y : Value} {Q : Bool → AH → Prop} (R : Rep W σ s) (hA : A.units + 64 < cLine) (hu : VR s.heap u x) (hv : VR s.heap v y)
   (h : wpCmp op u v σ Q) : ∀ P : Value → Shared → Prop, (∀ b σ' s', Rep W σ' s' → Step σ s σ' s' → Q b σ' → P (.bool b) s') → wpAny W.M A (compareOp op x y) P NoE s := by
 intro P hP
 have done : ∀ {b}, Q b σ → P (.bool b) s := fun hq => hP _ _ _ R (.refl _ _) hq
 have two : ∀ {K : Int → Int → Prop}, onII u v K → ∃ i j t t', x = .int i t ∧ y = .int j t' ∧ K i j := fun h => by
   refine (xE2 fun i j => aE2 fun oy0 oy1 => ?_) (onII_inv h); obtain rfl := oy0; obtain ⟨rfl, h⟩ := oy1
   obtain ⟨t, rfl⟩ := hu.int_inv
   obtain ⟨t', rfl⟩ := hv.int_inv
   exact ⟨i, j, t, t', rfl, rfl, h⟩
 have lis : ∀ {K : List Int → List Int → Prop} {a b}, (intsAt σ a fun xs => intsAt σ b fun ys => K xs ys) → ∃ ns ms vs us, s.heap.IsList a (List.toArray vs) ∧ IntsAre vs ns ∧ s.heap.IsList b (List.toArray us) ∧ IntsAre us ms ∧ K ns ms := fun h => by
   refine (xE2 fun l xs => aE3 fun ea ia h => ?_) (ints_inv h)
   refine (xE2 fun k ys => aE3 fun eb ib h => ?_) (ints_inv h)
   refine (xE1 fun vs => aE2 fun h1 h2 => ?_) (ints_list (R := R) ea ia)
   refine (xE1 fun us => aE2 fun h3 h4 => ?_) (ints_list (R := R) eb ib)
   exact ⟨xs, ys, vs, us, h1, h2, h3, h4, h⟩
 have mem : ∀ {K : Int → Prop}, onI K ⟨⟩ u → ∃ i t, x = .int i t ∧ K i := fun h => by
   refine (xE1 fun i => aE2 fun oy2 oy3 => ?_) (onI_inv h); obtain rfl := oy2; revert oy3; intro h
   obtain ⟨t, rfl⟩ := hu.int_inv
   exact ⟨i, t, rfl, h⟩
 cases op with
 | Lt => (refine (xE4 fun i j t t' => aE2 fun oy4 oy5 => ?_) (two h); obtain rfl := oy4; obtain ⟨rfl, h⟩ := oy5); exact PySem.P.lt_int (done h)
 | LtE => (refine (xE4 fun i j t t' => aE2 fun oy6 oy7 => ?_) (two h); obtain rfl := oy6; obtain ⟨rfl, h⟩ := oy7); exact PySem.P.le_int (done h)
 | Gt => (refine (xE4 fun i j t t' => aE2 fun oy8 oy9 => ?_) (two h); obtain rfl := oy8; obtain ⟨rfl, h⟩ := oy9); exact PySem.P.gt_int (done h)
 | GtE => (refine (xE4 fun i j t t' => aE2 fun oy10 oy11 => ?_) (two h); obtain rfl := oy10; obtain ⟨rfl, h⟩ := oy11); exact PySem.P.ge_int (done h)
 | Eq =>
   cases u with
   | int i => (refine (xE4 fun i j t t' => aE2 fun oy12 oy13 => ?_) (two (K := fun i j => Q (decide (i = j)) σ) h); obtain rfl := oy12; obtain ⟨rfl, h⟩ := oy13); exact PySem.P.eq_int (done (by rw [beq_dec]; exact h))
   | ref a =>
     refine (xE1 fun b => aE2 fun oy14 oy15 => ?_) (onR_inv h); obtain rfl := oy14; revert oy15; intro h
     obtain rfl := hu.ref_inv
     obtain rfl := hv.ref_inv
     refine (xE4 fun ns ms vs us => aE5 fun h1 h2 h3 h4 h => ?_) (lis h)
     exact eq_intsK h1 h2 h3 h4 hA (done h)
   | _ => exact h.elim
 | NotEq =>
   cases u with
   | int i => (refine (xE4 fun i j t t' => aE2 fun oy16 oy17 => ?_) (two (K := fun i j => Q (decide (i ≠ j)) σ) h); obtain rfl := oy16; obtain ⟨rfl, h⟩ := oy17); exact PySem.P.ne_int (done (by rw [bne, beq_dec, ← decide_not]; exact h))
   | ref a =>
     refine (xE1 fun b => aE2 fun oy18 oy19 => ?_) (onR_inv h); obtain rfl := oy18; revert oy19; intro h
     obtain rfl := hu.ref_inv
     obtain rfl := hv.ref_inv
     refine (xE4 fun ns ms vs us => aE5 fun h1 h2 h3 h4 h => ?_) (lis h)
     exact ne_intsK h1 h2 h3 h4 hA (done (by rw [← decide_not]; exact h))
   | _ => exact h.elim
 | Is =>
   obtain ⟨rfl, h⟩ := onNo_inv h
   obtain rfl := hv.none_inv
   refine is_none (done ?_)
   cases hu <;> exact h
 | IsNot =>
   obtain ⟨rfl, h⟩ := onNo_inv h
   obtain rfl := hv.none_inv
   refine isNot_none (done ?_)
   cases hu <;> exact h
 | In =>
   refine (xE2 fun i t => aE2 fun oy20 oy21 => ?_) (mem h); obtain rfl := oy20; revert oy21; intro h
   cases v with
   | tup l =>
     obtain ⟨a, its, n, rfl, e, r⟩ := hv.tup_inv
     refine (xE1 fun xs => aE2 fun hi h => ?_) (onS_inv h)
     exact in_tuple_ints ⟨_, e, rfl, _, rfl⟩ (r.ints hi) (done (by rw [any_contains]; exact h))
   | ref b =>
     obtain rfl := hv.ref_inv
     refine (xE2 fun l xs => aE3 fun e hi h => ?_) (ints_inv h)
     refine (xE1 fun vs => aE2 fun h1 h2 => ?_) (ints_list (R := R) e hi)
     exact in_list_ints h1 h2 (done (by rw [any_contains]; exact h))
   | _ => exact h.elim
 | NotIn =>
   refine (xE2 fun i t => aE2 fun oy22 oy23 => ?_) (mem h); obtain rfl := oy22; revert oy23; intro h
   cases v with
   | tup l =>
     obtain ⟨a, its, n, rfl, e, r⟩ := hv.tup_inv
     refine (xE1 fun xs => aE2 fun hi h => ?_) (onS_inv h)
     exact notin_tuple_ints ⟨_, e, rfl, _, rfl⟩ (r.ints hi) (done (by rw [any_contains]; exact h))
   | ref b =>
     obtain rfl := hv.ref_inv
     refine (xE2 fun l xs => aE3 fun e hi h => ?_) (ints_inv h)
     refine (xE1 fun vs => aE2 fun h1 h2 => ?_) (ints_list (R := R) e hi)
     exact notin_list_ints h1 h2 (done (by rw [any_contains]; exact h))
   | _ => exact h.elim
theorem pyIdx_seq {i : Int} {n k : Nat} (h : pyIdx i n = some k) : seqIndex? i n = some k ∧ k < n := by
 unfold pyIdx at h
 unfold seqIndex?
 split at h
 · split at h
   · cases h
     rename_i h0 h1
     refine ⟨by simp [Int.not_lt.mpr h0, h0, h1], by lia⟩
   · cases h
 · split at h
   · cases h
     rename_i h0 h1
     have h2 : i < 0 := Int.not_le.mp h0
     refine ⟨?_, by lia⟩
     have h3 : i + (n : Int) < n := by lia
     simp [h2, h1, h3]
   · cases h
theorem smallI63 {i : Int} (h : smallI i) : -(2 ^ 63) ≤ i ∧ i < 2 ^ 63 := by unfold smallI at h; lia
theorem getItem_seq {a : Addr} {it : Array Value} {n : Nat} {i : Int} {t : Tok} {k : Nat} {x : Value} {Q : Value → Shared → Prop} (e : s.heap.get? a = some (PySem.W.listOf it n)) (hs : smallI i) (hk : pyIdx i it.size = some k) (hx : it[k]? = some x)
   (h : Q x s) : wpAny W.M A (getItem (.ref a) (.int i t)) Q NoE s := by
 have hs' := smallI63 hs
 unfold pyIdx at hk
 split at hk
 · split at hk
   · cases hk
     exact wpAny_getItem_list ⟨_, e, rfl, _, rfl⟩ (by assumption) hs'.2 hx h
   · cases hk
 · split at hk
   · cases hk
     exact wpAny_getItem_list_neg ⟨_, e, rfl, _, rfl⟩ (by lia) (by lia) hs'.1 hx h
   · cases hk
theorem sat_item {u v : V} {x y : Value} {Q : V → AH → Prop} (R : Rep W σ s) (hu : VR s.heap u x) (hv : VR s.heap v y)
   (h : wpSub u v σ Q) : SatP W A (getItem x y) σ s Q ∧ ∃ T id, s.TypeIs x T ∧ typeLookup (.type T) "__getitem__" = pure (some (.builtin id)) := by
 cases u with
 | tup l =>
   obtain ⟨a, its, n, rfl, e, r⟩ := hu.tup_inv
   cases v with
   | int i =>
     obtain ⟨t, rfl⟩ := hv.int_inv
     refine (xE1 fun k => aE2 fun hk h => ?_) (onS_inv h)
     refine (xE1 fun w => aE3 fun hx hs h => ?_) (onS_inv h)
     refine (xE1 fun y => aE2 fun q1 q2 => ?_) (r.get hx)
     have hl := r.length
     rw [hl, Array.length_toList] at hk
     have hs' := smallI63 hs
     exact ⟨SatP.val h ⟨R, .refl _ _⟩ q2 fun P hP => getItem_tuple ⟨_, e, rfl, _, rfl⟩ hs'.1 hs'.2 (pyIdx_seq hk).1 (by rw [← Array.getElem?_toList]; exact q1) hP,
       "tuple", _, ⟨_, e, rfl⟩, slot_tuple_getitem.lookup⟩
   | _ => exact h.elim
 | ref a =>
   obtain rfl := hu.ref_inv
   cases v with
   | int i =>
     obtain ⟨t, rfl⟩ := hv.int_inv
     refine (xE1 fun l => aE2 fun e h => ?_) (lst_inv h)
     refine (xE1 fun k => aE2 fun hk h => ?_) (onS_inv h)
     refine (xE1 fun w => aE4 fun hx hs hz h => ?_) (onS_inv h)
     refine (xE2 fun it n => aE2 fun e1 r1 => ?_) (R.objs _ _ e)
     refine (xE1 fun y => aE2 fun q1 q2 => ?_) (r1.get hx)
     have hl := r1.length
     rw [hl, Array.length_toList] at hk
     exact ⟨SatP.val h ⟨R, .refl _ _⟩ q2 fun P hP => getItem_seq e1 hs hk (by rw [← Array.getElem?_toList]; exact q1) hP, "list", _, ⟨_, e1, rfl⟩, slot_list_getitem.lookup⟩
   | str x =>
     obtain ⟨t, rfl⟩ := hv.str_inv
     refine (xE1 fun fs => aE2 fun e h => ?_) (dct_inv h)
     refine (xE1 fun w => aE2 fun hx h => ?_) (onS_inv h)
     refine (xE1 fun kvs => aE2 fun d r => ?_) (R.objs _ _ e)
     refine (xE1 fun y => aE2 fun q1 q2 => ?_) (r.getF.1 _ hx)
     exact ⟨SatP.val h (R.toks (s.toks + 1)) q2 fun P hP => wpAny_getItem_of (strKind_is W.prog W.w _ _) d.mapOf q1 hP, "dict", _, d.typeIs, slot_dict_getitem.lookup⟩
   | _ => exact h.elim
 | _ => exact h.elim
end
set_option backward.match.sparseCases false
section
variable {W : Wld} {A : Around} {σ : AH} {s : Shared}
theorem setItem_seq {l : Addr} {items : Array Value} {n : Nat} {k : Int} {t : Tok} {v : Value} {Q : Unit → Shared → Prop} (e : s.heap.get? l = some (PySem.W.listOf items n))
   (h0 : 0 ≤ k) (hfit : k < 2 ^ 63) (hn : k < items.size) (hQ : Q () { s with heap := s.heap.update l (Obj.mapSeq (·.setIfInBounds k.toNat v)) }) :
   wpAny W.M A (setItem (.ref l) (.int k t) v) Q NoE s := by
 have hl : s.heap.IsList l items := ⟨_, e, rfl, n, rfl⟩
 unfold setItem
 try with_reducible refine wpAny_holding ?_
 refine wpAny_bind (wpAny_sequenceKey hl.typeIs (by decide) ?_)
 refine wpAny_bind (wpAny_callSpecial?_slot (name := Str.ofString "__setitem__") hl.typeIs slot_list_setitem
   (wpAny_call_entry slot_list_setitem hl.typeIs entry_list_setitem ?_ (args_list_setitem _ _ _)))
 show wpAny _ _ (Builtin.List.listSubscript? (.int k t) >>= _) _ _ s
 refine wpAny_bind (wpAny_listSubscript_int (fitsIndex_of h0 hfit) ?_)
 clear hfit
 obtain ⟨j, rfl⟩ := Int.eq_ofNat_of_zero_le h0
 have hj : j < items.size := by lia
 show wpAny _ _ ((seqItemAt l j >>= fun r => pure (r.map (j, ·))) >>= _) _ _ s
 refine wpAny_bind (wpAny_bind (wpAny_seqItemAt e rfl (wpAny_pure ?_)))
 rw [Array.getElem?_eq_getElem hj]
 show wpAny _ _ (setSeqItemAt l j v >>= _) _ _ s
 refine wpAny_bind (wpAny_setSeqItemAt e rfl ?_)
 first
   | exact wpAny_bind (wpAny_pure (wpAny_pure ⟨.none, rfl, wpAny_pure hQ⟩))
   | exact wpAny_pure ⟨.none, rfl, wpAny_pure hQ⟩
theorem upd_other (h : Heap) {a b : Addr} {f : Obj → Obj} {o : Obj} (hb : b ≠ a) (e : h.get? b = some o) : (h.update a f).get? b = some o := by
 rw [Heap.get?_update_other h f (Ne.symm hb)]; exact e
theorem Rep.updList (R : Rep W σ s) {a : Addr} {l l' : List V} {items items' : Array Value} {n : Nat} (t : Nat) (e : s.heap.get? a = some (PySem.W.listOf items n)) (ha : σ a = some (.list l)) {f : Array Value → Array Value} (hf : f items = items') (hv : VRs s.heap l' items'.toList) :
   Rep W (σ.set a (.list l')) { s with heap := s.heap.update a (Obj.mapSeq f), toks := t } ∧ Step σ s (σ.set a (.list l')) { s with heap := s.heap.update a (Obj.mapSeq f), toks := t } :=
 R.change a (.list l') (fun b o hb q => upd_other _ hb q) (.inl ⟨_, ha⟩) fun ki => by
   subst hf
   refine ⟨f items, (if (f items).size == items.size then n else n + 1), ?_, hv.keep ki⟩
   exact PySem.IsL.update e f
theorem sat_setItem {u v z : V} {x y c : Value} {Q : AH → Prop} (R : Rep W σ s) (hu : VR s.heap u x) (hv : VR s.heap v y) (hz : VR s.heap z c)
   (h : wpSetSub u v z σ Q) : SatPU W A (setItem x y c) σ s Q := by
 cases u with
 | ref a =>
   obtain rfl := hu.ref_inv
   cases v with
   | int i =>
     obtain ⟨t, rfl⟩ := hv.int_inv
     refine (xE1 fun o => aE2 fun e h => ?_) (onS_inv h)
     cases o with
     | list l =>
       revert h; refine aE4 fun h0 h1 h2 h => ?_
       refine (xE2 fun it n => aE2 fun e1 r1 => ?_) (R.objs _ _ e)
       have hl : l.length = it.size := by rw [r1.length, Array.length_toList]
       unfold sizeOk at h2
       exact SatPU.val h (R.updList s.toks e1 e (f := (·.setIfInBounds _ c)) rfl (by rw [Array.toList_setIfInBounds]; exact r1.set _ hz)) fun P hP =>
         setItem_seq e1 h0 (by lia) (by lia) hP
     | idict l =>
       obtain ⟨h1, h⟩ := h
       refine (xE1 fun kvs => aE2 fun d r => ?_) (R.objs _ _ e)
       have hl := r.length
       intro P hP
       refine wpAny_setItem_pairs (intKind_is W.prog W.w _ _) d (fun h' d' sb => ?_) (by rw [sizeLine_eq]; lia)
       have hn := d
       revert hn; refine xE3 fun _ _ _ => aE6 fun _ _ _ _ _ nd => ?_
       obtain ⟨R', S'⟩ := R.change (s' := { s with heap := h', toks := s.toks + 1 }) _ (.idict _) (fun b o hb q => (sb.2 b hb).trans q) (.inl ⟨_, e⟩) fun ki => ⟨_, d', (KRs.setI hz r nd).keep ki⟩
       exact hP _ _ R' S' h
     | _ => exact h.elim
   | str i =>
     obtain ⟨t, rfl⟩ := hv.str_inv
     refine (xE1 fun l => aE3 fun e h1 h => ?_) (dct_inv h)
     refine (xE1 fun kvs => aE2 fun d r => ?_) (R.objs _ _ e)
     have hl := r.length
     intro P hP
     refine wpAny_setItem_pairs (strKind_is W.prog W.w _ _) d (fun h' d' sb => ?_) (by rw [sizeLine_eq]; lia)
     have hn := d
     revert hn; refine xE3 fun _ _ _ => aE6 fun _ _ _ _ _ nd => ?_
     obtain ⟨R', S'⟩ := R.change (s' := { s with heap := h', toks := s.toks + 1 }) _ (.dict _) (fun b o hb q => (sb.2 b hb).trans q) (.inl ⟨_, e⟩) fun ki => ⟨_, d', (KRs.setF hz r nd).keep ki⟩
     exact hP _ _ R' S' h
   | _ => exact h.elim
 | _ => exact h.elim
theorem attrStat_of {K : Frag} {C : Addr} {x : Str} (h : attrStat K C x = true) : plainGet K C x = true ∧ hasDictIn K C = true ∧ findIn K (.ref C) x = some none ∧
   findIn K (.ref C) "__setattr__" = some (some (.builtin "object.__setattr__")) ∧ plainOver K C = true ∧ takerIn K C x = some none := by
 unfold attrStat at h
 simp only [Bool.and_eq_true, beq_iff_eq] at h
 obtain ⟨⟨⟨⟨⟨a, b⟩, c⟩, d⟩, e⟩, f⟩ := h
 exact ⟨a, b, c, d, e, f⟩
theorem dict_get {a : Addr} {kvs : List (Str × Value)} {h : Heap} (d : h.DictOf (strKind W.prog W.w) a kvs) : ∃ es n, h.get? a = some (dictOf es n) ∧ Pairs (strKind W.prog W.w) es kvs ∧ (kvs.map (·.1)).Nodup ∧ KeysOf (strKind W.prog W.w) es.toArray := by
 revert d; refine xE3 fun o es ep => aE3 fun e oy0 oy1 => ?_; revert oy0; refine aE3 fun c1 c2 c3 => ?_; revert oy1; refine aE4 fun hd hk hp hn => ?_
 obtain ⟨oc, od, oda, os⟩ := o
 simp only at c1 c2 c3 hd
 subst c1 c2 c3 hd
 exact ⟨es.toList, ep, by rw [e], hp, hn, by rw [Array.toArray_toList]; exact hk⟩
theorem isStrOf_eq (x : Str) (v : Value) : v.isStr x = Value.isStrOf x v := by cases v <;> rfl
theorem pairs_noRef {es : List DictEntry} {kvs : List (Str × Value)} (p : Pairs (strKind W.prog W.w) es kvs) : es.any (·.refKey) = false := by
 induction p with
 | nil => rfl
 | @cons e kv es kvs h1 h2 _ ih =>
   rw [List.any_cons, ih, Bool.or_false]
   obtain ⟨t, q⟩ := Value.isStrOf_shape h1
   unfold DictEntry.refKey
   simp [q]
theorem pairs_getL {es : List DictEntry} {kvs : List (Str × Value)} (p : Pairs (strKind W.prog W.w) es kvs) (x : Str) : getL x es = some (valueAt kvs x) := by
 unfold getL
 rw [← p.find x, pairs_noRef p]
 have q : (fun d : DictEntry => d.key.isStr x) = fun e => (strKind W.prog W.w).is x e.key := funext fun d => isStrOf_eq x d.key
 rw [q]
 cases List.find? (fun e => (strKind W.prog W.w).is x e.key) es <;> rfl
theorem sat_attr {u : V} {x : Value} {name : Str} {Q : V → AH → Prop} {b : Bool} (R : Rep W σ s) (hu : VR s.heap u x) (h : wpAttr u name σ Q) : SatP W A (getAttr x name b) σ s Q := by
 cases u with
 | ref a =>
   obtain rfl := hu.ref_inv
   refine (xE1 fun o => aE2 fun e h => ?_) (onS_inv h)
   refine (xE2 fun C d => aE2 fun oy0 oy1 => ?_) (onN_inv h); obtain rfl := oy0; revert oy1; intro h
   refine (xE1 fun fs => aE2 fun e2 h => ?_) (dct_inv h)
   refine (xE1 fun v => aE2 fun hv h => ?_) (onS_inv h)
   obtain ⟨ho, h⟩ := onA_true h
   have hs := attrStat_of (W.att _ _ ho)
   have I0 := R.objs _ _ e
   refine (xE1 fun kvs => aE2 fun dd r => ?_) (R.objs _ _ e2)
   refine (xE2 fun es n => aE3 fun e3 p _ => ?_) (dict_get dd)
   refine (xE1 fun y => aE2 fun q1 q2 => ?_) (r.getF.1 _ hv)
   have X : W.K.In s.heap := W.X.keeps R.base
   have I : InstAt s.heap _ (instObj (gad W.K C) d) (gad W.K C) (some (dictOf es n)) := ⟨I0, rfl, rfl, e3⟩
   have hh : handedIn y = true := by cases q2 <;> rfl
   exact SatP.val h (R.toks (s.toks + 1)) q2 fun P hP => get_value X I (plainGet_of hs.1).1 (findObj_own hs.2.1 hs.2.2.1 (by rfl) (by rw [lookIn_dict, pairs_getL p, q1])) hh hP
 | _ => exact h.elim
end
set_option backward.match.sparseCases false
open PySem.Calls Builtin Builtin.ObjectAttr
section
variable {W : Wld} {A : Around} {σ : AH} {s : Shared}
theorem putL_stored {es : List DictEntry} {kvs : List (Str × Value)} {x : Str} {t : Tok} {v : Value} (p : Pairs (strKind W.prog W.w) es kvs) (nd : (kvs.map (·.1)).Nodup) :
   Pairs (strKind W.prog W.w) (putL x (PyData.keyHash W.w.params x) (.str x t) v es) (stored kvs x v) := by
 induction p with
 | nil => exact .cons (strKind_is W.prog W.w x t) rfl .nil
 | @cons e kv es kvs h1 h2 hp ih =>
   obtain ⟨k, w⟩ := kv
   simp only at h1 h2
   have nd' := nd
   rw [List.map_cons, List.nodup_cons] at nd'
   unfold putL
   rw [isStrOf_eq]
   by_cases hk : k = x
   · subst hk
     rw [if_pos (show Value.isStrOf k e.key = true from h1), stored_cons_eq nd]
     exact .cons h1 rfl hp
   · have h3 : ¬ Value.isStrOf x e.key = true := fun q => hk ((strKind W.prog W.w).inj _ _ _ h1 q)
     rw [if_neg h3, stored_cons_ne hk]
     exact .cons h1 h2 (ih nd'.2)
theorem stored_nodup {kvs : List (Str × Value)} {x : Str} {v : Value} (nd : (kvs.map (·.1)).Nodup) : ((stored kvs x v).map (·.1)).Nodup := by
 unfold stored
 split
 · rw [keys_map_store]; exact nd
 · rename_i hany
   rw [List.map_append, List.nodup_append]
   refine ⟨nd, by simp, fun a ha b hb => ?_⟩
   simp only [List.map_cons, List.map_nil, List.mem_singleton] at hb
   subst hb
   intro e
   subst e
   refine (xE1 fun kv => aE2 fun h1 h2 => ?_) (List.mem_map.mp ha)
   exact hany (List.any_eq_true.mpr ⟨kv, h1, by simp [h2]⟩)
theorem stored_length {kvs : List (Str × Value)} {x : Str} {v : Value} : (stored kvs x v).length ≤ kvs.length + 1 := by
 unfold stored
 split <;> simp
theorem putL_keys {es : List DictEntry} {x : Str} {t : Tok} {v : Value} (hk : KeysOf (strKind W.prog W.w) es.toArray) : KeysOf (strKind W.prog W.w) (putL x (PyData.keyHash W.w.params x) (.str x t) v es).toArray := by
 have hk' : ∀ e ∈ es, ∃ k, (strKind W.prog W.w).is k e.key = true ∧ e.hash = (strKind W.prog W.w).hash k := fun e he => hk e (by simpa using he)
 have : ∀ e ∈ putL x (PyData.keyHash W.w.params x) (.str x t) v es, ∃ k, (strKind W.prog W.w).is k e.key = true ∧ e.hash = (strKind W.prog W.w).hash k := by
   clear hk
   induction es with
   | nil =>
     intro e he
     rw [show e = _ from List.mem_singleton.mp he]
     exact ⟨x, strKind_is W.prog W.w x t, rfl⟩
   | cons d es ih =>
     intro e he
     unfold putL at he
     split at he
     · rcases List.mem_cons.mp he with rfl | he
       · exact hk' d (.head _)
       · exact hk' e (.tail _ he)
     · rcases List.mem_cons.mp he with rfl | he
       · exact hk' _ (.head _)
       · exact ih (fun e he => hk' e (.tail _ he)) e he
 exact fun e he => this e (by simpa using he)
theorem setAttr_exact {K : Frag} {x C dx : Addr} {es : List DictEntry} {n : Nat} {name : Str} {v : Value} {Q : Unit → Shared → Prop} (X : K.In s.heap)
   (I : InstAt s.heap x (instObj C dx) C (some (dictOf es n))) (hs : findIn K (.ref C) "__setattr__" = some (some (.builtin "object.__setattr__"))) (hp : plainOver K C = true) (ht : takerIn K C name = some Option.none)
   (hh : hasDictIn K C = true) (hr : es.any (·.refKey) = false) (hz : es.length ≤ 900)
   (h : Q () { s with heap := s.heap.update dx (Obj.putName name (PyData.keyHash W.w.params name) (.str name (s.toks + 1)) v), toks := s.toks + 2 }) :
   wpAny W.M A (setAttr (.ref x) name v) Q NoE s := by
 refine set_plain X I hs (osa_open (s := { s with toks := s.toks + 1 }) X I hp ht fun b => ?_)
 refine (xE1 fun cd => aE2 fun hc hd' => ?_) (any_some hh)
 obtain ⟨hx, -, -, D⟩ := I
 refine wpAny_bind (wpAny_pure (wpAny_bind (wpAny_bind (wpAny_loadPart hx (wpAny_bind (looks_clsIn X hc _ _ _ _ (fun _ _ e => e) ?_))))))
 rw [hd']
 refine wpAny_pure (a := some dx) (wpAny_bind (wpAny_pure (wpAny_bind ?_)))
 unfold nsSet
 refine wpAny_bind (wpAny_bind (wpAny_askSetting (wpAny_pure (wpAny_bind (wpAny_mkText (wpAny_bind (wpAny_loadPart D ?_)))))))
 have c : (!es.toArray.any (·.key.isStr name) && es.toArray.any (·.refKey)) = false := by
   rw [← Array.any_toList, ← Array.any_toList, show es.toArray.toList = es from rfl, hr, Bool.and_false]
 dsimp only
 rw [aRefKeyMayBeTheName_at, c]
 refine wpAny_updatePart D ?_
 have D' : (s.heap.update dx (Obj.putName name (PyData.keyHash W.w.params name) (.str name (s.toks + 1)) v)).get? dx = some (dictOf (putL name (PyData.keyHash W.w.params name) (.str name (s.toks + 1)) v es) (putN name es n)) := by
   rw [← putName_dict]
   exact Heap.get?_update_self _ D (by rw [putName_dict]; rfl)
 have hz' : (putL name (PyData.keyHash W.w.params name) (.str name (s.toks + 1)) v es).length ≤ es.length + 1 := by
   clear D' c hr D hz
   induction es with
   | nil => exact Nat.le_refl _
   | cons e r ih =>
     unfold putL
     split
     · exact Nat.le_succ _
     · exact Nat.succ_le_succ ih
 refine wpAny_bind (wpAny_lookBehind D' (pastItsLine_dict (by rw [List.size_toArray, sizeLine_eq]; lia)) ?_)
 exact wpAny_pure h
theorem sat_setAttr {u z : V} {x c : Value} {name : Str} {Q : AH → Prop} (R : Rep W σ s) (hu : VR s.heap u x) (hz : VR s.heap z c) (h : wpSetAttr u name z σ Q) : SatPU W A (setAttr x name c) σ s Q := by
 cases u with
 | ref a =>
   obtain rfl := hu.ref_inv
   refine (xE1 fun o => aE2 fun e h => ?_) (onS_inv h)
   refine (xE2 fun C d => aE2 fun oy0 oy1 => ?_) (onN_inv h); obtain rfl := oy0; revert oy1; intro h
   refine (xE1 fun fs => aE2 fun e2 h => ?_) (dct_inv h)
   refine (aE3 fun ho hl h => ?_) (onA_true h)
   have hs := attrStat_of (W.att _ _ ho)
   have I0 := R.objs _ _ e
   refine (xE1 fun kvs => aE2 fun dd r => ?_) (R.objs _ _ e2)
   refine (xE2 fun es n => aE4 fun e3 p nd hk => ?_) (dict_get dd)
   have X : W.K.In s.heap := W.X.keeps R.base
   have I : InstAt s.heap _ (instObj (gad W.K C) d) (gad W.K C) (some (dictOf es n)) := ⟨I0, rfl, rfl, e3⟩
   have hlen : es.length ≤ 900 := by rw [p.length, ← r.length]; exact hl
   intro P hP
   refine setAttr_exact X I hs.2.2.2.1 hs.2.2.2.2.1 hs.2.2.2.2.2 hs.2.1 (pairs_noRef p) hlen ?_
   have D' : (s.heap.update d (Obj.putName name (PyData.keyHash W.w.params name) (.str name (s.toks + 1)) c)).get? d = some (dictOf (putL name (PyData.keyHash W.w.params name) (.str name (s.toks + 1)) c es) (putN name es n)) := by
     rw [← putName_dict]
     exact Heap.get?_update_self _ e3 (by rw [putName_dict]; rfl)
   obtain ⟨R', S'⟩ := R.change (s' := { s with heap := s.heap.update d (Obj.putName name (PyData.keyHash W.w.params name) (.str name (s.toks + 1)) c), toks := s.toks + 2 }) d (.dict (setF fs name z))
     (fun b o hb q => upd_other _ hb q) (.inl ⟨_, e2⟩) fun ki =>
       ⟨stored kvs name c, ⟨_, _, _, D', ⟨rfl, rfl, rfl⟩, rfl, putL_keys hk, by simpa using putL_stored p nd, stored_nodup nd⟩, (KRs.setF hz r nd).keep ki⟩
   exact hP _ _ R' S' h
 | _ => exact h.elim
end
set_option backward.match.sparseCases false
noncomputable def biVal : BI → Value
 | .len => .builtin "len"
 | .min => .builtin "min"
 | .max => .builtin "max"
 | .abs => .builtin "abs"
 | .range => .type "range"
 | .list => .type "list"
theorem asInts_map : ∀ {l : List V} {xs : List Int}, asInts l = some xs → l = xs.map .int
 | [], _, e => by cases e; rfl
 | .int i :: r, xs, e => by
   simp only [asInts, Option.map_eq_some_iff] at e
   revert e; refine xE1 fun ms => aE2 fun e1 oy0 => ?_; obtain rfl := oy0
   rw [List.map_cons, ← asInts_map e1]
 | .none :: _, _, e => by cases e
 | .bool _ :: _, _, e => by cases e
 | .str _ :: _, _, e => by cases e
 | .tup _ :: _, _, e => by cases e
 | .rng _ _ _ :: _, _, e => by cases e
 | .ref _ :: _, _, e => by cases e
theorem map_asInts : ∀ (xs : List Int), asInts (xs.map .int) = some xs
 | [] => rfl
 | x :: r => by simp [asInts, map_asInts r]
theorem foldl_max_mem : ∀ (xs : List Int) (x : Int), (xs.foldl max x) ∈ x :: xs ∧ ∀ a ∈ x :: xs, a ≤ xs.foldl max x
 | [], x => by simp
 | y :: r, x => by
   obtain ⟨h1, h2⟩ := foldl_max_mem r (max x y)
   rw [List.foldl_cons]
   constructor
   · rcases List.mem_cons.mp h1 with e | e
     · rw [e]
       rcases Int.le_total x y with q | q
       · rw [Int.max_eq_right q]; simp
       · rw [Int.max_eq_left q]; simp
     · simp [e]
   · intro a ha
     have h3 := h2 (max x y) (by simp)
     rcases List.mem_cons.mp ha with e | e
     · subst e; exact Int.le_trans (Int.le_max_left _ _) h3
     · rcases List.mem_cons.mp e with e | e
       · subst e; exact Int.le_trans (Int.le_max_right _ _) h3
       · exact h2 a (by simp [e])
theorem map_erase (i : Nat) : ∀ (zs : List Int), (zs.eraseIdx i).map V.int = (zs.map V.int).eraseIdx i := by
 induction i with
 | zero => intro zs; cases zs <;> rfl
 | succ i ih => intro zs; cases zs with | nil => rfl | cons z r => simp [ih r]
theorem VRs.inv0 {h : Heap} {xs : List Value} (r : VRs h [] xs) : xs = [] := by cases r; rfl
theorem VRs.inv1 {h : Heap} {u : V} {xs : List Value} (r : VRs h [u] xs) : ∃ x, xs = [x] ∧ VR h u x := by cases r with | cons a r => cases r; exact ⟨_, rfl, a⟩
theorem VRs.inv2 {h : Heap} {u v : V} {xs : List Value} (r : VRs h [u, v] xs) : ∃ x y, xs = [x, y] ∧ VR h u x ∧ VR h v y := by
 cases r with | cons a r => obtain ⟨y, rfl, b⟩ := r.inv1; exact ⟨_, _, rfl, a, b⟩
theorem VRs.inv3 {h : Heap} {u v w : V} {xs : List Value} (r : VRs h [u, v, w] xs) : ∃ x y z, xs = [x, y, z] ∧ VR h u x ∧ VR h v y ∧ VR h w z := by
 cases r with | cons a r => obtain ⟨y, z, rfl, b, c⟩ := r.inv2; exact ⟨_, _, _, rfl, a, b, c⟩
section
variable {W : Wld} {A : Around} {σ : AH} {s : Shared}
theorem SatP.keep {t : Sem Value} {Q : V → AH → Prop} {u : V} {v : Value} (R : Rep W σ s) (hq : Q u σ) (hv : ∀ h, KeepImm s.heap h → VR h u v)
   (h : ∀ P : Value → Shared → Prop, (∀ h' tk, (∀ b o, s.heap.get? b = some o → h'.get? b = some o) → P v { s with heap := h', toks := tk }) → wpAny W.M A t P NoE s) : SatP W A t σ s Q :=
 fun P hP => h P fun h' tk k =>
   have ⟨R', S'⟩ := R.same (s' := { s with heap := h', toks := tk }) k
   hP u v σ _ (hv _ S'.imm) R' S' hq
theorem rng_small {a b c : Int} (ha : smallI a) (hb : smallI b) (hc : c = 1 ∨ c = -1) : Builtin.Range.small a b c = true := by
 unfold smallI at ha hb
 rcases hc with rfl | rfl
 · exact small_one (by lia) (by lia) (by lia) (by lia)
 · unfold Builtin.Range.small Builtin.Range.rangeSize
   simp only [Builtin.Range.rangeFitsLong, Bool.and_eq_true, Bool.or_eq_true, decide_eq_true_eq, beq_iff_eq, show ¬ (-1 : Int) > 0 by decide, if_false]
   split <;> simp <;> lia
theorem rng_size {a b c : Int} (hc : c = 1 ∨ c = -1) : (Builtin.Range.rangeSize a b c).toNat = rngSize a b c ∧ 0 ≤ Builtin.Range.rangeSize a b c := by
 rcases hc with rfl | rfl
 · rw [rangeSize_one]; unfold rngSize; rw [if_pos (show (0 : Int) < 1 by decide)]; split <;> lia
 · unfold Builtin.Range.rangeSize rngSize
   rw [if_neg (show ¬ (-1 : Int) > 0 by decide), if_neg (show ¬ (0 : Int) < -1 by decide)]
   by_cases q : a > b
   · rw [if_pos q, show -(-1 : Int) = 1 by decide, Int.ediv_one]; lia
   · rw [if_neg q]; lia
theorem rngFrom_length (c : Int) : ∀ (n : Nat) (x : Int), (rngFrom c n x).length = n
 | 0, _ => rfl
 | n + 1, x => by simp [rngFrom, rngFrom_length c n]
theorem rngFrom_get (c : Int) : ∀ (n : Nat) (x : Int) (i : Nat), i < n → (rngFrom c n x)[i]? = some (x + i * c)
 | 0, _, _, h => absurd h (Nat.not_lt_zero _)
 | n + 1, x, 0, _ => by simp [rngFrom]
 | n + 1, x, i + 1, h => by
   rw [rngFrom, List.getElem?_cons_succ, rngFrom_get c n _ i (by lia)]
   congr 1
   rw [Int.natCast_add, Int.add_mul]; simp only [Int.natCast_one, Int.one_mul]; lia
theorem items_rngL {h : Heap} {c : Int} : ∀ (l : List Value) (a : Int), (∀ (j : Nat) v, l[j]? = some v → ∃ t, v = Value.int (a + j * c) t) → VRs h ((rngFrom c l.length a).map .int) l
 | [], _, _ => .nil
 | v :: l, a, hp => by
   obtain ⟨t, e⟩ := hp 0 v rfl
   rw [Int.natCast_zero, Int.zero_mul, Int.add_zero] at e
   rw [e]
   refine .cons (.int a t) (items_rngL l (a + c) fun j w hw => ?_)
   obtain ⟨u, e⟩ := hp (j + 1) w hw
   refine ⟨u, e.trans (congrArg (Value.int · u) ?_)⟩
   rw [Int.natCast_add, Int.add_mul]; simp only [Int.natCast_one, Int.one_mul]; lia
theorem items_rng {h : Heap} {c : Int} (n : Nat) (a : Int) (l : List Value) (hl : l.length = n) (hp : ∀ (j : Nat) v, l[j]? = some v → ∃ t, v = Value.int (a + j * c) t) : VRs h ((rngFrom c n a).map .int) l := hl ▸ items_rngL l a hp
theorem sat_bi {b : BI} {us : List V} {xs : List Value} {Q : V → AH → Prop} (hA : A.handled = Option.none) (R : Rep W σ s) (hu : VRs s.heap us xs) (h : wpBi b us σ Q) : SatP W A (call (biVal b) xs) σ s Q := by
 match us, hu, h with
 | [], _, h => cases b <;> exact h.elim
 | [u], hu, h =>
   obtain ⟨x, rfl, a⟩ := hu.inv1
   cases b with
   | len =>
     refine (xE1 fun c => aE2 fun oy0 oy1 => ?_) (onR_inv h); obtain rfl := oy0; revert oy1; intro h
     obtain rfl := a.ref_inv
     refine (xE1 fun l => aE3 fun e hz h => ?_) (lst_inv h)
     refine (xE2 fun it n => aE2 fun e1 r1 => ?_) (R.objs _ _ e)
     have hl : l.length = it.size := by rw [r1.length, Array.length_toList]
     unfold sizeOk at hz
     rw [hl] at h
     exact SatP.val h (R.toks (s.toks + 1 + 1)) (.int _ _) fun P hP => call_len_list ⟨_, e1, rfl, _, rfl⟩ (by lia) hP
   | max =>
     refine (xE1 fun c => aE2 fun oy2 oy3 => ?_) (onR_inv h); obtain rfl := oy2; revert oy3; intro h
     obtain rfl := a.ref_inv
     refine (xE1 fun l => aE2 fun e h => ?_) (lst_inv h)
     refine (xE1 fun zs => aE2 fun hi h => ?_) (onS_inv h)
     match zs, hi, h with
     | [], _, h => exact h.elim
     | x :: xs, hi, h =>
       obtain ⟨hz, h⟩ := h
       refine (xE2 fun it n => aE2 fun e1 r1 => ?_) (R.objs _ _ e)
       have hI := r1.ints hi
       obtain ⟨ys, e3⟩ := hI.allInts.items
       have hns : x :: xs = ys.toList.map (·.1) := by rw [← hI.numsOf, ← nums_intItems, ← e3]
       have hsz : 0 < ys.size := by
         have h3 := congrArg List.length hns
         have h5 : ys.toList.length = ys.size := Array.length_toList
         rw [List.length_map, h5] at h3; have h4 : (x :: xs).length = xs.length + 1 := rfl; lia
       have hL : s.heap.IsList _ it.toList.toArray := ⟨_, e1, rfl, n, by rw [Array.toArray_toList]⟩
       rw [e3] at hL
       intro P hP
       refine max_intList hA hL hsz fun v h' tk hv hk => ?_
       obtain ⟨t, rfl⟩ := intItems_at hv
       obtain ⟨h1, h2⟩ := argBest_gt (numAt ys) (ys.size - 1)
       have hmem : numAt ys (argBest (fun i j => decide (numAt ys i > numAt ys j)) (ys.size - 1)) ∈ x :: xs := by
         rw [hns, numAt_eq]; exact getD_mem (by rw [List.length_map, Array.length_toList]; lia)
       have hall : ∀ a ∈ x :: xs, a ≤ numAt ys (argBest (fun i j => decide (numAt ys i > numAt ys j)) (ys.size - 1)) := fun a ha => by
         rw [hns] at ha
         refine (xE1 fun j => aE2 fun hj oy4 => ?_) (mem_getD ha); obtain rfl := oy4
         rw [List.length_map, Array.length_toList] at hj
         rw [← numAt_eq]; exact h2 j (by lia)
       obtain ⟨m1, m2⟩ := foldl_max_mem xs x
       have heq := Int.le_antisymm (hall _ m1) (m2 _ hmem)
       obtain ⟨R', S'⟩ := R.same (s' := { s with heap := h', toks := tk }) hk
       exact hP _ _ _ _ (by rw [heq]; exact .int _ _) R' S' h
   | abs =>
     refine (xE1 fun a' => aE2 fun oy5 oy6 => ?_) (onI_inv h); obtain rfl := oy5; revert oy6; intro h
     obtain ⟨t, rfl⟩ := a.int_inv
     intro P hP
     refine call_abs_int fun u tk => ?_
     obtain ⟨R', S'⟩ := R.toks tk
     exact hP _ _ _ _ (by
       have : (if a' < 0 then -a' else a') = (a'.natAbs : Int) := by split <;> lia
       rw [this]; exact .int _ _) R' S' h
   | range =>
     refine (xE1 fun a' => aE2 fun oy7 oy8 => ?_) (onI_inv h); obtain rfl := oy7; obtain ⟨h1, h⟩ := oy8
     obtain ⟨t, rfl⟩ := a.int_inv
     intro P hP
     refine call_range_1 ?_
     obtain ⟨R', S'⟩ := R.same (s' := { s with heap := s.heap.push { cls := .type "range", data := .fields #[.int 0 s.toks, .int _ _, .int 1 (s.toks + 1)] }, toks := s.toks + 1 + 1 }) fun b o e => Heap.get?_push_of_some _ e
     exact hP _ _ _ _ (.rng (IsRange.new ..)) R' S' h
   | list =>
     cases u with
     | ref c =>
       obtain rfl := a.ref_inv
       refine (xE1 fun l => aE3 fun e hz h => ?_) (lst_inv h)
       refine (xE2 fun it n => aE2 fun e1 r1 => ?_) (R.objs _ _ e)
       have hl : l.length = it.size := by rw [r1.length, Array.length_toList]
       have hz' := sizeOk_line hz
       intro P hP
       refine call_list_seq _ (.inl rfl) e1 rfl rfl (fun h' c' hk hD => ?_) (by lia)
       obtain ⟨R', S'⟩ := R.change (s' := { s with heap := h' }) s.heap.objs.size (.list l) (fun b o _ q => hk b o q) (.inr (get?_size _)) fun ki => ⟨_, _, hD, r1.keep ki⟩
       exact hP _ _ _ _ (.ref _) R' S' (h _ R.fresh)
     | rng a' b' c' =>
       obtain ⟨r, t, u, v, rfl, hr⟩ := a.rng_inv
       revert h; refine aE4 fun h1 h2 oy9 oy10 => ?_; obtain rfl := oy9; obtain ⟨h3, h⟩ := oy10
       intro P hP
       have q3 := (rng_size (a := a') (b := b') (Or.inl rfl : (1 : Int) = 1 ∨ (1 : Int) = -1))
       refine call_list_range hA hr (rng_small h1 h2 (.inl rfl)) (n := rngSize a' b' 1) (by lia) (by unfold sizeOk at h3; lia) fun h' tk acc c' hk hD hI => ?_
       have hv : ∀ h'' : Heap, VRs h'' ((rngItems a' b' 1).map .int) acc.toList := fun h'' => items_rng _ _ _ (by rw [Array.length_toList]; exact hI.1) fun j v hv => hI.2 j v (by rw [← Array.getElem?_toList]; exact hv)
       obtain ⟨R', S'⟩ := R.change (s' := { s with heap := h', toks := tk }) s.heap.objs.size (.list ((rngItems a' b' 1).map .int)) (fun b o _ q => hk b o q) (.inr (get?_size _)) fun ki => ⟨_, _, hD, hv _⟩
       exact hP _ _ _ _ (.ref _) R' S' (h _ R.fresh)
     | _ => exact h.elim
   | min => exact h.elim
 | [u, v], hu, h =>
   obtain ⟨x, y, rfl, a, b'⟩ := hu.inv2
   have two : ∀ {K : Int → Int → Prop}, onII u v K → ∃ i j t t', x = .int i t ∧ y = .int j t' ∧ K i j := fun h => by
     refine (xE2 fun i j => aE2 fun oy11 oy12 => ?_) (onII_inv h); obtain rfl := oy11; obtain ⟨rfl, h⟩ := oy12
     obtain ⟨t, rfl⟩ := a.int_inv
     obtain ⟨t', rfl⟩ := b'.int_inv
     exact ⟨i, j, t, t', rfl, rfl, h⟩
   cases b with
   | min =>
     refine (xE4 fun i j t t' => aE2 fun oy13 oy14 => ?_) (two h); obtain rfl := oy13; obtain ⟨rfl, h⟩ := oy14
     refine SatP.keep R h (v := if j < i then .int j t' else .int i t) (fun h' _ => ?_) fun P hP => min_two_ints hA hP
     by_cases q : j < i
     · rw [if_pos q, Int.min_eq_right (by lia)]; exact .int _ _
     · rw [if_neg q, Int.min_eq_left (by lia)]; exact .int _ _
   | max =>
     refine (xE4 fun i j t t' => aE2 fun oy15 oy16 => ?_) (two h); obtain rfl := oy15; obtain ⟨rfl, h⟩ := oy16
     refine SatP.keep R h (v := if j > i then .int j t' else .int i t) (fun h' _ => ?_) fun P hP => max_two_ints hA hP
     by_cases q : j > i
     · rw [if_pos q, Int.max_eq_right (by lia)]; exact .int _ _
     · rw [if_neg q, Int.max_eq_left (by lia)]; exact .int _ _
   | range =>
     refine (xE4 fun i j t t' => aE2 fun oy17 oy18 => ?_) (two h); obtain rfl := oy17; revert oy18; refine aE2 fun oy19 oy20 => ?_; obtain rfl := oy19; revert oy20; refine aE3 fun h1 h2 h => ?_
     intro P hP
     refine call_range_2 ?_
     obtain ⟨R', S'⟩ := R.same (s' := { s with heap := s.heap.push { cls := .type "range", data := .fields #[.int _ _, .int _ _, .int 1 s.toks] }, toks := s.toks + 1 }) fun b o e => Heap.get?_push_of_some _ e
     exact hP _ _ _ _ (.rng (IsRange.new ..)) R' S' h
   | _ => exact h.elim
 | [u, v, w], hu, h =>
   cases b with
   | range =>
     obtain ⟨x, y, z, rfl, a, b, c⟩ := hu.inv3
     refine (xE2 fun i j => aE2 fun oy21 oy22 => ?_) (onII_inv h); obtain rfl := oy21; obtain ⟨rfl, h⟩ := oy22
     refine (xE1 fun k => aE2 fun oy23 oy24 => ?_) (onI_inv h); obtain rfl := oy23; revert oy24; refine aE4 fun h1 h2 h3 h => ?_
     obtain ⟨t, rfl⟩ := a.int_inv
     obtain ⟨t', rfl⟩ := b.int_inv
     obtain ⟨t'', rfl⟩ := c.int_inv
     subst h3
     intro P hP
     refine call_range_3 (by decide) ?_ (.inl (noPy (by unfold smallI; decide)))
     obtain ⟨R', S'⟩ := R.same (s' := { s with heap := s.heap.push { cls := .type "range", data := .fields #[.int _ _, .int _ _, .int (-1) _] }, toks := s.toks }) fun b o e => Heap.get?_push_of_some _ e
     exact hP _ _ _ _ (.rng (IsRange.new ..)) R' S' h
   | _ => exact h.elim
 | _ :: _ :: _ :: _ :: _, _, h => cases b <;> exact h.elim
theorem size_erase_ne {it : Array Value} {k : Nat} (h : k < it.size) : (it.eraseIdxIfInBounds k).toList = it.toList.eraseIdx k := by
 unfold Array.eraseIdxIfInBounds
 rw [dif_pos h, Array.toList_eraseIdx]
noncomputable def listMeth (x : Str) : String := if x = "append" then "list.append" else if x = "pop" then "list.pop" else "list.remove"
theorem sat_listMeth {a : Addr} {l : List V} {x : Str} {us : List V} {xs : List Value} {Q : V → AH → Prop} (R : Rep W σ s) (e : σ a = some (.list l)) (hz : sizeOk l.length)
   (h : if x = "append" then wpApp a l σ Q us else if x = "pop" then wpPop a l σ Q us else if x = "remove" then wpRem a l σ Q us else False) (hu : VRs s.heap us xs) : SatP W A (call (.builtin (listMeth x)) (.ref a :: xs)) σ s Q := by
 refine (xE2 fun it n => aE2 fun e1 r1 => ?_) (R.objs _ _ e)
 have hl : l.length = it.size := by rw [r1.length, Array.length_toList]
 have hz' : it.size ≤ sizeLine := by have := sizeOk_line hz; lia
 unfold listMeth
 by_cases hx : x = "append"
 · rw [if_pos hx] at h ⊢
   match us, hu, h with
   | [v], hu, h =>
     obtain ⟨y, rfl, b⟩ := hu.inv1
     exact SatP.val h (R.updList s.toks e1 e (f := fun z => z.push y) rfl (by rw [Array.toList_push]; exact r1.append (.one b))) .none fun P hP =>
       call_meets PySem.F.slot_list_append ⟨_, e1, rfl⟩ PySem.F.entry_list_append (PySem.F.args_list_append_2 _ _) (PySem.list_append _ _ _ _ hz') ⟨e1, hP⟩
   | [], _, h => exact h.elim
   | _ :: _ :: _, _, h => exact h.elim
 rw [if_neg hx] at h ⊢
 by_cases hx2 : x = "pop"
 · rw [if_pos hx2] at h ⊢
   match us, hu, h with
   | [], hu, h =>
     obtain rfl := hu.inv0
     refine (xE1 fun v => aE2 fun hv h => ?_) (onS_inv h)
     refine (xE1 fun y => aE2 fun q1 q2 => ?_) (r1.last hv)
     have hy : it[it.size - 1]? = some y := by rw [← Array.getElem?_toList, ← q1, List.getLast?_eq_getElem?, Array.length_toList]
     have hpos : 0 < it.size := by
       rcases Nat.eq_zero_or_pos it.size with h0 | h0
       · simp [h0] at hy
       · exact h0
     have up := R.updList (l' := l.dropLast) s.toks e1 e (f := fun z => z.eraseIdxIfInBounds (it.size - 1)) rfl (by
       rw [size_erase_ne (by lia)]
       have : it.toList.eraseIdx (it.size - 1) = it.toList.dropLast := by
         rw [← Array.length_toList, List.eraseIdx_length_sub_one]
       rw [this]; exact r1.dropLast)
     exact SatP.val h up (q2.keep up.2.imm) fun P hP =>
       call_meets PySem.F.slot_list_pop ⟨_, e1, rfl⟩ PySem.F.entry_list_pop (PySem.F.args_list_pop_1 _) (PySem.MeetsSeq.list_pop_last _ _ _ y hy hz') ⟨e1, hP⟩
   | [u], hu, h =>
     refine (xE1 fun i => aE2 fun oy0 oy1 => ?_) (onI_inv h); obtain rfl := oy0; revert oy1; intro h
     obtain ⟨_, rfl, b⟩ := hu.inv1
     obtain ⟨t, rfl⟩ := b.int_inv
     refine (xE1 fun k => aE2 fun hk h => ?_) (onS_inv h)
     refine (xE1 fun v => aE3 fun hv hi h => ?_) (onS_inv h)
     refine (xE1 fun y => aE2 fun q1 q2 => ?_) (r1.get hv)
     rw [hl] at hk
     obtain ⟨k1, k2⟩ := pyIdx_seq hk
     have hi' := smallI63 hi
     have up := R.updList (l' := l.eraseIdx k) s.toks e1 e (f := fun z => z.eraseIdxIfInBounds k) rfl (by rw [size_erase_ne k2]; exact r1.eraseIdx _)
     exact SatP.val h up (q2.keep up.2.imm) fun P hP =>
       call_meets PySem.F.slot_list_pop ⟨_, e1, rfl⟩ PySem.F.entry_list_pop (PySem.F.args_list_pop_2 _ _) (PySem.MeetsSeq.list_pop_at _ _ _ _ _ k y (by simp [Builtin.List.listFitsIndex]; lia) k1 (by rw [← Array.getElem?_toList]; exact q1) hz') ⟨e1, hP⟩
   | _ :: _ :: _, _, h => exact h.elim
 rw [if_neg hx2] at h ⊢
 by_cases hx3 : x = "remove"
 · rw [if_pos hx3] at h
   match us, hu, h with
   | [u], hu, h =>
     refine (xE1 fun i => aE2 fun oy2 oy3 => ?_) (onI_inv h); obtain rfl := oy2; revert oy3; intro h
     obtain ⟨_, rfl, b⟩ := hu.inv1
     obtain ⟨t, rfl⟩ := b.int_inv
     refine (xE1 fun zs => aE3 fun hi hc h => ?_) (onS_inv h)
     have hI := r1.ints hi
     have hmem : i ∈ zs := by simpa using hc
     have hj : zs.idxOf i < zs.length := List.idxOf_lt_length_iff.mpr hmem
     have hlz : zs.length = it.size := by
       rw [← hl, asInts_map hi, List.length_map]
     have hitem : ∀ (m : Nat) (hm : m < it.size), isInt i it[m] = (zs[m]'(by lia) == i) := by
       intro m hm
       have hg : l[m]? = some (.int (zs[m]'(by lia))) := by rw [asInts_map hi, List.getElem?_map, List.getElem?_eq_getElem (by lia)]; rfl
       refine (xE1 fun y => aE2 fun q1 q2 => ?_) (r1.get hg)
       rw [Array.getElem?_toList, Array.getElem?_eq_getElem hm] at q1
       have q1 := Option.some.inj q1
       rw [q1]
       obtain ⟨t, rfl⟩ := q2.int_inv
       rfl
     have up := R.updList (l' := (zs.erase i).map .int) s.toks e1 e (f := fun z => z.eraseIdxIfInBounds (zs.idxOf i)) rfl (by
       rw [size_erase_ne (by lia), List.erase_eq_eraseIdx_of_idxOf rfl, map_erase, ← asInts_map hi]
       exact r1.eraseIdx _)
     exact SatP.val h up .none fun P hP =>
       call_meets PySem.F.slot_list_remove ⟨_, e1, rfl⟩ PySem.F.entry_list_remove (PySem.F.args_list_remove_2 _ _) (PySem.MeetsSeq.list_remove _ _ _ _ (isInt i) (fun y hy => eq_isInt i t hI y (by simpa using hy)) (zs.idxOf i) (by lia)
         (by rw [hitem _ (by lia), List.getElem_idxOf]; simp)
         (fun m hm hlt => by
           rw [hitem m hm, beq_eq_false_iff_ne]
           exact fun q => absurd (List.not_of_lt_findIdx (p := (· == i)) (xs := zs) hlt) (by simpa using q)) hz') ⟨e1, hP⟩
   | [], _, h => exact h.elim
   | _ :: _ :: _, _, h => exact h.elim
 · rw [if_neg hx3] at h; exact h.elim
end
set_option backward.match.sparseCases false
section
variable {W : Wld} {A : Around} {σ : AH} {s : Shared} {env : Env} {m : Loc} {r k : Nat}
theorem Room.le {A : Around} {r k j : Nat} (R : Room A r k) (h : j ≤ k) : Room A r j := ⟨R.hd, R.depth, by have := R.units; lia⟩
theorem cLine_val : cLine = 9900 := by decide +kernel
theorem Room.line {A : Around} {r k : Nat} (R : Room A r k) : A.units + 64 < cLine := by have := R.units; rw [cLine_val]; lia
theorem sat_loc {x : Str} {pos : Pos} {v : V} {Q : V → AH → Prop} (EO : EnvOk env) (hk : env.kindOf x = some .local ∨ env.kindOf x = some .cell) (hd : (x == ("__debug__" : Str)) = false) (hz : x ≠ ".0") (hv : m x = some v) (h : Q v σ) : SatE W env r k (eval (.Name x pos) env) m σ Q := by
 intro A s _ O P hP
 refine wpAny_Name ?_ hd
 rcases hk with hk | hk
 · obtain ⟨mc, n, q⟩ := O.fr.loc
   refine (xE1 fun y => aE2 fun e1 e2 => ?_) (q x v hv hk hz)
   exact wpAny_loadName_local EO.kind hk n e1 (hP _ _ _ _ e2 O (.refl _ _) h)
 · refine (xE3 fun c o y => aE4 fun e1 e2 e3 e4 => ?_) (O.fr.cell x v hv hk)
   exact wpAny_loadName_cell EO.kind hk e1 ⟨o, e2, e3⟩ (hP _ _ _ _ e4 O (.refl _ _) h)
theorem glob_at (R : Rep W σ s) (EO : EnvOk env) : s.heap.Ns env.globals W.mg := by rw [EO.glob]; exact W.G.keeps R.base
theorem blt_at (R : Rep W σ s) (EO : EnvOk env) : s.heap.Ns env.builtins W.mb := by rw [EO.blt]; exact W.B.keeps R.base
theorem name_glob {x : Str} {pos : Pos} {v : Value} {P : Value → Shared → Prop} (EO : EnvOk env) (hk : env.kindOf x = some .globalImplicit) (hd : (x == ("__debug__" : Str)) = false) (R : Rep W σ s) (e : nsIn W.K mainGlobals x = some (some v)) (h : P v s) :
   wpAny W.M A (eval (.Name x pos) env) P NoE s := Name_function_global EO.kind hk (loadGlobal_global (glob_at R EO) (mg_of W.X W.G e) h) hd
theorem name_blt {x : Str} {pos : Pos} {v : Value} {P : Value → Shared → Prop} (EO : EnvOk env) (hk : env.kindOf x = some .globalImplicit) (hd : (x == ("__debug__" : Str)) = false) (R : Rep W σ s) (e : nsIn W.K mainGlobals x = some Option.none)
   (hv : bootBuiltins x = some v) (hn : x ≠ "__name__") (h : P v s) : wpAny W.M A (eval (.Name x pos) env) P NoE s :=
 Name_function_global EO.kind hk (loadGlobal_builtin (glob_at R EO) (mg_none_of W.X W.G e) (blt_at R EO) ((W.bt x hn).trans hv) h) hd
theorem bi_all : (biTab.all fun p => bootBuiltins p.1 == some (biVal p.2) && !((Str.ofString p.1) == ("__name__" : Str)) && !((Str.ofString p.1) == ("__debug__" : Str))) = true := by kernel_rfl
theorem bi_boot {x : Str} {b : BI} (h : biOf x = some b) : bootBuiltins x = some (biVal b) ∧ x ≠ "__name__" ∧ (x == ("__debug__" : Str)) = false := by
 refine (xE1 fun s => aE2 fun hs oy0 => ?_) (tabAt_mem h); obtain rfl := oy0
 have := List.all_eq_true.mp bi_all _ hs
 simp only [Bool.and_eq_true, beq_iff_eq, Bool.not_eq_true', beq_eq_false_iff_ne] at this
 exact ⟨this.1.1, this.1.2, beq_eq_false_iff_ne.mpr this.2⟩
theorem sat_glob {x : Str} {pos : Pos} {i : Int} {Q : V → AH → Prop} (EO : EnvOk env) (hk : env.kindOf x = some .globalImplicit) (hd : (x == ("__debug__" : Str)) = false) (hv : gcon x = some i) (h : Q (.int i) σ) : SatE W env r k (eval (.Name x pos) env) m σ Q := by
 intro A s _ O P hP
 obtain ⟨t, e⟩ := W.con x i hv
 exact name_glob EO hk hd O.rep e (hP _ _ _ _ (.int _ _) O (.refl _ _) h)
theorem callWith_type {pos : Pos} {n : String} {args : List (Bool × Sem Value)} {P : Value → Shared → Prop} (hplain : args.any (·.1) = false)
   (h : wpAny W.M A (evalArgs (.type n) true args []) (fun a s₁ => wpAny W.M A (call (.type n) a.pos a.kw) P NoE s₁) NoE s) : wpAny W.M A (callWith pos (.type n) [] args []) P NoE s :=
 callWith_of (P := fun _ => True) (by rw [hplain]; rfl) (fun _ _ => ⟨.machine, .inr (.inl rfl), Looks.of_pure rfl⟩) (wpAny_mono h (fun _ _ z => ⟨trivial, z⟩) fun _ _ z => z)
theorem evalArgs_of {f : Value} {args : List (Bool × Sem Value)} {P : Args → Shared → Prop} (hplain : ∀ a ∈ args, a.1 = false) (h : wpAny W.M A (spliced args) (fun vs s' => P ⟨vs, []⟩ s') NoE s) : wpAny W.M A (evalArgs f true args []) P NoE s := by
 cases args with
 | nil =>
   unfold evalArgs
   show wpAny _ _ (spliced [] >>= _) _ _ s
   refine wpAny_bind (wpAny_mono h (fun vs s' h' => ?_) fun _ _ x => x)
   refine wpAny_bind (wpAny_pure (wpAny_holding ?_))
   exact wpAny_bind (wpAny_pure (wpAny_bind (wpAny_pure (wpAny_pure h'))))
 | cons a rest =>
   obtain ⟨b, x⟩ := a
   obtain rfl : b = false := hplain (b, x) (.head _)
   exact evalArgs_plain h
noncomputable def SatEs (W : Wld) (env : Env) (r k : Nat) (t : Sem (List Value)) (m : Loc) (σ : AH) (Q : List V → AH → Prop) : Prop :=
 ∀ A s, Room A r k → Ok W env m σ s → ∀ P : List Value → Shared → Prop, (∀ us vs σ' s', VRs s'.heap us vs → Ok W env m σ' s' → Step σ s σ' s' → Q us σ' → P vs s') → wpAny W.M A t P NoE s
noncomputable def noStar : Expr → Bool
 | .Starred .. => false
 | _ => true
theorem toE_noStar {ks : Kinds} {n : Nat} {e : Expr} {p : PE} (h : toE ks n e = some p) : noStar e = true := by
 cases n with
 | zero => cases h
 | succ n => cases e <;> first | rfl | exact no_some h
theorem starEach_cons {e : Expr} {rest : List Expr} (h : noStar e = true) : starEach (e :: rest) env = (false, eval e env) :: starEach rest env := by
 cases e <;> first | rfl | cases h
theorem toEs_plain {f : Expr → Option PE} (hf : ∀ e p, f e = some p → noStar e = true) {pos : Pos} : ∀ {es : List Expr} {ps : PEs}, toEsWith f es = some ps → ∀ a ∈ backTo pos (starEach es env), a.1 = false
 | [], _, _ => fun _ h => nomatch h
 | e :: rest, ps, h => by
   refine (xE2 fun a b => aE3 fun h1 h2 _ => ?_) (bind2_inv h)
   rw [starEach_cons (hf _ _ h1)]
   intro x hx
   rcases List.mem_cons.mp hx with rfl | hx
   · rfl
   · exact toEs_plain hf h2 x hx
theorem sat_spliced {f : Expr → Option PE} {Z : CallP} (hf : ∀ e p, f e = some p → noStar e = true) (ih : ∀ e p, f e = some p → ∀ m σ Q, wpE Z p m σ Q → SatE W env r k (eval e env) m σ Q) {pos : Pos} :
   ∀ {es : List Expr} {ps : PEs}, toEsWith f es = some ps → ∀ {m : Loc} {σ : AH} {Q : List V → AH → Prop}, wpEs Z ps m σ Q → SatEs W env r k (spliced (backTo pos (starEach es env))) m σ Q
 | [], ps, h, m, σ, Q, hq => by
   cases h
   exact fun A s _ O P hP => spliced_nil (hP _ _ _ _ .nil O (.refl _ _) hq)
 | e :: rest, ps, h, m, σ, Q, hq => by
   refine (xE2 fun a b => aE3 fun h1 h2 oy0 => ?_) (bind2_inv h); obtain rfl := oy0
   rw [starEach_cons (hf _ _ h1)]
   intro A s R O P hP
   refine spliced_cons ?_
   refine ih e a h1 m σ _ hq A s R O _ fun u v σ₁ s₁ hv O₁ S₁ hq₁ => ?_
   refine sat_spliced hf ih h2 hq₁ A s₁ R O₁ _ fun us vs σ₂ s₂ hvs O₂ S₂ hq₂ => ?_
   exact hP _ _ _ _ (.cons (hv.keep S₂.imm) hvs) O₂ (S₁.trans S₂) hq₂
theorem sat_call {f : CF} {us : List V} {xs : List Value} {Q : V → AH → Prop} (R : Room A r 30) (Rp : Rep W σ s) (hu : VRs s.heap us xs) (h : CallSat W r f us σ Q) : SatP W A (call (.ref (f.addr W.K)) xs) σ s Q :=
 fun P hP => wpAny_call (codeAny_mono (h A s xs R Rp hu) fun res s' z => by
   revert z; refine xE3 fun v u σ' => aE2 fun oy0 oy1 => ?_; obtain rfl := oy0; revert oy1; refine aE4 fun a b c d => ?_
   exact hP _ _ _ _ a b c d)
theorem sat_callWith {f : CF} {first : List Value} {us₀ : List V} {pos : Pos} {args : List (Bool × Sem Value)} {Q₁ : List V → AH → Prop} {Q : V → AH → Prop} (R : Room A r k) (hk : 30 ≤ k) (O : Ok W env m σ s)
   (hkeep : keepIn W.K (.ref (f.addr W.K)) = true) (hplain : ∀ a ∈ args, a.1 = false) (hfirst : VRs s.heap us₀ first)
   (hargs : SatEs W env r k (spliced args) m σ Q₁) (h : ∀ us σ', Q₁ us σ' → CallSat W r f (us₀ ++ us) σ' Q)
   {P : Value → Shared → Prop} (hP : ∀ u v σ' s', VR s'.heap u v → Ok W env m σ' s' → Step σ s σ' s' → Q u σ' → P v s') : wpAny W.M A (callWith pos (.ref (f.addr W.K)) first args []) P NoE s := by
 have hp : (args.any (·.1) || ([] : List (Option Str × Sem Value)).any (·.1.isNone)) = false := by
   rw [List.any_nil, Bool.or_false, List.any_eq_false]; intro a ha; rw [hplain a ha]; decide
 refine callWith_of (P := W.K.In) hp (keeps_K hkeep) (evalArgs_of hplain ?_)
 refine hargs A s R O _ fun us vs σ₁ s₁ hvs O₁ S₁ hq₁ => ?_
 refine ⟨W.X.keeps O₁.rep.base, ?_⟩
 refine sat_call (R.le hk) O₁.rep ((hfirst.keep S₁.imm).append hvs) (h us σ₁ hq₁) _ fun u v σ₂ s₂ hv R₂ S₂ hq₂ => ?_
 exact hP _ _ _ _ hv (O₁.step R₂ S₂) (S₁.trans S₂) hq₂
theorem sat_callBuiltin {id : String} {first : List Value} {us₀ : List V} {pos : Pos} {args : List (Bool × Sem Value)} {Q₁ : List V → AH → Prop} {Q : V → AH → Prop} (R : Room A r k) (O : Ok W env m σ s)
   (hplain : ∀ a ∈ args, a.1 = false) (hfirst : VRs s.heap us₀ first)
   (hargs : SatEs W env r k (spliced args) m σ Q₁) (h : ∀ us σ' s' xs, VRs s'.heap (us₀ ++ us) xs → Rep W σ' s' → Q₁ us σ' → SatP W A (call (.builtin id) xs) σ' s' Q)
   {P : Value → Shared → Prop} (hP : ∀ u v σ' s', VR s'.heap u v → Ok W env m σ' s' → Step σ s σ' s' → Q u σ' → P v s') : wpAny W.M A (callWith pos (.builtin id) first args []) P NoE s := by
 have hp : args.any (·.1) = false := by rw [List.any_eq_false]; intro a ha; rw [hplain a ha]; decide
 refine callWith_builtin hp (evalArgs_of hplain ?_)
 refine hargs A s R O _ fun us vs σ₁ s₁ hvs O₁ S₁ hq₁ => ?_
 refine h us σ₁ s₁ _ ((hfirst.keep S₁.imm).append hvs) O₁.rep hq₁ _ fun u v σ₂ s₂ hv R₂ S₂ hq₂ => ?_
 exact hP _ _ _ _ hv (O₁.step R₂ S₂) (S₁.trans S₂) hq₂
theorem sat_callType {n : String} {pos : Pos} {args : List (Bool × Sem Value)} {Q₁ : List V → AH → Prop} {Q : V → AH → Prop} (R : Room A r k) (O : Ok W env m σ s)
   (hplain : ∀ a ∈ args, a.1 = false)
   (hargs : SatEs W env r k (spliced args) m σ Q₁) (h : ∀ us σ' s' xs, VRs s'.heap us xs → Rep W σ' s' → Q₁ us σ' → SatP W A (call (.type n) xs) σ' s' Q)
   {P : Value → Shared → Prop} (hP : ∀ u v σ' s', VR s'.heap u v → Ok W env m σ' s' → Step σ s σ' s' → Q u σ' → P v s') : wpAny W.M A (callWith pos (.type n) [] args []) P NoE s := by
 have hp : args.any (·.1) = false := by rw [List.any_eq_false]; intro a ha; rw [hplain a ha]; decide
 refine callWith_type hp (evalArgs_of hplain ?_)
 refine hargs A s R O _ fun us vs σ₁ s₁ hvs O₁ S₁ hq₁ => ?_
 refine h us σ₁ s₁ _ hvs O₁.rep hq₁ _ fun u v σ₂ s₂ hv R₂ S₂ hq₂ => ?_
 exact hP _ _ _ _ hv (O₁.step R₂ S₂) (S₁.trans S₂) hq₂
theorem methStat_of {K : Frag} {C x : Str} (h : methStat K C x = true) : plainGet K (gad K C) x = true ∧ findIn K (.ref (gad K C)) x = some (some (.ref (mad K C x))) ∧ isFn K (.ref (mad K C x)) = true ∧ keepIn K (.ref (mad K C x)) = true := by
 unfold methStat at h
 simp only [Bool.and_eq_true, beq_iff_eq] at h
 obtain ⟨⟨⟨a, b⟩, c⟩, d⟩ := h
 exact ⟨a, b, c, d⟩
theorem methodCall_eq {o : Expr} {name : Str} {apos pos : Pos} {ov : Value} {n : Nat} {args : List (Bool × Sem Value)} (hfew : methodCallForm n args [] = true) (hl : (apos.endLine == pos.line) = true) :
   methodCall o name apos pos env ov n args [] = (do let fx ← holding [ov] (getMethod ov name (do return (← importBound o env).getD true)); callWith pos fx.1 fx.2 args []) := by
 unfold methodCall
 rw [hfew]
 unfold calleeOf methodCallPos
 simp [hl]
theorem attributeBase_eq {o : Expr} {name : Str} {w : Sem Value} (h : okBase o = true) : attributeBase o name env w = w := by
 cases o <;> first | rfl | cases h
theorem okBase_he {o : Expr} {attr : Str} {pos : Pos} (h : okBase o = true) : eval (.Attribute o attr pos) env = (do
     let ov ← eval o env
     standAt pos.atName
     let r ← holding [ov] (getAttr ov attr true)
     letTemporaryGo o ov r
     pure r) := by
 show (do
     let ov ← attributeBase o attr env (eval o env)
     standAt pos.atName
     let r ← holding [ov] (getAttr ov attr true)
     letTemporaryGo o ov r
     pure r) = _
 rw [attributeBase_eq h]
theorem meth_list {a : Addr} {it : Array Value} {n : Nat} {x : Str} {pl : Sem Bool} {P : Value × List Value → Shared → Prop} (e : s.heap.get? a = some (PySem.W.listOf it n)) (hx : x = "append" ∨ x = "pop" ∨ x = "remove")
   (h : P (.builtin (listMeth x), [.ref a]) s) : wpAny W.M A (getMethod (.ref a) x pl) P NoE s := by
 have nd : ∀ b, Value.ref a = .ref b → ∃ o, s.heap.get? b = some o ∧ o.dict = Option.none := fun b q => by cases q; exact ⟨_, e, rfl⟩
 rcases hx with rfl | rfl | rfl
 · exact getMethod_builtin ⟨_, e, rfl⟩ PySem.F.plainAttrs_list PySem.F.slot_list_append PySem.F.type_list_append nd h
 · exact getMethod_builtin ⟨_, e, rfl⟩ PySem.F.plainAttrs_list PySem.F.slot_list_pop PySem.F.type_list_pop nd h
 · exact getMethod_builtin ⟨_, e, rfl⟩ PySem.F.plainAttrs_list PySem.F.slot_list_remove PySem.F.type_list_remove nd h
theorem sys_ne (R : Rep W σ s) {a : Addr} {o : AO} (e : σ a = some o) : (a == sysModules) = false := by
 have h1 := R.nobase a o e
 obtain ⟨ob, eb⟩ := W.sysm
 rw [beq_eq_false_iff_ne]
 rintro rfl
 rw [h1] at eb; cases eb
theorem shadow_none {es : List DictEntry} {kvs : List (Str × Value)} {n : Nat} {x : Str} (p : Pairs (strKind W.prog W.w) es kvs) (h : valueAt kvs x = Option.none) : shadowIn (some (dictOf es n)) x = some false := by
 show (lookIn x (dictOf es n)).map _ = _
 rw [lookIn_dict, pairs_getL p, h]; rfl
theorem sat_methCall {o : Expr} {x : Str} {apos pos : Pos} {args : List Expr} {Q₀ : V → AH → Prop} {Q : V → AH → Prop} (hk : 30 ≤ k) (hb : okBase o = true) (hl : (apos.endLine == pos.line) = true) (hlen : args.length < 20)
   (hplain : ∀ a ∈ backTo pos (starEach args env), a.1 = false) (hnum : (backTo pos (starEach args env)).length = args.length) (ho : SatE W env r k (eval o env) m σ Q₀)
   (hargs : ∀ u σ', Q₀ u σ' → ∃ mk, methKind u x σ' = some mk ∧ SatEs W env r k (spliced (backTo pos (starEach args env))) m σ' (fun us σ'' => wpMeth (CallSat W r) mk u x us σ'' Q)) :
   SatE W env r k (eval (.Call (.Attribute o x apos) args [] pos) env) m σ Q := by
 intro A s R O P hP
 have hfew : methodCallForm (args.length + 0) (backTo pos (starEach args env)) [] = true := by
   unfold methodCallForm
   have h1 : (backTo pos (starEach args env)).all (!·.1) = true := by rw [List.all_eq_true]; intro a ha; rw [hplain a ha]; rfl
   rw [h1]; simp; lia
 show wpAny _ _ (do
   let ov ← attributeBase o x env (eval o env)
   standAt apos.atName
   methodCall o x apos pos env ov (args.length + 0) (backTo pos (starEach args env)) []) _ _ _
 rw [attributeBase_eq hb]
 refine wpAny_bind (ho A s R O _ fun u ov σ₁ s₁ hv O₁ S₁ hq₁ => wpAny_bind (wpAny_standAt ?_))
 rw [methodCall_eq hfew hl]
 refine (xE1 fun mk => aE2 fun hm ha => ?_) (hargs u σ₁ hq₁)
 cases u with
 | ref a =>
   obtain rfl := hv.ref_inv
   refine (xE1 fun ob => aE2 fun e1 hm => ?_) (Option.bind_eq_some_iff.mp hm)
   cases ob with
   | inst C d =>
     refine (xE1 fun o2 => aE2 fun e2 hm => ?_) (Option.bind_eq_some_iff.mp hm)
     cases o2 with
     | dict fs =>
       obtain ⟨hc, hm⟩ := guard_inv hm
       cases hm
       rw [Bool.and_eq_true, Option.isNone_iff_eq_none] at hc
       have hs := methStat_of (W.met _ _ hc.1)
       have I0 := O₁.rep.objs _ _ e1
       refine (xE1 fun kvs => aE2 fun dd rr => ?_) (O₁.rep.objs _ _ e2)
       refine (xE2 fun es n => aE3 fun e3 p _ => ?_) (dict_get dd)
       have X : W.K.In s₁.heap := W.X.keeps O₁.rep.base
       have I : PySem.W.InstAt s₁.heap a (instObj (gad W.K C) d) (gad W.K C) (some (dictOf es n)) := ⟨I0, rfl, rfl, e3⟩
       refine wpAny_bind (wpAny_holding (method_fn X I (plainGet_of hs.1).1 (plainGet_of hs.1).2 hs.2.1 (beq_iff_eq.mp hs.2.2.1) (shadow_none p (rr.getF.2 hc.2)) ?_))
       exact sat_callWith (f := .me C x) (us₀ := [.ref a]) R hk O₁ hs.2.2.2 hplain (.one (.ref a)) ha (fun us σ' z => z) fun u v σ' s' a1 a2 a3 a4 => hP _ _ _ _ a1 a2 (S₁.trans a3) a4
     | _ => cases hm
   | list l =>
     obtain ⟨hx, hm⟩ := guard_inv hm
     cases hm
     refine (xE2 fun it n => aE2 fun e2 r1 => ?_) (O₁.rep.objs _ _ e1)
     refine wpAny_bind (wpAny_holding (meth_list e2 (of_decide_eq_true hx) ?_))
     refine sat_callBuiltin (us₀ := [.ref a]) R O₁ hplain (.one (.ref a)) ha (fun us σ' s' xs hxs Rp z => ?_) fun u v σ' s' a1 a2 a3 a4 => hP _ _ _ _ a1 a2 (S₁.trans a3) a4
     cases hxs with
     | cons q hxs =>
       obtain rfl := q.ref_inv
       refine (xE1 fun l' => aE2 fun e3 z => ?_) (lst_inv z)
       exact sat_listMeth Rp e3 z.1 z.2 hxs
   | idict l =>
     obtain ⟨hx, hm⟩ := guard_inv hm
     cases hm
     obtain rfl := of_decide_eq_true hx
     refine (xE1 fun kvs => aE2 fun dd rr => ?_) (O₁.rep.objs _ _ e1)
     refine wpAny_bind (wpAny_holding (getMethod_builtin dd.typeIs PySem.F.plainAttrs_dict PySem.F.slot_dict_get PySem.F.type_dict_get dd.mapOf.noDict ?_))
     refine sat_callBuiltin (us₀ := [.ref a]) R O₁ hplain (.one (.ref a)) ha (fun us σ' s' xs hxs Rp z => ?_) fun u v σ' s' a1 a2 a3 a4 => hP _ _ _ _ a1 a2 (S₁.trans a3) a4
     cases hxs with
     | cons q hxs =>
       obtain rfl := q.ref_inv
       refine (xE1 fun o => aE2 fun e3 z => ?_) (onS_inv z)
       refine (xE1 fun l' => aE2 fun oy0 oy1 => ?_) (onId_inv z); obtain rfl := oy0; revert oy1; intro z
       match us, hxs, z with
       | [u, v], hxs, z =>
         refine (xE1 fun kk => aE2 fun oy2 oy3 => ?_) (onI_inv z); obtain rfl := oy2; revert oy3; intro z
         obtain ⟨_, y, rfl, b, c⟩ := hxs.inv2
         obtain ⟨t, rfl⟩ := b.int_inv
         refine (xE1 fun kvs' => aE2 fun dd' rr' => ?_) (Rp.objs _ _ e3)
         have hval : VR s'.heap ((getI l' kk).getD v) ((valueAt kvs' kk).getD y) := by
           obtain ⟨g1, g2⟩ := rr'.getI (x := kk)
           cases hg : getI l' kk with
           | none => rw [g2 hg]; exact c
           | some w =>
             refine (xE1 fun y' => aE2 fun q1 q2 => ?_) (g1 w hg)
             rw [q1]; exact q2
         exact SatP.val z (Rp.toks (s'.toks + 1)) hval fun P hP =>
           call_meetsIn PySem.F.slot_dict_get dd'.typeIs PySem.F.entry_dict_get (PySem.F.args_dict_get_3 _ _ _) (meets_dict_get_default _ _ (intKind_is W.prog W.w kk t) (sys_ne Rp e3) y) ⟨_, dd'.mapOf, hP⟩
       | [], _, z => exact z.elim
       | [_], _, z => exact z.elim
       | _ :: _ :: _ :: _, _, z => exact z.elim
   | _ => cases hm
 | _ => cases hm
end
set_option backward.match.sparseCases false
noncomputable def Own (env : Env) (b : Addr) : Prop := b = env.locals ∨ ∃ x, env.kindOf x = some .cell ∧ env.cells.lookup x = some b
structure StepX (D : Addr → Prop) (σ : AH) (s : Shared) (σ' : AH) (s' : Shared) : Prop where
 hid : ∀ b o, ¬ D b → s.heap.get? b = some o → σ b = Option.none → s'.heap.get? b = some o ∧ σ' b = Option.none
 imm : KeepImm s.heap s'.heap
theorem Step.x {D : Addr → Prop} {σ σ' : AH} {s s' : Shared} (S : Step σ s σ' s') : StepX D σ s σ' s' := ⟨fun b o _ e n => S.hid b o e n, S.imm⟩
theorem StepX.refl (D : Addr → Prop) (σ : AH) (s : Shared) : StepX D σ s σ s := ⟨fun _ _ _ e n => ⟨e, n⟩, .refl _⟩
theorem StepX.trans {D : Addr → Prop} {σ₁ σ₂ σ₃ : AH} {s₁ s₂ s₃ : Shared} (x : StepX D σ₁ s₁ σ₂ s₂) (y : StepX D σ₂ s₂ σ₃ s₃) : StepX D σ₁ s₁ σ₃ s₃ :=
 ⟨fun b o d e n => let ⟨e', n'⟩ := x.hid b o d e n; y.hid b o d e' n', x.imm.trans y.imm⟩
theorem StepX.mono {D D' : Addr → Prop} {σ σ' : AH} {s s' : Shared} (S : StepX D σ s σ' s') (h : ∀ b, D b → D' b) : StepX D' σ s σ' s' := ⟨fun b o d e n => S.hid b o (fun q => d (h b q)) e n, S.imm⟩
theorem StepX.toStep {D : Addr → Prop} {σ σ' : AH} {s s' : Shared} (S : StepX D σ s σ' s') (h : ∀ b o, D b → s.heap.get? b = some o → False) : Step σ s σ' s' :=
 ⟨fun b o e n => S.hid b o (fun d => h b o d e) e n, S.imm⟩
section
variable {W : Wld} {A : Around} {σ : AH} {s : Shared} {env : Env} {m : Loc} {r k : Nat}
theorem Rep.hide {s' : Shared} (R : Rep W σ s) (a : Addr) (ha : σ a = Option.none) (hb : W.hb.get? a = Option.none) (hc : ∀ o, s.heap.get? a = some o → ¬ Imm o)
   (k : ∀ b o, b ≠ a → s.heap.get? b = some o → s'.heap.get? b = some o) (g : s'.gens = s.gens := by rfl) (q : s'.os = s.os := by rfl) : Rep W σ s' ∧ StepX (· = a) σ s σ s' := by
 have ki : KeepImm s.heap s'.heap := fun b o e c => k b o (fun h => hc o (h ▸ e) c) e
 refine ⟨⟨fun b o e => k b o (fun h => by rw [h, hb] at e; cases e) (R.base b o e), R.nobase, fun b o e => (R.objs b o e).keep ki fun ob => k b ob fun h => (by rw [h, ha] at e; cases e), g.trans R.gens, q.trans R.os⟩, ⟨fun b o d e n => ⟨k b o d e, n⟩, ki⟩⟩
inductive ItAt (h : Heap) (it : Addr) : V → List V → List V → Prop where
 | list {a whole i} : h.IsListIter it a i → ItAt h it (.ref a) whole (whole.drop i)
 | rng {a b c whole n x} : IsRangeIter h it x (n : Nat) c → ItAt h it (.rng a b c) whole ((rngFrom c n x).map .int)
 | tup {l whole t items n i} : h.IsTupleIter it t i → h.get? t = some ⟨.type "tuple", Option.none, .seq items n, #[]⟩ → VRs h l items.toList → ItAt h it (.tup l) whole (l.drop i)
theorem ItAt.cls {h : Heap} {it : Addr} {src : V} {whole rest : List V} (x : ItAt h it src whole rest) : ∃ o, h.get? it = some o ∧ ¬ Imm o := by
 cases x with
 | list i => (revert i; refine xE1 fun o => aE3 fun e c _ => ?_); exact ⟨o, e, Imm.no_cls c (by decide) (by decide)⟩
 | rng i => exact ⟨_, i, Imm.no_cls rfl (by decide) (by decide)⟩
 | tup i => (revert i; refine xE1 fun o => aE3 fun e c _ => ?_); exact ⟨o, e, Imm.no_cls c (by decide) (by decide)⟩
theorem ItAt.keep {h h' : Heap} {it : Addr} {src : V} {whole rest : List V} (x : ItAt h it src whole rest) (k : ∀ o, h.get? it = some o → h'.get? it = some o) (ki : KeepImm h h') : ItAt h' it src whole rest := by
 cases x with
 | list i => (revert i; refine xE1 fun o => aE2 fun e r => ?_); exact .list ⟨o, k o e, r⟩
 | rng i => exact .rng (k _ i)
 | tup i e r => (revert i; refine xE1 fun o => aE2 fun e' r' => ?_); exact .tup ⟨o, k o e', r'⟩ (ki _ _ e (.inl ⟨rfl, _, _, rfl⟩)) (r.keep ki)
theorem sat_iter {src : V} {v : Value} {l : List V} (R : Rep W σ s) (hv : VR s.heap src v) (hi : iterOf src σ = some l) (hok : iterOk src l σ) {P : Value → Shared → Prop}
   (h : ∀ it s', s.heap.get? it = Option.none → Rep W σ s' → Step σ s σ s' → ItAt s'.heap it src l l → σ it = Option.none → W.hb.get? it = Option.none → P (.ref it) s') : wpAny W.M A (pyIter v) P NoE s := by
 have nb : W.hb.get? s.heap.objs.size = Option.none := by
   cases q : W.hb.get? s.heap.objs.size with
   | none => rfl
   | some o => exact absurd (Heap.lt_size (R.base _ _ q)) (Nat.lt_irrefl _)
 cases hv with
 | ref a =>
   obtain ⟨e, hz⟩ := hok
   refine (xE2 fun it n => aE2 fun e1 r1 => ?_) (R.objs _ _ e)
   refine wpAny_pyIter_list ⟨_, e1, rfl, n, rfl⟩ ?_
   obtain ⟨R', S'⟩ := R.same (s' := { s with heap := s.heap.push { cls := .type "list_iterator", data := .fields #[.ref a, .int 0 0] } }) fun b o e => Heap.get?_push_of_some _ e
   have : ItAt (s.heap.push { cls := .type "list_iterator", data := .fields #[.ref a, .int 0 0] }) s.heap.objs.size (.ref a) l (l.drop 0) := .list ⟨_, Heap.get?_push_size _ rfl, rfl, rfl⟩
   exact h _ _ (get?_size _) R' S' this R.fresh nb
 | @rng rr a b c t u v hr =>
   revert hok; refine aE3 fun h1 h2 h3 => ?_
   have hs := rng_size (a := a) (b := b) h3
   cases hi
   refine wpAny_pyIter_range hr (rng_small h1 h2 h3) ?_
   obtain ⟨R', S'⟩ := R.same (s' := { s with heap := s.heap.push { cls := .type "range_iterator", data := .fields #[rawInt a, rawInt (Builtin.Range.rangeSize a b c), rawInt c] } }) fun b o e => Heap.get?_push_of_some _ e
   have : ItAt (s.heap.push { cls := .type "range_iterator", data := .fields #[rawInt a, rawInt (Builtin.Range.rangeSize a b c), rawInt c] }) s.heap.objs.size (.rng a b c) ((rngItems a b c).map .int) ((rngFrom c (rngSize a b c) a).map .int) :=
     .rng (by
       have : (rngSize a b c : Int) = Builtin.Range.rangeSize a b c := by lia
       rw [this]; exact Heap.get?_push_size _ rfl)
   exact h _ _ (get?_size _) R' S' this R.fresh nb
 | @tup t l' items n e r =>
   cases hi
   refine wpAny_pyIter_tuple ⟨_, e, rfl, n, rfl⟩ ?_
   obtain ⟨R', S'⟩ := R.same (s' := { s with heap := s.heap.push { cls := .type "tuple_iterator", data := .fields #[.ref t, .int 0 0] } }) fun b o e => Heap.get?_push_of_some _ e
   have : ItAt (s.heap.push { cls := .type "tuple_iterator", data := .fields #[.ref t, .int 0 0] }) s.heap.objs.size (.tup l) l (l.drop 0) :=
     .tup ⟨_, Heap.get?_push_size _ rfl, rfl, rfl⟩ (Heap.get?_push_of_some _ e) (r.keep S'.imm)
   exact h _ _ (get?_size _) R' S' this R.fresh nb
 | _ => cases hi
theorem drop_cons {α : Type} : ∀ {l : List α} {i : Nat} {v : α} {rest : List α}, l.drop i = v :: rest → l[i]? = some v ∧ l.drop (i + 1) = rest
 | [], i, _, _, h => by simp at h
 | x :: l, 0, _, _, h => by cases h; exact ⟨rfl, rfl⟩
 | x :: l, i + 1, _, _, h => drop_cons (l := l) (i := i) h
theorem drop_nil {α : Type} {l : List α} {i : Nat} (h : l.drop i = []) : l[i]? = Option.none := by
 rw [List.getElem?_eq_none]; exact List.drop_eq_nil_iff.mp h
theorem sat_next {it : Addr} {src : V} {whole rest : List V} (hA : A.handled = Option.none) (R : Rep W σ s) (hit : ItAt s.heap it src whole rest) (hok : iterOk src whole σ) (hh : σ it = Option.none) (hb : W.hb.get? it = Option.none) {P : Option Value → Shared → Prop}
   (hend : rest = [] → ∀ s', Rep W σ s' → StepX (· = it) σ s σ s' → P Option.none s')
   (hitem : ∀ u rest', rest = u :: rest' → ∀ x s', VR s'.heap u x → Rep W σ s' → StepX (· = it) σ s σ s' → ItAt s'.heap it src whole rest' → P (some x) s') : wpAny W.M A (pyNext (.ref it)) P NoE s := by
 obtain ⟨oi, ei, ci⟩ := hit.cls
 have hc : ∀ o, s.heap.get? it = some o → ¬ Imm o := fun o e => by rw [ei] at e; cases e; exact ci
 cases hit with
 | @list a whole i hi =>
   obtain ⟨e, hz⟩ := hok
   refine (xE2 fun its n => aE2 fun e1 r1 => ?_) (R.objs _ _ e)
   have hL : s.heap.IsList a its := ⟨_, e1, rfl, n, rfl⟩
   cases hr : whole.drop i with
   | nil =>
     refine wpAny_pyNext_list_end hA hi hL ?_ fun h' hx => ?_
     · have := drop_nil hr
       rw [Array.getElem?_eq_none_iff]
       rw [List.getElem?_eq_none_iff, r1.length, Array.length_toList] at this
       exact this
     · obtain ⟨R', S'⟩ := R.hide (s' := { s with heap := h' }) it hh hb hc fun b o d e => hx b o d e
       exact hend hr _ R' S'
   | cons u rest' =>
     obtain ⟨q1, q2⟩ := drop_cons hr
     refine (xE1 fun x => aE2 fun q3 q4 => ?_) (r1.get q1)
     refine wpAny_pyNext_list_item hi hL (by rw [← Array.getElem?_toList]; exact q3) fun h' hi' hs => ?_
     obtain ⟨R', S'⟩ := R.hide (s' := { s with heap := h' }) it hh hb hc fun b o d e => (hs.2 b d).trans e
     exact hitem u rest' hr x _ (q4.keep S'.imm) R' S' (q2 ▸ .list hi')
 | @rng a b c whole n x hi =>
   cases n with
   | zero =>
     refine wpAny_pyNext_range_end hA hi (by simp) fun h' hx => ?_
     obtain ⟨R', S'⟩ := R.hide (s' := { s with heap := h' }) it hh hb hc fun b o d e => hx b o d e
     exact hend rfl _ R' S'
   | succ n =>
     refine wpAny_pyNext_range_item hi (by lia) fun h' hi' hs => ?_
     obtain ⟨R', S'⟩ := R.hide (s' := { s with heap := h', toks := s.toks + 1 }) it hh hb hc fun b o d e => (hs.2 b d).trans e
     exact hitem (.int x) _ rfl _ _ (.int _ _) R' S' (.rng (by
       have : ((n + 1 : Nat) : Int) - 1 = (n : Int) := by lia
       rw [this] at hi'; exact hi'))
 | @tup l whole t items n i hi e r =>
   have hT : s.heap.IsTuple t items := ⟨_, e, rfl, n, rfl⟩
   cases hr : l.drop i with
   | nil =>
     refine wpAny_pyNext_tuple_end hA hi hT ?_ fun h' hx => ?_
     · have := drop_nil hr
       rw [Array.getElem?_eq_none_iff]
       rw [List.getElem?_eq_none_iff, r.length, Array.length_toList] at this
       exact this
     · obtain ⟨R', S'⟩ := R.hide (s' := { s with heap := h' }) it hh hb hc fun b o d e => hx b o d e
       exact hend hr _ R' S'
   | cons u rest' =>
     obtain ⟨q1, q2⟩ := drop_cons hr
     refine (xE1 fun x => aE2 fun q3 q4 => ?_) (r.get q1)
     refine wpAny_pyNext_tuple_item hi hT (by rw [← Array.getElem?_toList]; exact q3) fun h' hi' hs => ?_
     obtain ⟨R', S'⟩ := R.hide (s' := { s with heap := h' }) it hh hb hc fun b o d e => (hs.2 b d).trans e
     exact hitem u rest' hr x _ (q4.keep S'.imm) R' S' (q2 ▸ .tup hi' (S'.imm _ _ e (.inl ⟨rfl, _, _, rfl⟩)) (r.keep S'.imm))
theorem base_lt {W : Wld} {L : Addr} (h : W.hb.objs.size ≤ L) : W.hb.get? L = Option.none := by
 cases q : W.hb.get? L with
 | none => rfl
 | some o => exact absurd (Heap.lt_size q) (Nat.not_lt.mpr h)
theorem sat_storeL {x : Str} {u : V} {v : Value} (EO : EnvOk env) (O : Ok W env m σ s) (hk : env.kindOf x = some .local) (hv : VR s.heap u v) {P : Unit → Shared → Prop}
   (h : ∀ s', Ok W env (m.set x u) σ s' → StepX (· = env.locals) σ s σ s' → P () s') : wpAny W.M A (storeName env x v) P NoE s := by
 obtain ⟨mc, n, hm⟩ := O.fr.loc
 refine wpAny_storeName_local hk n (fun h' n' hs => ?_) (by rw [EO.kind]; rfl)
 have hc : ∀ o, s.heap.get? env.locals = some o → ¬ Imm o := fun o e => by
   revert n; refine xE3 fun o' es ep => aE3 fun e' d _ => ?_
   rw [e] at e'; cases e'; exact Imm.no_dict d
 obtain ⟨R', S'⟩ := O.rep.hide (s' := { s with heap := h', toks := s.toks + 1 }) env.locals O.fr.hidL (O.fr.above) hc fun b o d e => (hs.2 b d).trans e
 refine h _ ⟨R', ⟨⟨_, n', fun y w e k nz => ?_⟩, fun y w e k => ?_, fun y k => ?_, O.fr.apart, O.fr.hidL, O.fr.hidC, O.fr.above⟩⟩ S'
 · rw [Loc.set_eq] at e
   by_cases hy : y = x
   · rw [if_pos hy] at e ⊢; cases e; exact ⟨_, rfl, hv.keep S'.imm⟩
   · rw [if_neg hy] at e ⊢
     (refine (xE1 fun z => aE2 fun a b => ?_) (hm y w e k nz)); exact ⟨z, a, b.keep S'.imm⟩
 · have hy : y ≠ x := by rintro rfl; rw [hk] at k; cases k
   rw [Loc.set_eq] at e
   rw [if_neg hy] at e
   refine (xE3 fun c o z => aE4 fun a b d w' => ?_) (O.fr.cell y w e k)
   exact ⟨c, o, z, a, (hs.2 c (fun q => by
     revert n; refine xE3 fun o' es ep => aE3 fun e' d' _ => ?_
     rw [q, e'] at b; cases b; rw [d'] at d; cases d)).trans b, d, w'.keep S'.imm⟩
 · refine (xE3 fun c o z => aE3 fun a b d => ?_) (O.fr.cells y k)
   exact ⟨c, o, z, a, (hs.2 c (fun q => by
     revert n; refine xE3 fun o' es ep => aE3 fun e' d' _ => ?_
     rw [q, e'] at b; cases b; rw [d'] at d; cases d)).trans b, d⟩
theorem sat_store {x : Str} {u : V} {v : Value} (EO : EnvOk env) (O : Ok W env m σ s) (hk : env.kindOf x = some .local ∨ env.kindOf x = some .cell) (hv : VR s.heap u v) {P : Unit → Shared → Prop}
   (h : ∀ s', Ok W env (m.set x u) σ s' → StepX (Own env) σ s σ s' → P () s') : wpAny W.M A (storeName env x v) P NoE s := by
 rcases hk with hk | hk
 · exact sat_storeL EO O hk hv fun s' O' X => h s' O' (X.mono fun b q => .inl q)
 · obtain ⟨mc, n, hm⟩ := O.fr.loc
   refine (xE3 fun c o z => aE3 fun a b d => ?_) (O.fr.cells x hk)
   refine wpAny_storeName_cell EO.kind hk a ⟨o, b, d⟩ fun h' hc' hs => ?_
   have hc : ∀ o, s.heap.get? c = some o → ¬ Imm o := fun o' e => by
     rw [b] at e; cases e; exact Imm.no_cell d
   obtain ⟨hid1, hid2⟩ := O.fr.hidC x c hk a
   obtain ⟨R', S'⟩ := O.rep.hide (s' := { s with heap := h' }) c hid1 hid2 hc fun b o d e => (hs.2 b d).trans e
   have hcL : env.locals ≠ c := fun q => by
     revert n; refine xE3 fun o' es ep => aE3 fun e' d' _ => ?_
     rw [q, b] at e'; cases e'; rw [d] at d'; cases d'
   revert hc'; refine xE1 fun o' => aE2 fun ho' hd' => ?_
   refine h _ ⟨R', ⟨⟨mc, n.sameBut hs hcL, fun y w e k nz => ?_⟩, fun y w e k => ?_, fun y k => ?_, O.fr.apart, O.fr.hidL, O.fr.hidC, O.fr.above⟩⟩ (S'.mono fun b q => .inr ⟨x, hk, q ▸ a⟩)
   · have hy : y ≠ x := by rintro rfl; rw [hk] at k; cases k
     rw [Loc.set_eq] at e
     rw [if_neg hy] at e
     (refine (xE1 fun z => aE2 fun a b => ?_) (hm y w e k nz)); exact ⟨z, a, b.keep S'.imm⟩
   · rw [Loc.set_eq] at e
     by_cases hy : y = x
     · rw [if_pos hy] at e; cases e
       subst hy
       exact ⟨c, o', v, a, ho', hd', hv.keep S'.imm⟩
     · rw [if_neg hy] at e
       refine (xE3 fun c' o₁ z' => aE4 fun a' b' d' w' => ?_) (O.fr.cell y w e k)
       exact ⟨c', o₁, z', a', (hs.2 c' (fun q => hy (O.fr.apart y x c k hk (q ▸ a') a))).trans b', d', w'.keep S'.imm⟩
   · by_cases hy : y = x
     · subst hy; exact ⟨c, o', _, a, ho', hd'⟩
     · refine (xE3 fun c' o₁ z' => aE3 fun a' b' d' => ?_) (O.fr.cells y k)
       exact ⟨c', o₁, z', a', (hs.2 c' (fun q => hy (O.fr.apart y x c k hk (q ▸ a') a))).trans b', d'⟩
end
set_option backward.match.sparseCases true
section
variable {W : Wld} {A : Around} {σ : AH} {s : Shared} {env : Env} {m : Loc} {r k : Nat}
theorem SatE.prim {t : Sem Value} {Q : V → AH → Prop} (h : ∀ A s, Room A r k → Rep W σ s → SatP W A t σ s Q) : SatE W env r k t m σ Q :=
 fun A s R O P hP => h A s R O.rep P fun u v σ' s' a b c d => hP u v σ' s' a (O.step b c) c d
theorem toE_noSet {ks : Kinds} {n : Nat} {e : Expr} {p : PE} {op : CmpOp} (h : toE ks n e = some p) : behindInMarks op e = false := by
 cases n with
 | zero => cases h
 | succ n => cases e <;> first | rfl | exact no_some h
theorem toE_fold {ks : Kinds} {n : Nat} {e : Expr} {p : PE} (h : toE ks n e = some p) : ∀ x, foldedSetIterable e env x = pure x := by
 cases n with
 | zero => cases h
 | succ n => cases e <;> first | (intro x; rfl) | exact no_some h
theorem wp_chain2 {M : Model} {A : Around} {E : Value → Shared → Prop} {s : Shared} {l x c : Expr} {o1 o2 : CmpOp} {pos : Pos} {P : Value → Shared → Prop} (hm : behindInMarks o2 c = false)
   (h : wpAny M A (eval l env) (fun a s₁ => wpAny M A (eval x env) (fun b s₂ => wpAny M A (compareOp o1 a b) (fun t s₃ => wpAny M A (truthy t) (fun z s₄ =>
     if z then wpAny M A (eval c env) (fun d s₅ => wpAny M A (compareOp o2 b d) P E s₅) E s₄ else P t s₄) E s₃) E s₂) E s₁) E s) :
   wpAny M A (eval (.Compare l [o1, o2] [x, c] pos) env) P E s := by
 show wpAny M A (do
   let a ← eval l env
   let b ← holding [a] (eval x env)
   standAt pos
   let t ← holding [a, b] (compareOp o1 a b)
   release [a, b] [t]
   if ← holding [t, b] (truthy t) then (do
     let d ← holding [b] (markedBehindIn o2 c (eval c env))
     standAt pos
     operate [b, d] (compareOp o2 b d)) else pure t) P E s
 rw [markedBehindIn_of_false hm]
 refine wpAny_bind (wpAny_mono h (fun a s₁ h₁ => ?_) fun _ _ x => x)
 refine wpAny_bind (wpAny_holding (wpAny_mono h₁ (fun b s₂ h₂ => ?_) fun _ _ x => x))
 refine wpAny_bind (wpAny_standAt ?_)
 refine wpAny_bind (wpAny_holding (wpAny_mono h₂ (fun t s₃ h₃ => ?_) fun _ _ x => x))
 refine wpAny_bind (wpAny_release ?_)
 refine wpAny_bind (wpAny_holding (wpAny_mono h₃ (fun z s₄ h₄ => ?_) fun _ _ x => x))
 cases z with
 | true =>
   simp only [if_true] at h₄ ⊢
   exact wpAny_bind (wpAny_holding (wpAny_mono h₄ (fun d s₅ h₅ => wpAny_bind (wpAny_standAt (wpAny_operating h₅))) fun _ _ x => x))
 | false =>
   simp only [Bool.false_eq_true, if_false] at h₄ ⊢
   exact wpAny_pure h₄
theorem sat_boolOp {f : Expr → Option PE} {Z : CallP} (ih : ∀ e p, f e = some p → ∀ m σ Q, wpE Z p m σ Q → SatE W env r k (eval e env) m σ Q) {pos : Pos} {op : BoolOp} :
   ∀ {es : List Expr} {ps : PEs}, toEsWith f es = some ps → ∀ {m : Loc} {σ : AH} {Q : V → AH → Prop}, wpB Z op ps m σ Q → SatE W env r k (boolOp pos op (evalEach es env)) m σ Q
 | [], ps, h, m, σ, Q, hq => by cases h; exact False.elim hq
 | [e], ps, h, m, σ, Q, hq => by
   refine (xE2 fun a b => aE3 fun h1 h2 oy0 => ?_) (bind2_inv h); obtain rfl := oy0
   cases h2
   intro A s R O P hP
   exact ih e a h1 m σ _ hq A s R O P hP
 | e :: e2 :: rest2, ps, h, m, σ, Q, hq => by
   refine (xE2 fun a b => aE3 fun h1 h2 oy1 => ?_) (bind2_inv h); obtain rfl := oy1
   refine (xE2 fun x y => aE3 fun _ _ oy2 => ?_) (bind2_inv h2); obtain rfl := oy2
   intro A s R O P hP
   show wpAny _ _ (do
     let v ← eval e env
     standAt pos
     let t ← holding [v] (truthy v)
     match op, t with
     | .And, false | .Or, true => pure v
     | _, _ => boolOp pos op (evalEach (e2 :: rest2) env)) _ _ _
   refine wpAny_bind (ih e a h1 m σ _ hq A s R O _ fun u v σ₁ s₁ hv O₁ S₁ hq₁ => ?_)
   refine wpAny_bind (wpAny_standAt (wpAny_bind (wpAny_holding ?_)))
   refine sat_truth O₁.rep hv hq₁ _ fun t σ₂ s₂ R₂ S₂ hq₂ => ?_
   have O₂ := O₁.step R₂ S₂
   have S := S₁.trans S₂
   cases op <;> cases t
   · exact wpAny_pure (hP _ _ _ _ (hv.keep S₂.imm) O₂ S hq₂)
   · exact sat_boolOp ih h2 (show wpB Z .And _ m σ₂ Q from hq₂) A s₂ R O₂ P fun u v σ' s' a b c d => hP _ _ _ _ a b (S.trans c) d
   · exact sat_boolOp ih h2 (show wpB Z .Or _ m σ₂ Q from hq₂) A s₂ R O₂ P fun u v σ' s' a b c d => hP _ _ _ _ a b (S.trans c) d
   · exact wpAny_pure (hP _ _ _ _ (hv.keep S₂.imm) O₂ S hq₂)
theorem strOf_inv {e : Expr} {x : Str} (h : strOf e = some x) : ∃ k pos, e = .Constant (.str x) k pos := by
 cases e with
 | Constant c k pos =>
   cases c with
   | str s => cases h; exact ⟨_, _, rfl⟩
   | _ => exact no_some h
 | _ => exact no_some h
theorem toKs_shape {f : Expr → Option PE} : ∀ {ks : List (Option Expr)} {vs : List Expr} {pk : PKs}, toKsWith f ks vs = some pk → ks.all (·.isSome) = true ∧ ks.length = vs.length
 | [], vs, _, h => ⟨rfl, by obtain rfl := List.isEmpty_iff.mp (guard_inv h).1; rfl⟩
 | _ :: _, [], _, h => nomatch h
 | k :: ks, v :: vs, pk, h => by
   refine (xE3 fun x a b => aE4 fun hk h1 h2 _ => ?_) (bind3_inv h)
   refine (xE1 fun e => aE2 fun oy0 oy1 => ?_) (Option.bind_eq_some_iff.mp hk); obtain rfl := oy0
   obtain ⟨q, w⟩ := toKs_shape h2
   exact ⟨by simp [q], by simp [w]⟩
theorem sat_pairs {f : Expr → Option PE} {Z : CallP} (ih : ∀ e p, f e = some p → ∀ m σ Q, wpE Z p m σ Q → SatE W env r k (eval e env) m σ Q) {pos : Pos} :
   ∀ {ks : List (Option Expr)} {vs : List Expr} {pk : PKs}, toKsWith f ks vs = some pk → ∀ {m : Loc} {σ : AH} {Q : List (Str × V) → AH → Prop}, wpKs Z pk m σ Q →
     ∀ A s, Room A r k → Ok W env m σ s → ∀ P : List (Value × Value) → Shared → Prop, (∀ fs xs kvs σ' s', Carries (strKind W.prog W.w) xs kvs → KRs s'.heap fs kvs → Ok W env m σ' s' → Step σ s σ' s' → Q fs σ' → P xs s') →
     wpAny W.M A (evalPairs (pairTrees ks vs env pos)) P NoE s
 | [], vs, _, h, m, σ, Q, hq => by
   obtain ⟨h0, h⟩ := guard_inv h
   obtain rfl := List.isEmpty_iff.mp h0
   cases h
   exact fun A s R O P hP => pairTrees_nil_walk (hP _ _ [] _ _ trivial .nil O (.refl _ _) hq)
 | _ :: _, [], _, h, _, _, _, _ => nomatch h
 | k :: ks, v :: vs, pk, h, m, σ, Q, hq => by
   refine (xE3 fun x a b => aE4 fun hk h1 h2 oy0 => ?_) (bind3_inv h); obtain rfl := oy0
   refine (xE1 fun e => aE2 fun oy1 oy2 => ?_) (Option.bind_eq_some_iff.mp hk); obtain rfl := oy1; revert oy2; intro hs
   refine (xE2 fun k' pos' oy3 => ?_) (strOf_inv hs); obtain rfl := oy3
   intro A s R O P hP
   refine pairTrees_cons_walk (PySem.Calls.Constant_str ?_)
   obtain ⟨R₁, S₁⟩ := O.rep.toks (s.toks + 1)
   have O₁ := O.step R₁ S₁
   refine ih _ _ h1 m σ _ hq A _ R O₁ _ fun u x σ₂ s₂ hv O₂ S₂ hq₂ => ?_
   refine sat_pairs ih h2 hq₂ A s₂ R O₂ _ fun fs xs kvs σ₃ s₃ hc hk O₃ S₃ hq₃ => ?_
   exact hP _ _ (_ :: kvs) _ _ ⟨strKind_is W.prog W.w _ _, rfl, hc⟩ (.cons (hv.keep S₃.imm) hk) O₃ (S₁.trans (S₂.trans S₃)) hq₃
theorem merged_nodup : ∀ (kvs acc : List (Str × Value)), ((acc ++ kvs).map (·.1)).Nodup → merged acc kvs = acc ++ kvs
 | [], acc, _ => by simp [merged]
 | kv :: kvs, acc, h => by
   have h1 : stored acc kv.1 kv.2 = acc ++ [kv] := by
     unfold stored
     rw [if_neg]
     rw [List.any_eq_true]
     rintro oy0; revert oy0; refine xE1 fun x => aE2 fun hx hk => ?_
     rw [List.map_append, List.nodup_append] at h
     exact h.2.2 x.1 (List.mem_map_of_mem hx) kv.1 (by simp) (of_decide_eq_true hk)
   have h2 := merged_nodup kvs (acc ++ [kv]) (by simpa using h)
   unfold merged at h2 ⊢
   rw [List.foldl_cons, h1, h2]; simp
theorem Rep.adopt (R : Rep W σ s) (a : Addr) (ao : AO) (hb : W.hb.get? a = Option.none) (ho : OR W s.heap a ao) : Rep W (σ.set a ao) s := by
 refine ⟨R.base, fun b o e => ?_, fun b o e => ?_, R.gens, R.os⟩
 · unfold AH.set at e
   by_cases h : b = a
   · rw [h]; exact hb
   · rw [if_neg h] at e; exact R.nobase b o e
 · unfold AH.set at e
   by_cases h : b = a
   · rw [if_pos h] at e; cases e; rw [h]; exact ho
   · rw [if_neg h] at e; exact R.objs b o e
theorem hb_size (R : Rep W σ s) : W.hb.get? s.heap.objs.size = Option.none := by
 cases q : W.hb.get? s.heap.objs.size with
 | none => rfl
 | some o => exact absurd (Heap.lt_size (R.base _ _ q)) (Nat.lt_irrefl _)
theorem sat_dict {f : Expr → Option PE} {Z : CallP} (ih : ∀ e p, f e = some p → ∀ m σ Q, wpE Z p m σ Q → SatE W env r k (eval e env) m σ Q) {pos : Pos}
   {ks : List (Option Expr)} {vs : List Expr} {pk : PKs} (h : toKsWith f ks vs = some pk) {Q : V → AH → Prop}
   (hq : wpKs Z pk m σ fun fs σ => (fs.map (·.1)).Nodup ∧ ∀ c, σ c = Option.none → Q (.ref c) (σ.set c (.dict fs))) (hne : ks ≠ []) (hlen : ks.length ≤ 15) : SatE W env r k (eval (.Dict ks vs pos) env) m σ Q := by
 intro A s R O P hP
 obtain ⟨g1, g2⟩ := toKs_shape h
 refine wpAny_Dict_walk (knd := strKind W.prog W.w) g1 g2 hne hlen ?_
 have hd : (s.heap.push { cls := .type "dict", data := .dict #[] }).get? s.heap.objs.size = some { cls := .type "dict", data := .dict #[] } := Heap.get?_push_size _ rfl
 obtain ⟨R₁, S₁⟩ := O.rep.same (s' := { s with heap := s.heap.push { cls := .type "dict", data := .dict #[] } }) fun b o e => Heap.get?_push_of_some _ e
 have O₁ := O.step R₁ S₁
 refine sat_pairs ih h hq A _ R O₁ _ fun fs xs kvs σ₂ s₂ hc hk O₂ S₂ hq₂ => ?_
 obtain ⟨e2, n2⟩ := S₂.hid _ _ hd O.rep.fresh
 obtain ⟨q2, q3⟩ := hq₂
 refine ⟨kvs, hc, ⟨_, #[], 0, e2, ⟨rfl, rfl, rfl⟩, rfl, fun _ he => by simp at he, Pairs.nil, List.nodup_nil⟩, fun h' hd' hs => ?_⟩
 rw [merged_nodup kvs [] (by rw [List.nil_append, ← hk.keys]; exact q2), List.nil_append] at hd'
 have hbn := hb_size O.rep
 obtain ⟨R₃, S₃⟩ := O₂.rep.hide (s' := { s₂ with heap := h', toks := s₂.toks + xs.length }) s.heap.objs.size n2 hbn (fun o e => by rw [e2] at e; cases e; exact Imm.no_dict rfl) fun b o d e => (hs.2 b d).trans e
 have R₄ := R₃.adopt s.heap.objs.size (.dict fs) hbn ⟨kvs, hd', hk.keep S₃.imm⟩
 have S : Step σ s (σ₂.set s.heap.objs.size (.dict fs)) { s₂ with heap := h', toks := s₂.toks + xs.length } := by
   have S₁₂ := S₁.trans S₂
   refine ⟨fun b o e n => ?_, S₁₂.imm.trans S₃.imm⟩
   have hb : b ≠ s.heap.objs.size := Nat.ne_of_lt (Heap.lt_size e)
   obtain ⟨a1, a2⟩ := S₁₂.hid b o e n
   exact ⟨(S₃.hid b o hb a1 a2).1, by unfold AH.set; rw [if_neg hb]; exact a2⟩
 exact hP _ _ _ _ (.ref _) (O.step R₄ S) S (q3 _ n2)
end
section
variable {W : Wld} {A : Around} {σ : AH} {s : Shared} {env : Env} {m : Loc} {r k : Nat}
theorem isTrue_of_eval {M : Model} {A : Around} {E : Value → Shared → Prop} {s : Shared} {t : Expr} {P : Bool → Shared → Prop} (ht : okTest t = true) (hm : ∀ l op c pos, t = .Compare l [op] [c] pos → behindInMarks op c = false)
   (h : wpAny M A (eval t env) (fun v s₁ => wpAny M A (truthy v) P E s₁) E s) : wpAny M A (isTrue t env (eval t env)) P E s := by
 cases t with
 | Compare l ops cs pos =>
   match ops, cs, ht with
   | [op], [c], _ =>
     have hb := hm l op c pos rfl
     intro Γ p hΓ
     have h' := h Γ p hΓ
     simp only [eval_Compare1, markedBehindIn_of_false hb, Sem.wp_bind', Sem.wp_holding, Sem.wp_cmd_standAt, Sem.wp_operate] at h'
     simp only [isTrue_Compare1, markedBehindIn_of_false hb, Sem.wp_bind', Sem.wp_holding, Sem.wp_cmd_standAt, Sem.wp_operate]
     exact Sem.wp_mono M Γ _ (fun a p₁ s₁ h₁ => Sem.wp_mono M Γ _ (fun b p₂ s₂ h₂ => Sem.wp_mono M Γ _ (fun c p₃ s₃ h₃ => h₃ Γ p₃ hΓ) (fun _ _ _ x => x) _ _ h₂) (fun _ _ _ x => x) _ _ h₁) (fun _ _ _ x => x) _ _ h'
   | [], _, ht => cases ht
   | _ :: _ :: _, _, ht => cases ht
   | [_], [], ht => cases ht
   | [_], _ :: _ :: _, ht => cases ht
 | Name => exact wpAny_isTrue_value h
 | Attribute => exact wpAny_isTrue_value h
 | Subscript => exact wpAny_isTrue_value h
 | Call => exact wpAny_isTrue_value h
 | _ => cases ht
theorem sat_test {t : Expr} {Q : Bool → AH → Prop} (ht : okTest t = true) (hm : ∀ l op c pos, t = .Compare l [op] [c] pos → behindInMarks op c = false) (h : SatE W env r k (eval t env) m σ fun v σ => wpTruth v σ Q) (R : Room A r k) (O : Ok W env m σ s) {P : Bool → Shared → Prop}
   (hP : ∀ b σ' s', Ok W env m σ' s' → Step σ s σ' s' → Q b σ' → P b s') : wpAny W.M A (isTrue t env (eval t env)) P NoE s := by
 refine isTrue_of_eval ht hm (h A s R O _ fun u v σ₁ s₁ hv O₁ S₁ hq => ?_)
 refine sat_truth O₁.rep hv hq _ fun b σ₂ s₂ R₂ S₂ hq₂ => ?_
 exact hP b σ₂ s₂ (O₁.step R₂ S₂) (S₁.trans S₂) hq₂
theorem toE_cmpMark {ks : Kinds} {n : Nat} {t : Expr} {p : PE} (h : toE ks n t = some p) : ∀ l op c pos, t = .Compare l [op] [c] pos → behindInMarks op c = false := by
 rintro l op c pos rfl
 cases n with
 | zero => cases h
 | succ n =>
   refine (xE2 fun _ _ => aE3 fun _ h2 _ => ?_) (bind2_inv h)
   exact toE_noSet (n := n) h2
theorem closure_step (env : Env) : ∀ (names : List (Str × NameKind)) (acc : List (Str × Addr)), (∀ p ∈ names, p.2 = .free → ∃ c, env.cells.lookup p.1 = some c) →
   ∃ cl, (forIn names acc (fun (x : Str × NameKind) (cs : List (Str × Addr)) => (do if x.2 == .free then (do let c ← cellOf env x.1; pure (ForInStep.yield ((x.1, c) :: cs))) else pure (ForInStep.yield cs) : Sem (ForInStep (List (Str × Addr)))))) = pure cl ∧
     ∀ y c, cl.lookup y = some c → acc.lookup y = some c ∨ (env.cells.lookup y = some c ∧ ∃ p ∈ names, p.1 = y ∧ p.2 = .free)
 | [], acc, _ => ⟨acc, rfl, fun _ _ e => .inl e⟩
 | p :: names, acc, h => by
   by_cases hp : p.2 = .free
   · obtain ⟨c, hc⟩ := h p (.head _) hp
     refine (xE1 fun cl => aE2 fun e1 e2 => ?_) (closure_step env names ((p.1, c) :: acc) fun q hq => h q (.tail _ hq))
     refine ⟨cl, ?_, fun y d hd => ?_⟩
     · rw [List.forIn_cons]
       have : (p.2 == NameKind.free) = true := by rw [hp]; rfl
       simp only [this, if_true, cellOf, hc]
       exact e1
     · rcases e2 y d hd with q | ⟨q, p', a, b, c'⟩
       · rw [List.lookup_cons] at q
         by_cases hy : y = p.1
         · subst hy
           simp only [beq_self_eq_true] at q
           cases q
           exact .inr ⟨hc, p, .head _, rfl, hp⟩
         · rw [beq_eq_false_iff_ne.mpr hy] at q
           exact .inl q
       · exact .inr ⟨q, p', .tail _ a, b, c'⟩
   · refine (xE1 fun cl => aE2 fun e1 e2 => ?_) (closure_step env names acc fun q hq => h q (.tail _ hq))
     refine ⟨cl, ?_, fun y d hd => ?_⟩
     · rw [List.forIn_cons]
       have : (p.2 == NameKind.free) = false := by simpa using hp
       simp only [this, Bool.false_eq_true, if_false]
       exact e1
     · rcases e2 y d hd with q | ⟨q, p', a, b, c'⟩
       · exact .inl q
       · exact .inr ⟨q, p', .tail _ a, b, c'⟩
theorem closure_has (env : Env) : ∀ (names : List (Str × NameKind)) (acc cl : List (Str × Addr)),
   (forIn names acc (fun (x : Str × NameKind) (cs : List (Str × Addr)) => (do if x.2 == .free then (do let c ← cellOf env x.1; pure (ForInStep.yield ((x.1, c) :: cs))) else pure (ForInStep.yield cs) : Sem (ForInStep (List (Str × Addr)))))) = pure cl →
   (∀ p ∈ names, p.2 = .free → ∃ c, env.cells.lookup p.1 = some c) → ∀ y, (acc.lookup y).isSome = true ∨ (∃ p ∈ names, p.1 = y ∧ p.2 = .free) → (cl.lookup y).isSome = true
 | [], acc, cl, e, _, y, h => by
   cases e
   rcases h with h | ⟨p, hp, _⟩
   · exact h
   · cases hp
 | p :: names, acc, cl, e, hf, y, h => by
   rw [List.forIn_cons] at e
   by_cases hp : p.2 = .free
   · obtain ⟨c, hc⟩ := hf p (.head _) hp
     have : (p.2 == NameKind.free) = true := by rw [hp]; rfl
     simp only [this, if_true, cellOf, hc] at e
     refine closure_has env names ((p.1, c) :: acc) cl e (fun q hq => hf q (.tail _ hq)) y ?_
     by_cases hy : y = p.1
     · subst hy; left; simp [List.lookup_cons]
     · rcases h with h | ⟨q, hq, a, b⟩
       · left; rw [List.lookup_cons, beq_eq_false_iff_ne.mpr hy]; exact h
       · rcases List.mem_cons.mp hq with rfl | hq
         · exact absurd a.symm hy
         · exact .inr ⟨q, hq, a, b⟩
   · have : (p.2 == NameKind.free) = false := by simpa using hp
     simp only [this, Bool.false_eq_true, if_false] at e
     refine closure_has env names acc cl e (fun q hq => hf q (.tail _ hq)) y ?_
     rcases h with h | ⟨q, hq, a, b⟩
     · exact .inl h
     · rcases List.mem_cons.mp hq with rfl | hq
       · exact absurd b hp
       · exact .inr ⟨q, hq, a, b⟩
theorem closure_pure {env : Env} {sc : Scope} (h : ∀ p ∈ sc.names, p.2 = .free → ∃ c, env.cells.lookup p.1 = some c) :
   ∃ cl, closureFor sc env = pure cl ∧ (∀ y c, cl.lookup y = some c → env.cells.lookup y = some c ∧ ∃ p ∈ sc.names, p.1 = y ∧ p.2 = .free) ∧ (∀ p ∈ sc.names, p.2 = .free → (cl.lookup p.1).isSome = true) := by
 refine (xE1 fun cl => aE2 fun e1 e2 => ?_) (closure_step env sc.names [] h)
 refine ⟨cl, ?_, fun y c hc => ?_, fun p hp hf => closure_has env sc.names [] cl e1 h p.1 (.inr ⟨p, hp, rfl, hf⟩)⟩
 · show (forIn sc.names [] (fun (x : Str × NameKind) (cs : List (Str × Addr)) => (do if x.2 == .free then (do let c ← cellOf env x.1; pure (ForInStep.yield ((x.1, c) :: cs))) else pure (ForInStep.yield cs) : Sem (ForInStep (List (Str × Addr))))) >>= fun s => pure s) = pure cl
   rw [e1]
   rfl
 · rcases e2 y c hc with q | q
   · cases q
   · exact q
end
theorem wpComp_ok {turn : Loc → AH → (Option V → AH → Prop) → Prop} {src : V} {whole : List V} {x : Str} {m : Loc} {rest : List V} {σ : AH} {acc : List V} {Q : List V → AH → Prop} (h : wpComp turn src whole x m rest σ acc Q) : iterOk src whole σ := by
 cases rest <;> exact h.1
theorem FR.ext {W : Wld} {env : Env} {m m' : Loc} {σ : AH} {h : Heap} (F : FR W env m σ h) (e : ∀ y, (env.kindOf y = some .local ∧ y ≠ ".0") ∨ env.kindOf y = some .cell → m' y = m y) : FR W env m' σ h := by
 obtain ⟨mc, n, hv⟩ := F.loc
 exact ⟨⟨mc, n, fun x v q k nz => hv x v (e x (.inl ⟨k, nz⟩) ▸ q) k nz⟩, fun x v q k => F.cell x v (e x (.inr k) ▸ q) k, F.cells, F.apart, F.hidL, F.hidC, F.above⟩
theorem own_data {W : Wld} {env : Env} {m : Loc} {σ : AH} {h : Heap} (F : FR W env m σ h) {b : Addr} (hb : Own env b) : ∃ o, h.get? b = some o ∧ ((∃ es ep, o.data = .dict es ep) ∨ ∃ v, o.data = .cell v) := by
 rcases hb with rfl | ⟨x, k, e⟩
 · obtain ⟨mc, ⟨o, es, ep, e, d, _⟩, _⟩ := F.loc
   exact ⟨o, e, .inl ⟨es, ep, d⟩⟩
 · refine (xE3 fun c o y => aE3 fun a b d => ?_) (F.cells x k)
   rw [e] at a; cases a
   exact ⟨o, b, .inr ⟨y, d⟩⟩
theorem own_hid {W : Wld} {env : Env} {m : Loc} {σ : AH} {h : Heap} (F : FR W env m σ h) {b : Addr} (hb : Own env b) : σ b = Option.none ∧ W.hb.get? b = Option.none := by
 rcases hb with rfl | ⟨x, k, e⟩
 · exact ⟨F.hidL, F.above⟩
 · exact F.hidC x _ k e
theorem ItAt.data {h : Heap} {it : Addr} {src : V} {whole rest : List V} (x : ItAt h it src whole rest) : ∃ o vs, h.get? it = some o ∧ o.data = .fields vs := by
 cases x with
 | list i => (revert i; refine xE1 fun o => aE3 fun e _ d => ?_); exact ⟨o, _, e, d⟩
 | rng i => exact ⟨_, _, i, rfl⟩
 | tup i => (revert i; refine xE1 fun o => aE3 fun e _ d => ?_); exact ⟨o, _, e, d⟩
theorem FR.stepX {W : Wld} {env : Env} {m : Loc} {σ σ' : AH} {s s' : Shared} {D : Addr → Prop} (F : FR W env m σ s.heap) (S : StepX D σ s σ' s') (h : ∀ b, Own env b → ¬ D b) : FR W env m σ' s'.heap := by
 have hid : ∀ b o, Own env b → s.heap.get? b = some o → s'.heap.get? b = some o ∧ σ' b = Option.none := fun b o ob e => S.hid b o (h b ob) e (own_hid F ob).1
 obtain ⟨mc, n, hv⟩ := F.loc
 revert n; refine xE3 fun oL es ep => aE2 fun eL r => ?_
 obtain ⟨eL', hL'⟩ := hid _ _ (.inl rfl) eL
 refine ⟨⟨mc, ⟨oL, es, ep, eL', r⟩, fun x v e k nz => ?_⟩, fun x v e k => ?_, fun x k => ?_, F.apart, hL', fun x c k e => ?_, F.above⟩
 · (refine (xE1 fun y => aE2 fun a b => ?_) (hv x v e k nz)); exact ⟨y, a, b.keep S.imm⟩
 · refine (xE3 fun c o y => aE4 fun a b d w => ?_) (F.cell x v e k)
   exact ⟨c, o, y, a, (hid c o (.inr ⟨x, k, a⟩) b).1, d, w.keep S.imm⟩
 · refine (xE3 fun c o y => aE3 fun a b d => ?_) (F.cells x k)
   exact ⟨c, o, y, a, (hid c o (.inr ⟨x, k, a⟩) b).1, d⟩
 · refine (xE3 fun c' o y => aE3 fun a b d => ?_) (F.cells x k)
   rw [e] at a; cases a
   exact ⟨(hid c o (.inr ⟨x, k, e⟩) b).2, (F.hidC x c k e).2⟩
section
variable {W : Wld} {A : Around} {σ : AH} {s : Shared} {env : Env} {m : Loc} {r k : Nat}
theorem ItAt.self {it : Addr} {src : V} {whole rest : List V} (x : ItAt s.heap it src whole rest) {P : Value → Shared → Prop} (h : P (.ref it) s) : wpAny W.M A (pyIter (.ref it)) P NoE s := by
 cases x with
 | list i => exact wpAny_pyIter_listiter i h
 | rng i => exact wpAny_pyIter_rangeiter i h
 | tup i => exact wpAny_pyIter_tupleiter i h
noncomputable def TurnSat (W : Wld) (r k : Nat) (ifs : List Expr) (elt : Expr) (cenv : Env) (turn : Loc → AH → (Option V → AH → Prop) → Prop) : Prop :=
 ∀ (m' : Loc) (σ' : AH) (Q' : Option V → AH → Prop) (A : Around) (s : Shared), Room A r k → Ok W cenv m' σ' s → turn m' σ' Q' →
  ∀ (Pn : Shared → Prop) (Ps : Value → Shared → Prop), (∀ σ'' s'', Ok W cenv m' σ'' s'' → Step σ' s σ'' s'' → Q' Option.none σ'' → Pn s'') →
    (∀ u v σ'' s'', VR s''.heap u v → Ok W cenv m' σ'' s'' → Step σ' s σ'' s'' → Q' (some u) σ'' → Ps v s'') →
  wpAny W.M A (forIn ifs true fun c r => if r = true then do let ok ← isTrue c cenv (eval c cenv); pure (ForInStep.yield ok) else pure (ForInStep.yield r))
    (fun ok s₃ => if ok = true then wpAny W.M A (eval elt cenv) Ps NoE s₃ else Pn s₃) NoE s
theorem relabel_kind {sc : Scope} {y : Str} {kd : NameKind} (h : (relabel sc env).names.lookup y = some kd) (hk : env.scope.kind = .function) :
   ∃ p ∈ sc.names, p.1 = y ∧ kd = if p.2 = .free ∧ env.kindOf y = some .cell then .cell else p.2 := by
 have := mem_of_lookup h
 unfold relabel at this
 refine (xE1 fun oy0 oy1 => ?_) (List.mem_map.mp this); obtain ⟨n, q⟩ := oy0; obtain ⟨hp, e⟩ := oy1
 refine ⟨(n, q), hp, ?_⟩
 by_cases hq : q = .free ∧ env.kindOf n = some .cell
 · have hb : (q == NameKind.free && env.scope.kind == ScopeKind.function && env.kindOf n == some NameKind.cell) = true := by rw [hq.1, hk, hq.2]; rfl
   simp only [hb, if_true] at e
   cases e
   exact ⟨rfl, by rw [if_pos hq]⟩
 · have hb : (q == NameKind.free && env.scope.kind == ScopeKind.function && env.kindOf n == some NameKind.cell) = false := by
     rw [hk]
     by_cases h1 : q = .free
     · have h2 : ¬ env.kindOf n = some .cell := fun z => hq ⟨h1, z⟩
       have : (env.kindOf n == some NameKind.cell) = false := by simpa using h2
       rw [this, Bool.and_false]
     · have : (q == NameKind.free) = false := by simpa using h1
       rw [this]; rfl
   simp only [hb, Bool.false_eq_true, if_false] at e
   cases e
   exact ⟨rfl, by rw [if_neg hq]⟩
theorem sat_comp {x : Str} {px pos pos' : Pos} {it elt : Expr} {ifs : List Expr} {sc : Scope} {turn : Loc → AH → (Option V → AH → Prop) → Prop} {Qe : List V → AH → Prop} {use : Option (Value → Sem Unit)} {P : Value → Shared → Prop} (EO : EnvOk env)
   (hsk : sc.kind = .function) (hxl : sc.names.lookup x = some .local)
   (hn : ∀ p ∈ sc.names, (p.2 = .local ∧ (p.1 = x ∨ p.1 = ".0") ∧ sc.names.lookup p.1 = some .local) ∨ p.2 = .globalImplicit ∨ (p.2 = .free ∧ env.kindOf p.1 = some .cell))
   (hs : ∀ y, foldedSetIterable it env y = pure y)
   (hit : SatE W env r k (eval it env) m σ fun v σ' => onS (fun l => wpComp turn v l x m l σ' [] Qe) ⟨⟩ (iterOf v σ'))
   (hturn : ∀ cenv, EnvOk cenv → cenv.scope.names = (relabel sc env).names → TurnSat W r k ifs elt cenv turn)
   (R : Room A r k) (O : Ok W env m σ s)
   (hfin : ∀ us σ' s' ax C, Ok W env m σ' s' → Step σ s σ' s' → (∃ its n, s'.heap.get? ax = some (PySem.W.listOf its n) ∧ VRs s'.heap us its.toList) → σ' ax = Option.none → W.hb.get? ax = Option.none →
     (∃ mm, s'.heap.Ns C mm) → σ' C = Option.none → W.hb.get? C = Option.none → (∀ b o, s.heap.get? b = some o → σ b = Option.none → b ≠ ax ∧ b ≠ C) → C ≠ ax → Qe us σ' → compPost W.M A NoE use P (.ref ax) C (.ok .next) s') :
   wpAny W.M A (comprehension (.ListComp elt [⟨.Name x px, it, ifs, 0⟩] sc pos) sc env pos' (newList []) false (eval it env) use) P NoE s := by
 have kfree : ∀ p ∈ sc.names, p.2 = .free → env.kindOf p.1 = some .cell := fun p hp hf => by
   rcases hn p hp with ⟨h1, _⟩ | h1 | h1
   · rw [hf] at h1; cases h1
   · rw [hf] at h1; cases h1
   · exact h1.2
 obtain ⟨cl, hcl, hcl1, hcl2⟩ := closure_pure (env := env) (sc := sc) fun p hp hf => by
   refine (xE3 fun c o y => aE2 fun a _ => ?_) (O.fr.cells p.1 (kfree p hp hf))
   exact ⟨c, a⟩
 have hcell : ∀ p ∈ sc.names, p.2 ≠ .cell := fun p hp hf => by
   rcases hn p hp with ⟨h1, _⟩ | h1 | h1
   · rw [hf] at h1; cases h1
   · rw [hf] at h1; cases h1
   · rw [hf] at h1; cases h1.1
 refine wpAny_comprehension_free (g := ⟨.Name x px, it, ifs, 0⟩) (gs := []) rfl hs hcl hsk (fun p hp hl => by
   rcases hn p hp with h1 | h1 | h1
   · exact h1.2.2
   · rw [hl] at h1; cases h1
   · rw [hl] at h1; cases h1.1) ?_
 refine hit A s R O _ fun u xv σ₁ s₁ hv O₁ S₁ hq₁ => ?_
 refine (xE1 fun l => aE2 fun hl hq₁ => ?_) (onS_inv hq₁)
 have hok := wpComp_ok hq₁
 refine sat_iter O₁.rep hv hl hok fun itA s₂ hf₂ R₂ S₂ hit₂ hh₂ hb₂ => ?_
 refine wpAny_newObj_type (wpAny_newFunctionEnv hcell (by intro y hy; cases hy) (fun h₄ hns₄ hsb₄ => ?_) hsk)
 dsimp only at hns₄ hsb₄ ⊢
 have hC : (s₂.heap.push { cls := .type "list", dict := Option.none, data := .seq ([] : List Value).toArray }).objs.size = s₂.heap.objs.size + 1 := Heap.size_push ..
 have hax : h₄.get? s₂.heap.objs.size = some (PySem.W.listOf #[] 0) := by
   rw [hsb₄.2 _ (by rw [hC]; exact Nat.ne_of_lt (Nat.lt_succ_self _))]
   exact Heap.get?_push_of_some _ (Heap.get?_push_size _ rfl)
 have old : ∀ b o, s₂.heap.get? b = some o → h₄.get? b = some o := fun b o e => by
   rw [hsb₄.2 b (by rw [hC]; exact Nat.ne_of_lt (Nat.lt_succ_of_lt (Heap.lt_size e)))]
   exact Heap.get?_push_of_some _ (Heap.get?_push_of_some _ e)
 generalize (s₂.heap.push { cls := .type "list", dict := Option.none, data := .seq ([] : List Value).toArray }).objs.size = C at *
 subst hC
 obtain ⟨R₄, S₄⟩ := R₂.same (s' := { s₂ with heap := h₄, toks := s₂.toks + ([] : List (Str × Value)).length }) old
 have O₄ : Ok W env m σ₁ { s₂ with heap := h₄, toks := s₂.toks + ([] : List (Str × Value)).length } := (O₁.step R₂ S₂).step R₄ S₄
 have S₀₄ := S₁.trans (S₂.trans S₄)
 have hLlt : env.locals < s₂.heap.objs.size := by
   refine (xE1 fun mc => aE2 fun n _ => ?_) (((O₁.step R₂ S₂).fr).loc)
   exact n.lt
 have σnone : ∀ b, s₂.heap.objs.size ≤ b → σ₁ b = Option.none := fun b hb => by
   cases e : σ₁ b with
   | none => rfl
   | some o => exact absurd (R₂.lt e) (Nat.not_lt.mpr hb)
 have hbnone : ∀ b, s₂.heap.objs.size ≤ b → W.hb.get? b = Option.none := fun b hb => by
   cases e : W.hb.get? b with
   | none => rfl
   | some o => exact absurd (Heap.lt_size (R₂.base _ _ e)) (Nat.not_lt.mpr hb)
 have sold : ∀ b o, s.heap.get? b = some o → σ b = Option.none → b ≠ s₂.heap.objs.size ∧ b ≠ s₂.heap.objs.size + 1 := fun b o e n => by
   have := Heap.lt_size ((S₁.trans S₂).hid b o e n).1
   exact ⟨Nat.ne_of_lt this, Nat.ne_of_lt (Nat.lt_succ_of_lt this)⟩
 have kc : ∀ y, (compEnvC sc cl (s₂.heap.objs.size + 1) env).kindOf y = some .cell → env.kindOf y = some .cell ∧ (cl.lookup y).isSome = true := fun y hy => by
   refine (xE1 fun p => aE3 fun hp oy0 oy1 => ?_) (relabel_kind hy EO.kind); obtain rfl := oy0; revert oy1; intro hk
   by_cases hq : p.2 = .free ∧ env.kindOf p.1 = some .cell
   · exact ⟨hq.2, hcl2 p hp hq.1⟩
   · rw [if_neg hq] at hk; exact absurd hk.symm (hcell p hp)
 have kl : ∀ y, (compEnvC sc cl (s₂.heap.objs.size + 1) env).kindOf y = some .local → y ≠ ".0" → y = x := fun y hy nz => by
   refine (xE1 fun p => aE3 fun hp oy2 oy3 => ?_) (relabel_kind hy EO.kind); obtain rfl := oy2; revert oy3; intro hk
   by_cases hq : p.2 = .free ∧ env.kindOf p.1 = some .cell
   · rw [if_pos hq] at hk; cases hk
   · rw [if_neg hq] at hk
     rcases hn p hp with h1 | h1 | h1
     · exact h1.2.1.resolve_right nz
     · rw [← hk] at h1; cases h1
     · rw [← hk] at h1; cases h1.1
 have kx : (compEnvC sc cl (s₂.heap.objs.size + 1) env).kindOf x = some .local := lookup_relabel_local hxl
 have EO' : EnvOk (compEnvC sc cl (s₂.heap.objs.size + 1) env) := ⟨hsk, EO.glob, EO.blt⟩
 have T := hturn (compEnvC sc cl (s₂.heap.objs.size + 1) env) EO' rfl
 have F₀ : FR W (compEnvC sc cl (s₂.heap.objs.size + 1) env) (fun y => if (compEnvC sc cl (s₂.heap.objs.size + 1) env).kindOf y = some .cell then m y else Option.none) σ₁ h₄ := by
   refine ⟨⟨_, hns₄, fun y v e k _ => ?_⟩, fun y v e k => ?_, fun y k => ?_, fun y z c k1 k2 e1 e2 => ?_, σnone _ (by show _ ≤ s₂.heap.objs.size + 1; lia), fun y c k e => ?_, ?_⟩
   · rw [if_neg (by rw [k]; simp)] at e; cases e
   · rw [if_pos k] at e
     obtain ⟨k1, k2⟩ := kc y k
     refine (xE3 fun c o z => aE4 fun a b d w => ?_) (O₄.fr.cell y v e k1)
     obtain ⟨c', hc'⟩ := Option.isSome_iff_exists.mp k2
     have := (hcl1 y c' hc').1
     rw [a] at this; cases this
     exact ⟨c, o, z, hc', b, d, w⟩
   · obtain ⟨k1, k2⟩ := kc y k
     refine (xE3 fun c o z => aE3 fun a b d => ?_) (O₄.fr.cells y k1)
     obtain ⟨c', hc'⟩ := Option.isSome_iff_exists.mp k2
     have := (hcl1 y c' hc').1
     rw [a] at this; cases this
     exact ⟨c, o, z, hc', b, d⟩
   · exact O₄.fr.apart y z c (kc y k1).1 (kc z k2).1 (hcl1 y c e1).1 (hcl1 z c e2).1
   · exact O₄.fr.hidC y c (kc y k).1 (hcl1 y c e).1
   · show W.hb.get? (s₂.heap.objs.size + 1) = Option.none
     exact hbnone _ (Nat.le_succ _)
 have hit₄ : ItAt h₄ itA u l l := hit₂.keep (fun o e => old _ o e) S₄.imm
 obtain ⟨oi, vsi, ei, di⟩ := hit₂.data
 have hilt : itA < s₂.heap.objs.size := Heap.lt_size ei
 have loop : codeAny W.M A (.compLoop (.ListComp elt [⟨.Name x px, it, ifs, 0⟩] sc pos) 0 (.ref itA) (.ref s₂.heap.objs.size) (compEnvC sc cl (s₂.heap.objs.size + 1) env))
     (compPost W.M A NoE use P (.ref s₂.heap.objs.size) (s₂.heap.objs.size + 1)) { s₂ with heap := h₄, toks := s₂.toks + ([] : List (Str × Value)).length } := by
   refine codeAny_compLoop_tests (fun n s' => ∃ rest acc σ' m', n = rest.length ∧ wpComp turn u l x m rest σ' acc Qe ∧ Ok W env m σ' s' ∧ Ok W (compEnvC sc cl (s₂.heap.objs.size + 1) env) m' σ' s' ∧
       (∀ y, (compEnvC sc cl (s₂.heap.objs.size + 1) env).kindOf y = some .cell → m' y = m y) ∧ Step σ s σ' s' ∧ ItAt s'.heap itA u l rest ∧ σ' itA = Option.none ∧
       (∃ its n, s'.heap.get? s₂.heap.objs.size = some (PySem.W.listOf its n) ∧ VRs s'.heap acc its.toList) ∧ σ' s₂.heap.objs.size = Option.none) ?_ l.length
     ⟨l, [], σ₁, _, rfl, hq₁, O₄, ⟨R₄, F₀⟩, fun y k => if_pos k, S₀₄, hit₄, hh₂, ⟨#[], 0, hax, .nil⟩, σnone _ (Nat.le_refl _)⟩
   rintro n s' oy4; revert oy4; refine xE4 fun rest acc σ' m' => aE2 fun oy5 oy6 => ?_; obtain rfl := oy5; revert oy6; refine aE9 fun hw Oe Oc hmc S hI hIσ oy7 oy8 => ?_; revert oy7; refine xE2 fun its nl => aE2 fun hA1 hA2 => ?_; revert oy8; intro hAσ
   have ne1 : itA ≠ s₂.heap.objs.size := Nat.ne_of_lt hilt
   have ne2 : itA ≠ s₂.heap.objs.size + 1 := Nat.ne_of_lt (Nat.lt_succ_of_lt hilt)
   have ne3 : s₂.heap.objs.size ≠ s₂.heap.objs.size + 1 := Nat.ne_of_lt (Nat.lt_succ_self _)
   have hok' := wpComp_ok hw
   have itOwn : ∀ b, Own (compEnvC sc cl (s₂.heap.objs.size + 1) env) b → b ≠ itA := fun b hb q => by
     refine (xE1 fun o => aE2 fun e hd => ?_) (own_data Oc.fr hb)
     obtain ⟨o', vs, e', hd'⟩ := hI.data
     rw [q, e'] at e; cases e
     rcases hd with ⟨es, ep, hd⟩ | ⟨v, hd⟩ <;> (rw [hd] at hd'; cases hd')
   have axOwn : ∀ b, Own (compEnvC sc cl (s₂.heap.objs.size + 1) env) b → b ≠ s₂.heap.objs.size := fun b hb q => by
     refine (xE1 fun o => aE2 fun e hd => ?_) (own_data Oc.fr hb)
     rw [q, hA1] at e; cases e
     rcases hd with ⟨es, ep, hd⟩ | ⟨v, hd⟩ <;> cases hd
   have hbA : W.hb.get? s₂.heap.objs.size = Option.none := hbnone _ (Nat.le_refl _)
   have ownlt : ∀ b, Own env b → b < s₂.heap.objs.size := fun b hb => by
     refine (xE1 fun o => aE2 fun e _ => ?_) (own_data (O₁.step R₂ S₂).fr hb)
     exact Heap.lt_size e
   have itOwnE : ∀ b, Own env b → b ≠ itA := fun b hb q => by
     refine (xE1 fun o => aE2 fun e hd => ?_) (own_data Oe.fr hb)
     obtain ⟨o', vs, e', hd'⟩ := hI.data
     rw [q, e'] at e; cases e
     rcases hd with ⟨es, ep, hd⟩ | ⟨v, hd⟩ <;> (rw [hd] at hd'; cases hd')
   have soldI : ∀ b o, s.heap.get? b = some o → σ b = Option.none → b ≠ itA := fun b o e n q => by
     have := (S₁.hid b o e n).1
     rw [q, hf₂] at this; cases this
   have hbC : W.hb.get? (s₂.heap.objs.size + 1) = Option.none := hbnone _ (Nat.le_succ _)
   refine sat_next (P := fun r s₁ => _) R.hd Oe.rep hI hok' hIσ hb₂ (fun hr s₁ R₁ X₁ => ?_) (fun u' rest' hr v s₁ hv₁ R₁ X₁ hI₁ => ?_) |> fun z => wpAny_mono z (fun _ _ q => q) (fun _ _ q => q.elim)
   · -- the end
     subst hr
     have F₁ : Ok W env m σ' s₁ := ⟨R₁, Oe.fr.stepX X₁ itOwnE⟩
     have Fc : Ok W (compEnvC sc cl (s₂.heap.objs.size + 1) env) m' σ' s₁ := ⟨R₁, Oc.fr.stepX X₁ itOwn⟩
     have St : Step σ s σ' s₁ := ⟨fun b o e n => by
       obtain ⟨e1, n1⟩ := S.hid b o e n
       exact X₁.hid b o (soldI b o e n) e1 n1, S.imm.trans X₁.imm⟩
     obtain ⟨mc, nC, _⟩ := Fc.fr.loc
     exact hfin acc σ' s₁ s₂.heap.objs.size (s₂.heap.objs.size + 1) F₁ St ⟨its, nl, (X₁.hid _ _ (Ne.symm ne1) hA1 hAσ).1, hA2.keep X₁.imm⟩ hAσ hbA ⟨mc, nC⟩ Fc.fr.hidL hbC sold (Ne.symm ne3) hw.2
   · -- an item
     subst hr
     obtain ⟨_, hw⟩ := hw
     have F₁ : Ok W env m σ' s₁ := ⟨R₁, Oe.fr.stepX X₁ itOwnE⟩
     have Fc : Ok W (compEnvC sc cl (s₂.heap.objs.size + 1) env) m' σ' s₁ := ⟨R₁, Oc.fr.stepX X₁ itOwn⟩
     refine wpAny_bind (wpAny_standAt (wpAny_bindName (wpAny_mono (sat_storeL EO' Fc kx hv₁ (P := fun _ s₂' => _) fun s₂' Oc2 X2 => ?_) (fun _ _ q => q) (fun _ _ q => q.elim))))
     have X2' : StepX (· = s₂.heap.objs.size + 1) σ' s₁ σ' s₂' := X2
     have Oc2' : Ok W (compEnvC sc cl (s₂.heap.objs.size + 1) env) (m.set x u') σ' s₂' := ⟨Oc2.rep, Oc2.fr.ext fun y hy => by
       rw [Loc.set_eq, Loc.set_eq]
       by_cases hyx : y = x
       · rw [if_pos hyx, if_pos hyx]
       · rw [if_neg hyx, if_neg hyx]
         rcases hy with ⟨h1, h2⟩ | h1
         · exact absurd (kl y h1 h2) hyx
         · exact (hmc y h1).symm⟩
     have Oe2 : Ok W env m σ' s₂' := ⟨Oc2.rep, F₁.fr.stepX X2' fun b hb => Nat.ne_of_lt (Nat.lt_succ_of_lt (ownlt b hb))⟩
     have St2 : Step σ s σ' s₂' := ⟨fun b o e n => by
       obtain ⟨e1, n1⟩ := S.hid b o e n
       obtain ⟨e2, n2⟩ := X₁.hid b o (soldI b o e n) e1 n1
       exact X2'.hid b o (sold b o e n).2 e2 n2, S.imm.trans (X₁.imm.trans X2'.imm)⟩
     have hI2 : ItAt s₂'.heap itA u l rest' := hI₁.keep (fun o e => (X2'.hid itA o ne2 e hIσ).1) X2'.imm
     have hA3 := (X2'.hid _ _ ne3 (X₁.hid _ _ (Ne.symm ne1) hA1 hAσ).1 hAσ).1
     have hAv := hA2.keep (X₁.imm.trans X2'.imm)
     refine wpAny_mono (T (m.set x u') σ' _ A s₂' R Oc2' hw (fun s₃ => ∃ mm, mm < (u' :: rest').length ∧ ∃ rest acc σ' m', mm = rest.length ∧ wpComp turn u l x m rest σ' acc Qe ∧ Ok W env m σ' s₃ ∧ Ok W (compEnvC sc cl (s₂.heap.objs.size + 1) env) m' σ' s₃ ∧
       (∀ y, (compEnvC sc cl (s₂.heap.objs.size + 1) env).kindOf y = some .cell → m' y = m y) ∧ Step σ s σ' s₃ ∧ ItAt s₃.heap itA u l rest ∧ σ' itA = Option.none ∧
       (∃ its n, s₃.heap.get? s₂.heap.objs.size = some (PySem.W.listOf its n) ∧ VRs s₃.heap acc its.toList) ∧ σ' s₂.heap.objs.size = Option.none)
       (fun v₃ s₄ => wpAny W.M A (call (.builtin "list.append") [.ref s₂.heap.objs.size, v₃]) (fun _ s₅ => ∃ mm, mm < (u' :: rest').length ∧ ∃ rest acc σ' m', mm = rest.length ∧ wpComp turn u l x m rest σ' acc Qe ∧ Ok W env m σ' s₅ ∧ Ok W (compEnvC sc cl (s₂.heap.objs.size + 1) env) m' σ' s₅ ∧
         (∀ y, (compEnvC sc cl (s₂.heap.objs.size + 1) env).kindOf y = some .cell → m' y = m y) ∧ Step σ s σ' s₅ ∧ ItAt s₅.heap itA u l rest ∧ σ' itA = Option.none ∧
         (∃ its n, s₅.heap.get? s₂.heap.objs.size = some (PySem.W.listOf its n) ∧ VRs s₅.heap acc its.toList) ∧ σ' s₂.heap.objs.size = Option.none) NoE s₄)
       (fun σ'' s'' O₃ S₃ hq₃ => ?_) (fun u₃ v₃ σ'' s₄ hv₃ O₃ S₃ hq₃ => ?_)) (fun ok s₃ hh => ?_) (fun _ _ q => q.elim)
     · have kcell : ∀ y, (compEnvC sc cl (s₂.heap.objs.size + 1) env).kindOf y = some .cell → (m.set x u') y = m y := fun y hy => by
         rw [Loc.set_eq, if_neg (by rintro rfl; rw [kx] at hy; cases hy)]
       exact ⟨rest'.length, Nat.lt_succ_self _, rest', acc, σ'', m.set x u', rfl, hq₃, Oe2.step O₃.rep S₃, O₃, kcell, St2.trans S₃, hI2.keep (fun o e => (S₃.hid itA o e hIσ).1) S₃.imm, (S₃.hid itA _ (hI2.cls.choose_spec.1) hIσ).2,
         ⟨its, nl, (S₃.hid _ _ hA3 hAσ).1, hAv.keep S₃.imm⟩, (S₃.hid _ _ hA3 hAσ).2⟩
     · obtain ⟨hz, hq₃⟩ := hq₃
       have kcell : ∀ y, (compEnvC sc cl (s₂.heap.objs.size + 1) env).kindOf y = some .cell → (m.set x u') y = m y := fun y hy => by
         rw [Loc.set_eq, if_neg (by rintro rfl; rw [kx] at hy; cases hy)]
       obtain ⟨hA4, hA4σ⟩ := S₃.hid _ _ hA3 hAσ
       have hlen : its.size ≤ sizeLine := by
         have h1 : acc.length = its.size := by rw [hA2.length, Array.length_toList]
         have h2 := sizeOk_line hz
         lia
       refine append_at hA4 (fun h' hs' hA5 => ?_) hlen
       obtain ⟨R₅, X₅⟩ := O₃.rep.hide (s' := { s₄ with heap := h' }) s₂.heap.objs.size hA4σ hbA (fun o e => by rw [hA4] at e; cases e; exact Imm.no_cls rfl (by decide) (by decide)) fun b o d e => (hs'.2 b d).trans e
       have Oe4 := Oe2.step O₃.rep S₃
       have hI4 := hI2.keep (fun o e => (S₃.hid itA o e hIσ).1) S₃.imm
       have hIσ4 := (S₃.hid itA _ (hI2.cls.choose_spec.1) hIσ).2
       have axOwn4 : ∀ b, Own (compEnvC sc cl (s₂.heap.objs.size + 1) env) b → b ≠ s₂.heap.objs.size := fun b hb q => by
         refine (xE1 fun o => aE2 fun e hd => ?_) (own_data O₃.fr hb)
         rw [q, hA4] at e; cases e
         rcases hd with ⟨es, ep, hd⟩ | ⟨v, hd⟩ <;> cases hd
       have St4 := St2.trans S₃
       exact ⟨rest'.length, Nat.lt_succ_self _, rest', acc ++ [u₃], σ'', m.set x u', rfl, hq₃, ⟨R₅, Oe4.fr.stepX X₅ fun b hb => Nat.ne_of_lt (ownlt b hb)⟩, ⟨R₅, O₃.fr.stepX X₅ axOwn4⟩, kcell,
         ⟨fun b o e n => by
           obtain ⟨e1, n1⟩ := St4.hid b o e n
           exact X₅.hid b o (sold b o e n).1 e1 n1, St4.imm.trans X₅.imm⟩,
         hI4.keep (fun o e => (X₅.hid itA o ne1 e hIσ4).1) X₅.imm, hIσ4,
         ⟨its.push v₃, nl + 1, hA5, by rw [Array.toList_push]; exact (hAv.keep (S₃.imm.trans X₅.imm)).append (.one (hv₃.keep X₅.imm))⟩, hA4σ⟩
     · cases ok with
       | false =>
         simp only [Bool.false_eq_true, if_false] at hh ⊢
         exact hh
       | true =>
         simp only [if_true] at hh ⊢
         exact wpAny_mono hh (fun v s₄ q => wpAny_mono q (fun _ _ z => z) fun _ _ z => z.elim) fun _ _ z => z.elim
 refine codeAny_compStart_list loop ?_
 refine wpAny_mono (E := NoE) (Q := fun it' s' => it' = .ref itA ∧ s' = { s₂ with heap := h₄, toks := s₂.toks + ([] : List (Str × Value)).length }) ?_ (fun it' s' q => by obtain ⟨rfl, rfl⟩ := q; exact loop) fun _ _ q => q.elim
 exact hit₄.self (A := A) (s := { s₂ with heap := h₄, toks := s₂.toks + ([] : List (Str × Value)).length }) ⟨rfl, rfl⟩
end
section
variable {W : Wld} {A : Around} {σ : AH} {s : Shared} {env : Env} {m : Loc} {r k : Nat}
theorem relabel_names {sc : Scope} (hk : env.scope.kind = .function) : (relabel sc env).names = compKinds env.scope.names sc.names := by
 unfold relabel compKinds
 refine List.map_congr_left fun p _ => ?_
 obtain ⟨n, q⟩ := p
 simp only [hk, Env.kindOf, beq_self_eq_true, Bool.and_true]
theorem tail_sat {value slice : Expr} {o i : Value} {u v : V} {Q : V → AH → Prop} (R : Rep W σ s) (hi : okItem slice = true) (hu : VR s.heap u o) (hv : VR s.heap v i) (h : wpSub u v σ Q) : SatP W A (subscriptTail value slice o i) σ s Q := by
 obtain ⟨h1, T, id, hT, hl⟩ := sat_item (A := A) R hu hv h
 intro P hP
 refine tail_any (ops := [o, i]) hT hl (h1 P hP) ?_
 cases slice <;> first | rfl | cases hi
theorem backTo_len {f : Expr → Option PE} (hf : ∀ e p, f e = some p → noStar e = true) {pos : Pos} : ∀ {es : List Expr} {ps : PEs}, toEsWith f es = some ps → (backTo pos (starEach es env)).length = es.length
 | [], _, _ => rfl
 | e :: rest, ps, h => by
   refine (xE2 fun a b => aE3 fun h1 h2 _ => ?_) (bind2_inv h)
   rw [starEach_cons (hf _ _ h1)]
   exact congrArg (· + 1) (backTo_len hf h2)
noncomputable def PKs.n : PKs → Bool
 | .nil => true
 | .cons .. => false
theorem toKs_nil {f : Expr → Option PE} : ∀ {ks : List (Option Expr)} {vs : List Expr}, toKsWith f ks vs = some .nil → ks = [] ∧ vs = []
 | [], vs, h => ⟨rfl, List.isEmpty_iff.mp (guard_inv h).1⟩
 | _ :: _, [], h => no_some h
 | _ :: _, _ :: _, h => by (refine (xE3 fun _ _ _ => aE4 fun _ _ _ h => ?_) (bind3_inv h)); exact Bool.noConfusion (congrArg PKs.n h : false = true)
theorem turn_sat {cenv : Env} {f : Expr → Option PE} {Z : CallP} (ih : ∀ e p, f e = some p → ∀ m σ Q, wpE Z p m σ Q → SatE W cenv r k (eval e cenv) m σ Q) {ifs : List Expr} {elt : Expr} {a : PE} {c : PEs}
   (hok : ∀ e ∈ ifs, okTest e = true) (hlen : ifs.length ≤ 1) (h2 : f elt = some a) (h3 : toEsWith f ifs = some c) (hmark : ∀ e p, f e = some p → ∀ l op c pos, e = .Compare l [op] [c] pos → behindInMarks op c = false) :
   TurnSat W r k ifs elt cenv (fun m σ Q => wpCd Z c m σ fun b σ => onC (wpE Z a m σ fun u σ => Q (some u) σ) (Q Option.none σ) ⟨⟩ ⟨⟩ b) := by
 intro m' σ' Q' A s R O hq Pn Ps hPn hPs
 match ifs, hlen with
 | [], _ =>
   cases h3
   refine wpAny_tests_nil ?_
   simp only [if_true]
   exact ih _ _ h2 _ _ _ hq A s R O _ fun u v σ₁ s₁ hv O₁ S₁ hq₁ => hPs _ _ _ _ hv O₁ S₁ hq₁
 | [t], _ =>
   refine (xE2 fun p b => aE3 fun q1 q2 oy0 => ?_) (bind2_inv h3); obtain rfl := oy0
   cases q2
   refine wpAny_tests_one ?_
   refine sat_test (k := k) (r := r) (m := m') (hok t (.head _)) (hmark _ _ q1) (ih _ _ q1 _ _ _ hq) R O ?_
   intro b σ₁ s₁ O₁ S₁ hq₁
   cases b with
   | true =>
     simp only [if_true]
     exact ih _ _ h2 _ _ _ (show wpE Z a m' σ₁ fun u σ => Q' (some u) σ from hq₁) A s₁ R O₁ _ fun u v σ₂ s₂ hv O₂ S₂ hq₂ => hPs _ _ _ _ hv O₂ (S₁.trans S₂) hq₂
   | false =>
     simp only [Bool.false_eq_true, if_false]
     exact hPn _ _ O₁ S₁ hq₁
 | _ :: _ :: _, h => simp at h
theorem isName_inv {e : Expr} (h : isName e = true) : ∃ x pos, e = .Name x pos := by
 cases e with
 | Name x pos => exact ⟨_, _, rfl⟩
 | _ => cases h
theorem intOf_inv {e : Expr} {b : Int} (h : intOf e = some b) : ∃ k pos, e = .Constant (.int b) k pos := by
 cases e with
 | Constant c k pos =>
   cases c with
   | int i => cases h; exact ⟨_, _, rfl⟩
   | _ => exact no_some h
 | _ => exact no_some h
theorem slcOf_inv {e : Expr} {b : Int} (h : slcOf e = some b) : ∃ k q pos, e = .Slice Option.none (some (.Constant (.int b) k q)) Option.none pos := by
 cases e with
 | Slice lo hi st pos =>
   obtain ⟨h0, h⟩ := guard_inv h
   rw [Bool.and_eq_true, Option.isNone_iff_eq_none, Option.isNone_iff_eq_none] at h0
   obtain ⟨rfl, rfl⟩ := h0
   refine (xE1 fun e => aE2 fun oy0 oy1 => ?_) (Option.bind_eq_some_iff.mp h); obtain rfl := oy0; revert oy1; intro h
   refine (xE2 fun k q oy2 => ?_) (intOf_inv h); obtain rfl := oy2
   exact ⟨_, _, _, rfl⟩
 | _ => exact no_some h
theorem nameOf_inv {e : Expr} {x : Str} (h : nameOf e = some x) : ∃ pos, e = .Name x pos := by
 cases e with
 | Name y pos => cases h; exact ⟨_, rfl⟩
 | _ => exact no_some h
theorem pick_take {items : Array Value} {b : Int} (hb : 0 ≤ b) : (slicePick items Option.none (some b) Option.none).toList = items.toList.take b.toNat := by
 obtain ⟨n, rfl⟩ : ∃ n : Nat, b = n := ⟨b.toNat, by lia⟩
 rw [Int.toNat_natCast]
 by_cases h : n ≤ items.size
 · rw [slicePick_upto items n h]
 · have e : slicePick items Option.none (some (n : Int)) Option.none = slicePick items Option.none (some ((items.size : Nat) : Int)) Option.none := by
     unfold slicePick
     have : sliceBounds Option.none (some (n : Int)) Option.none items.size = sliceBounds Option.none (some ((items.size : Nat) : Int)) Option.none items.size := by
       simp only [sliceBounds, Option.getD_none]
       have h2 : ¬ ((n : Int) < 0) := by lia
       have h3 : ¬ (((items.size : Nat) : Int) < 0) := by lia
       simp only [h2, h3, if_false, show (1 : Int) > 0 by decide, if_true]
       congr 2
       lia
     rw [this]
   rw [e, slicePick_upto items items.size (Nat.le_refl _)]
   show items.toList.take items.size = _
   rw [List.take_of_length_le (by simp), List.take_of_length_le (by simp; lia)]
theorem VRs.take {h : Heap} : ∀ {l xs} (n : Nat), VRs h l xs → VRs h (l.take n) (xs.take n)
 | _, _, 0, _ => by rw [List.take_zero, List.take_zero]; exact .nil
 | _, _, _ + 1, .nil => .nil
 | _, _, n + 1, .cons a r => .cons a (r.take n)
theorem sat_slice {x : Str} {px sp pos : Pos} {b : Int} {u q} {Q : V → AH → Prop} (hb : 0 ≤ b) (h : SatE W env r k (eval (.Name x px) env) m σ fun v σ => wpSlc v b.toNat σ Q) : SatE W env r k (eval (.Subscript (.Name x px) (.Slice Option.none (some (.Constant (.int b) u q)) Option.none sp) pos) env) m σ Q := by
 intro A s R O P hP
 refine wpAny_Subscript_list_slice (h A s R O _ fun v y σ₁ s₁ hv O₁ S₁ hq₁ => wpAny_evalPart_none (wpAny_evalPart_some (wpAny_Constant_int ?_)))
 cases v with
 | ref a =>
   obtain rfl := hv.ref_inv
   refine (xE1 fun o => aE2 fun e hq₁ => ?_) (onS_inv hq₁)
   refine (xE1 fun l => aE2 fun eo hq₂ => ?_) (onF_inv hq₁)
   obtain rfl := eo
   refine (aE2 fun hz hq₁ => ?_) hq₂
   refine (xE3 fun ob items n => aE5 fun _ e1 ec ed e2 => ?_) (O₁.rep.objs a _ e)
   obtain ⟨R₂, S₂⟩ := O₁.rep.toks (s₁.toks + 1)
   obtain ⟨R₃, S₃⟩ := R₂.same (s' := { s₁ with heap := s₁.heap.push { cls := .type "slice", data := .fields #[.none, .int b s₁.toks, .none] }, toks := s₁.toks + 1 }) fun b o e => Heap.get?_push_of_some _ e
   obtain ⟨R₄, S₄⟩ := R₃.newList (n := 0) (s₁.toks + 1) (l := l.take b.toNat) (items := slicePick items Option.none (some b) Option.none) (by rw [pick_take hb]; exact (e2.keep (S₂.imm.trans S₃.imm)).take _)
   have hsz : (s₁.heap.push { cls := .type "slice", data := .fields #[.none, .int b s₁.toks, .none] }).objs.size = s₁.heap.objs.size + 1 := Heap.size_push ..
   refine ⟨a, items, Option.none, some b, rfl, ⟨_, e1, ec, n, ed⟩, ?_, .none, .int b _, ?_⟩
   · have h2 : items.size = l.length := e2.length.symm
     rw [h2]; exact sizeOk_line hz
   · have S := S₁.trans (S₂.trans (S₃.trans S₄))
     have := hP _ _ _ _ (.ref _) (O.step R₄ S) S (hq₁ _ R₃.fresh)
     rw [hsz] at this
     exact this
 | _ => exact hq₁.elim
theorem toComp_inv {f : Kinds → Expr → Option PE} {ks : Kinds} {elt : Expr} {sc : Scope} {gens : List Comprehension} {p : PE} (h : toComp f ks elt sc gens = some p) :
   ∃ x px it ifs i a c, gens = [⟨.Name x px, it, ifs, 0⟩] ∧ p = .comp a x i c ∧ f ks it = some i ∧ f (compKinds ks sc.names) elt = some a ∧ toEsWith (f (compKinds ks sc.names)) ifs = some c ∧
     sc.kind = .function ∧ (∀ e ∈ ifs, okTest e = true) ∧ ifs.length ≤ 1 ∧ sc.names.lookup x = some .local ∧ (∀ p ∈ sc.names, ((p.2 = .local ∧ (p.1 = x ∨ p.1 = ".0")) ∧ sc.names.lookup p.1 = some .local ∨ p.2 = .globalImplicit) ∨ p.2 = .free ∧ ks.lookup p.1 = some .cell) := by
 match gens, h with
 | [], h => exact no_some h
 | _ :: _ :: _, h => exact no_some h
 | [⟨t, it, ifs, as⟩], h =>
   refine (xE1 fun x => aE2 fun hx h => ?_) (Option.bind_eq_some_iff.mp h)
   obtain ⟨px, rfl⟩ := nameOf_inv hx
   obtain ⟨hc, h⟩ := guard_inv h
   refine (xE3 fun i a c => aE4 fun h1 h2 h3 oy0 => ?_) (bind3_inv h); obtain rfl := oy0
   rw [Bool.and_eq_true, decide_eq_true_eq] at hc
   obtain ⟨rfl, hc⟩ := hc
   unfold compOk at hc
   simp only [Bool.and_eq_true, beq_iff_eq, decide_eq_true_eq, List.all_eq_true, Bool.or_eq_true] at hc
   obtain ⟨⟨⟨⟨c1, c2⟩, c3⟩, c4⟩, c5⟩ := hc
   exact ⟨x, px, it, ifs, i, a, c, rfl, rfl, h1, h2, h3, c1, c2, c3, c4, c5⟩
theorem sound_comp {n : Nat} (ihn : ∀ {env : Env} (_ : EnvOk env) {e : Expr} {p : PE}, toE env.scope.names n e = some p → ∀ {m : Loc} {σ : AH} {Q : V → AH → Prop}, wpE (CallSat W r) p m σ Q → SatE W env r k (eval e env) m σ Q)
   (EO : EnvOk env) {elt : Expr} {gens : List Comprehension} {sc : Scope} {pos : Pos} {p : PE} (h : toComp (toEn n) env.scope.names elt sc gens = some p) {Q : V → AH → Prop} (hq : wpE (CallSat W r) p m σ Q) : SatE W env r k (eval (.ListComp elt gens sc pos) env) m σ Q := by
 refine (xE7 fun x px it ifs i a c => aE2 fun oy0 oy1 => ?_) (toComp_inv (f := toEn n) (ks := env.scope.names) (elt := elt) (sc := sc) (gens := gens) h); obtain rfl := oy0; revert oy1; refine aE2 fun oy2 oy3 => ?_; obtain rfl := oy2; revert oy3; refine aE8 fun h1 h2 h3 c1 c2 c3 c4 c5 => ?_
 replace hq : wpE (CallSat W r) i m σ fun v σ => onS (fun l => wpComp (fun m σ Q => wpCd (CallSat W r) c m σ fun b σ => onC (wpE (CallSat W r) a m σ fun u σ => Q (some u) σ) (Q Option.none σ) ⟨⟩ ⟨⟩ b) v l x m l σ [] fun us σ => ∀ c, σ c = Option.none → Q (.ref c) (σ.set c (.list us))) ⟨⟩ (iterOf v σ) := hq
 intro A s R O P hP
 rw [eval_ListComp]
 refine sat_comp (ifs := _) (Qe := fun us σ => ∀ c, σ c = Option.none → Q (.ref c) (σ.set c (.list us))) EO c1 c4 (fun p hp => ?_) (toE_fold (n := n) h1) (ihn EO h1 hq) (fun cenv EOc hnm => ?_) R O ?_
 · rcases c5 p hp with (⟨⟨h, h'⟩, h''⟩ | h) | h
   · exact .inl ⟨h, h', h''⟩
   · exact .inr (.inl h)
   · exact .inr (.inr h)
 · rw [relabel_names EO.kind] at hnm
   rw [← hnm] at h2 h3
   exact turn_sat (f := toE cenv.scope.names n) (fun e p he m σ Q hq => ihn EOc he hq) c2 c3 h2 h3 (fun e p he => toE_cmpMark (n := n) he)
 · intro us σ' s' ax C O' S hL hax hbax hC hσC hbC hnew hne hQ
   obtain ⟨mm, nC⟩ := hC
   refine ⟨mm, nC, fun h' hs => ?_⟩
   revert nC; refine xE3 fun oC es ep => aE3 fun eC dC _ => ?_
   obtain ⟨R₁, X₁⟩ := O'.rep.hide (s' := { s' with heap := h' }) C hσC hbC (fun o e => by rw [eC] at e; cases e; exact Imm.no_dict dC) fun b o d e => (hs.2 b d).trans e
   revert hL; refine xE2 fun its nn => aE2 fun eL vL => ?_
   have R₂ := R₁.adopt ax (.list us) hbax ⟨its, nn, (hs.2 ax (Ne.symm hne)).trans eL, vL.keep X₁.imm⟩
   have S' : Step σ s (σ'.set ax (.list us)) { s' with heap := h' } := ⟨fun b o e n => by
     obtain ⟨a1, a2⟩ := S.hid b o e n
     obtain ⟨b1, b2⟩ := hnew b o e n
     exact ⟨(X₁.hid b o b2 a1 a2).1, by unfold AH.set; rw [if_neg b1]; exact a2⟩, S.imm.trans X₁.imm⟩
   exact hP _ _ _ _ (.ref ax) (O.step R₂ S') S' (hQ ax hax)
theorem soundE (hk : 30 ≤ k) : ∀ (n : Nat) {env : Env} (_ : EnvOk env) {e : Expr} {p : PE}, toE env.scope.names n e = some p → ∀ {m : Loc} {σ : AH} {Q : V → AH → Prop}, wpE (CallSat W r) p m σ Q → SatE W env r k (eval e env) m σ Q
 | 0, _, _, _, _, h, _, _, _, _ => no_some h
 | n + 1, env, EO, e, p, h, m, σ, Q, hq => by
   have ih : ∀ e p, toE env.scope.names n e = some p → ∀ m σ Q, wpE (CallSat W r) p m σ Q → SatE W env r k (eval e env) m σ Q := fun e p he m σ Q hq => soundE hk n EO he hq
   have hns : ∀ e p, toE env.scope.names n e = some p → noStar e = true := fun e p he => toE_noStar he
   cases e with
   | Constant c kk pos =>
     cases c with
     | none => cases h; exact fun A s _ O P hP => wpAny_Constant_none (hP _ _ _ _ .none O (.refl _ _) hq)
     | bool b => cases h; exact fun A s _ O P hP => wpAny_Constant_bool (hP _ _ _ _ (.bool _) O (.refl _ _) hq)
     | int i =>
       cases h
       intro A s _ O P hP
       obtain ⟨R₁, S₁⟩ := O.rep.toks (s.toks + 1)
       exact wpAny_Constant_int (hP _ _ _ _ (.int _ _) (O.step R₁ S₁) S₁ hq)
     | str x =>
       cases h
       intro A s _ O P hP
       obtain ⟨R₁, S₁⟩ := O.rep.toks (s.toks + 1)
       exact wpAny_Constant_str (hP _ _ _ _ (.str _ _) (O.step R₁ S₁) S₁ hq)
     | _ => exact no_some h
   | Name x pos =>
     obtain ⟨hd, h⟩ := guard_inv h
     rw [Bool.and_eq_true, bne_iff_ne, bne_iff_ne] at hd
     have hd1' : (x == ("__debug__" : Str)) = false := beq_eq_false_iff_ne.mpr hd.1
     refine (xE1 fun kd => aE2 fun hkd h => ?_) (Option.bind_eq_some_iff.mp h)
     cases kd with
     | «local» => cases h; (refine (xE1 fun v => aE2 fun hv hq => ?_) (onS_inv hq)); exact sat_loc EO (.inl hkd) hd1' hd.2 hv hq
     | cell => cases h; (refine (xE1 fun v => aE2 fun hv hq => ?_) (onS_inv hq)); exact sat_loc EO (.inr hkd) hd1' hd.2 hv hq
     | globalImplicit =>
       refine (xE1 fun i => aE2 fun hv oy0 => ?_) (Option.map_eq_some_iff.mp h); obtain rfl := oy0
       exact sat_glob EO hkd hd1' hv hq
     | _ => exact no_some h
   | BinOp l op r' pos =>
     refine (xE2 fun a b => aE3 fun h1 h2 oy1 => ?_) (bind2_inv h); obtain rfl := oy1
     intro A s R O P hP
     refine wpAny_BinOp (ih _ _ h1 _ _ _ hq A s R O _ fun u v σ₁ s₁ hv O₁ S₁ hq₁ => ih _ _ h2 _ _ _ hq₁ A s₁ R O₁ _ fun u₂ v₂ σ₂ s₂ hv₂ O₂ S₂ hq₂ => ?_)
     exact sat_bin O₂.rep (hv.keep S₂.imm) hv₂ hq₂ P fun a b c d e1 e2 e3 e4 => hP _ _ _ _ e1 (O₂.step e2 e3) (S₁.trans (S₂.trans e3)) e4
   | UnaryOp op x pos =>
     cases op with
     | USub =>
       refine (xE1 fun a => aE2 fun h1 oy2 => ?_) (Option.map_eq_some_iff.mp h); obtain rfl := oy2
       intro A s R O P hP
       refine wpAny_UnaryOp (ih _ _ h1 _ _ _ hq A s R O _ fun u v σ₁ s₁ hv O₁ S₁ hq₁ => ?_)
       refine (xE1 fun i => aE2 fun oy3 oy4 => ?_) (onI_inv hq₁); obtain rfl := oy3; revert oy4; intro hq₁
       obtain ⟨t, rfl⟩ := hv.int_inv
       obtain ⟨R₂, S₂⟩ := O₁.rep.toks (s₁.toks + 1)
       exact PySem.P.neg_int (hP _ _ _ _ (.int _ _) (O₁.step R₂ S₂) (S₁.trans S₂) hq₁)
     | Not =>
       refine (xE1 fun a => aE2 fun h1 oy5 => ?_) (Option.map_eq_some_iff.mp h); obtain rfl := oy5
       intro A s R O P hP
       refine wpAny_UnaryOp (ih _ _ h1 _ _ _ hq A s R O _ fun u v σ₁ s₁ hv O₁ S₁ hq₁ => ?_)
       exact not_value (sat_truth O₁.rep hv hq₁ _ fun b σ₂ s₂ R₂ S₂ hq₂ => hP _ _ _ _ (.bool _) (O₁.step R₂ S₂) (S₁.trans S₂) hq₂)
     | _ => exact no_some h
   | Compare l ops rs pos =>
     match ops, rs, h with
     | [o], [r'], h =>
       refine (xE2 fun a b => aE3 fun h1 h2 oy6 => ?_) (bind2_inv h); obtain rfl := oy6
       intro A s R O P hP
       refine wpAny_Compare1 (ih _ _ h1 _ _ _ hq A s R O _ fun u v σ₁ s₁ hv O₁ S₁ hq₁ => ih _ _ h2 _ _ _ hq₁ A s₁ R O₁ _ fun u₂ v₂ σ₂ s₂ hv₂ O₂ S₂ hq₂ => ?_) (toE_noSet (n := n) h2)
       exact sat_cmp O₂.rep R.line (hv.keep S₂.imm) hv₂ hq₂ P fun b σ₃ s₃ R₃ S₃ hq₃ => hP _ _ _ _ (.bool _) (O₂.step R₃ S₃) (S₁.trans (S₂.trans S₃)) hq₃
     | [o1, o2], [m', r'], h =>
       refine (xE3 fun a b c => aE4 fun h1 h2 h3 oy7 => ?_) (bind3_inv h); obtain rfl := oy7
       intro A s R O P hP
       refine wp_chain2 (toE_noSet (n := n) h3) (ih _ _ h1 _ _ _ hq A s R O _ fun u v σ₁ s₁ hv O₁ S₁ hq₁ => ih _ _ h2 _ _ _ hq₁ A s₁ R O₁ _ fun u₂ v₂ σ₂ s₂ hv₂ O₂ S₂ hq₂ => ?_)
       refine sat_cmp O₂.rep R.line (hv.keep S₂.imm) hv₂ hq₂ _ fun b σ₃ s₃ R₃ S₃ hq₃ => wpAny_truthy_bool ?_
       have O₃ := O₂.step R₃ S₃
       cases b with
       | true =>
         simp only [if_true]
         refine ih _ _ h3 _ _ _ hq₃ A s₃ R O₃ _ fun u₄ v₄ σ₄ s₄ hv₄ O₄ S₄ hq₄ => ?_
         exact sat_cmp O₄.rep R.line (hv₂.keep (S₃.imm.trans S₄.imm)) hv₄ hq₄ P fun b σ₅ s₅ R₅ S₅ hq₅ => hP _ _ _ _ (.bool _) (O₄.step R₅ S₅) (S₁.trans (S₂.trans (S₃.trans (S₄.trans S₅)))) hq₅
       | false =>
         simp only [Bool.false_eq_true, if_false]
         exact hP _ _ _ _ (.bool _) O₃ (S₁.trans (S₂.trans S₃)) hq₃
     | [], _, h => exact no_some h
     | [_], [], h => exact no_some h
     | [_], _ :: _ :: _, h => exact no_some h
     | [_, _], [], h => exact no_some h
     | [_, _], [_], h => exact no_some h
     | [_, _], _ :: _ :: _ :: _, h => exact no_some h
     | _ :: _ :: _ :: _, _, h => exact no_some h
   | BoolOp op es pos =>
     refine (xE1 fun a => aE2 fun h1 oy8 => ?_) (Option.map_eq_some_iff.mp h); obtain rfl := oy8
     intro A s R O P hP
     rw [arm_eval_BoolOp]
     exact sat_boolOp ih h1 hq A s R O P hP
   | IfExp t b o pos =>
     obtain ⟨ht, h⟩ := guard_inv h
     refine (xE3 fun a b' c => aE4 fun h1 h2 h3 oy9 => ?_) (bind3_inv h); obtain rfl := oy9
     intro A s R O P hP
     refine wpAny_IfExp (sat_test ht (toE_cmpMark (n := n) h1) (ih _ _ h1 _ _ _ hq) R O fun b σ₁ s₁ O₁ S₁ hq₁ => ?_)
     cases b with
     | true => exact ih _ _ h2 _ _ _ hq₁ A s₁ R O₁ P fun a b c d e1 e2 e3 e4 => hP _ _ _ _ e1 e2 (S₁.trans e3) e4
     | false => exact ih _ _ h3 _ _ _ hq₁ A s₁ R O₁ P fun a b c d e1 e2 e3 e4 => hP _ _ _ _ e1 e2 (S₁.trans e3) e4
   | Attribute o x pos =>
     obtain ⟨hb, h⟩ := guard_inv h
     refine (xE1 fun a => aE2 fun h1 oy10 => ?_) (Option.map_eq_some_iff.mp h); obtain rfl := oy10
     intro A s R O P hP
     refine Attribute_any_ (ih _ _ h1 _ _ _ hq A s R O _ fun u v σ₁ s₁ hv O₁ S₁ hq₁ => ?_) (okBase_he hb)
     exact sat_attr O₁.rep hv hq₁ P fun a b c d e1 e2 e3 e4 => hP _ _ _ _ e1 (O₁.step e2 e3) (S₁.trans e3) e4
   | Subscript o i pos =>
     by_cases hi : okItem i = true
     · have h : bind2 .sub (toE env.scope.names n o) (toE env.scope.names n i) = some p := (if_pos hi).symm.trans h
       refine (xE2 fun a b => aE3 fun h1 h2 oy11 => ?_) (bind2_inv h); obtain rfl := oy11
       intro A s R O P hP
       refine Subscript_ (ih _ _ h1 _ _ _ hq A s R O _ fun u v σ₁ s₁ hv O₁ S₁ hq₁ => ih _ _ h2 _ _ _ hq₁ A s₁ R O₁ _ fun u₂ v₂ σ₂ s₂ hv₂ O₂ S₂ hq₂ => ?_)
       exact tail_sat O₂.rep hi (hv.keep S₂.imm) hv₂ hq₂ P fun a b c d e1 e2 e3 e4 => hP _ _ _ _ e1 (O₂.step e2 e3) (S₁.trans (S₂.trans e3)) e4
     · have h : toSlc (toE env.scope.names n) o i = some p := (if_neg hi).symm.trans h
       refine (xE1 fun b => aE2 fun hb h => ?_) (Option.bind_eq_some_iff.mp h)
       refine (xE3 fun kk q sp oy12 => ?_) (slcOf_inv hb); obtain rfl := oy12
       obtain ⟨hc, h⟩ := guard_inv h
       rw [Bool.and_eq_true, decide_eq_true_eq] at hc
       refine (xE2 fun x px oy13 => ?_) (isName_inv hc.1); obtain rfl := oy13
       refine (xE1 fun a => aE2 fun h1 oy14 => ?_) (Option.map_eq_some_iff.mp h); obtain rfl := oy14
       intro A s R O P hP
       exact sat_slice hc.2 (ih _ _ h1 _ _ _ hq) A s R O P hP
   | Call g args kws pos =>
     cases g with
     | Name f fpos =>
       obtain ⟨hc, h0⟩ := guard_inv h
       clear h
       rw [Bool.and_eq_true, Bool.and_eq_true, bne_iff_ne, beq_iff_eq, List.isEmpty_iff] at hc
       obtain ⟨⟨rfl, hd⟩, hf⟩ := hc
       have hd' : (f == ("__debug__" : Str)) = false := beq_eq_false_iff_ne.mpr hd
       refine (xE1 fun as => aE2 fun ha h => ?_) (Option.bind_eq_some_iff.mp h0)
       have hplain := toEs_plain hns (env := env) (pos := pos) ha
       unfold toCallN at h
       cases hb : biOf f with
       | some b =>
         rw [hb] at h
         cases h
         intro A s R O P hP
         refine (aE3 fun b1 b2 b3 => ?_) (bi_boot hb)
         refine wpAny_Call_NameR (name_blt EO hf hd' O.rep (W.bis _ _ hb) b1 b2 ?_)
         have hargs := sat_spliced hns ih (pos := pos) ha hq
         cases b with
         | len => exact sat_callBuiltin (us₀ := []) (first := []) R O hplain .nil hargs (fun us σ' s' xs hx Rp z => sat_bi (b := .len) R.hd Rp hx z) hP
         | min => exact sat_callBuiltin (us₀ := []) (first := []) R O hplain .nil hargs (fun us σ' s' xs hx Rp z => sat_bi (b := .min) R.hd Rp hx z) hP
         | max => exact sat_callBuiltin (us₀ := []) (first := []) R O hplain .nil hargs (fun us σ' s' xs hx Rp z => sat_bi (b := .max) R.hd Rp hx z) hP
         | abs => exact sat_callBuiltin (us₀ := []) (first := []) R O hplain .nil hargs (fun us σ' s' xs hx Rp z => sat_bi (b := .abs) R.hd Rp hx z) hP
         | range => exact sat_callType R O hplain hargs (fun us σ' s' xs hx Rp z => sat_bi (b := .range) R.hd Rp hx z) hP
         | list => exact sat_callType R O hplain hargs (fun us σ' s' xs hx Rp z => sat_bi (b := .list) R.hd Rp hx z) hP
       | none =>
         rw [hb] at h
         obtain ⟨hfn, h⟩ := guard_inv h
         cases h
         intro A s R O P hP
         obtain ⟨f1, f2⟩ := W.fns _ hfn
         have hargs := sat_spliced hns ih (pos := pos) ha hq
         refine wpAny_Call_NameR (name_glob EO hf hd' O.rep f1 ?_)
         exact sat_callWith (f := .fn f) (us₀ := []) (first := []) R hk O f2 hplain .nil hargs (fun us σ' z => z) hP
     | Attribute o x apos =>
       obtain ⟨hc, h0⟩ := guard_inv h
       clear h
       rw [Bool.and_eq_true, Bool.and_eq_true, Bool.and_eq_true, decide_eq_true_eq, List.isEmpty_iff] at hc
       obtain ⟨⟨⟨rfl, hb⟩, hl⟩, hlen⟩ := hc
       refine (xE2 fun a as => aE3 fun h1 ha oy15 => ?_) (bind2_inv h0); obtain rfl := oy15
       refine sat_methCall hk hb hl hlen (toEs_plain hns ha) (backTo_len hns ha) (ih _ _ h1 _ _ _ hq) fun u σ' hq' => ?_
       refine (xE1 fun mk => aE2 fun hm hq' => ?_) (onS_inv hq')
       exact ⟨mk, hm, sat_spliced hns ih ha hq'⟩
     | _ => exact no_some h
   | List es pos =>
     refine (xE1 fun a => aE2 fun h1 oy16 => ?_) (Option.map_eq_some_iff.mp h); obtain rfl := oy16
     intro A s R O P hP
     refine wpAny_List (sat_spliced hns ih h1 hq A s R O _ fun us vs σ₁ s₁ hvs O₁ S₁ hq₁ => ?_)
     obtain ⟨hz, hq₁⟩ := hq₁
     refine ⟨by rw [← hvs.length]; exact sizeOk_line hz, ?_⟩
     obtain ⟨R₂, S₂⟩ := O₁.rep.newList (n := 0) s₁.toks (items := vs.toArray) (by simpa using hvs)
     exact hP _ _ _ _ (.ref _) (O₁.step R₂ S₂) (S₁.trans S₂) (hq₁ _ O₁.rep.fresh)
   | Tuple es kk pos =>
     refine (xE1 fun a => aE2 fun h1 oy17 => ?_) (Option.map_eq_some_iff.mp h); obtain rfl := oy17
     intro A s R O P hP
     refine wpAny_Tuple (sat_spliced hns ih h1 hq A s R O _ fun us vs σ₁ s₁ hvs O₁ S₁ hq₁ => ?_)
     obtain ⟨hz, hq₁⟩ := hq₁
     refine ⟨by rw [← hvs.length]; exact sizeOk_line hz, ?_⟩
     obtain ⟨R₂, S₂⟩ := O₁.rep.same (s' := { s₁ with heap := s₁.heap.push { cls := .type "tuple", data := .seq vs.toArray } }) fun b o e => Heap.get?_push_of_some _ e
     exact hP _ _ _ _ (.tup (Heap.get?_push_size _ rfl) (by simpa using hvs.keep S₂.imm)) (O₁.step R₂ S₂) (S₁.trans S₂) hq₁
   | Dict kk vs pos =>
     obtain ⟨hlen, h⟩ := guard_inv h
     refine (xE1 fun a => aE2 fun h1 oy18 => ?_) (Option.map_eq_some_iff.mp h); obtain rfl := oy18
     cases a with
     | nil =>
       obtain ⟨rfl, rfl⟩ := toKs_nil h1
       intro A s R O P hP
       refine wpAny_Dict_empty ?_
       obtain ⟨R₂, S₂⟩ := O.rep.change (s' := { s with heap := s.heap.push { cls := .type "dict", data := .dict #[] } }) s.heap.objs.size (.idict []) (fun b o _ e => Heap.get?_push_of_some _ e) (.inr (get?_size _))
         (fun _ => ⟨[], ⟨_, #[], 0, Heap.get?_push_size _ rfl, ⟨rfl, rfl, rfl⟩, rfl, fun _ he => by simp at he, Pairs.nil, List.nodup_nil⟩, .nil⟩)
       exact hP _ _ _ _ (.ref _) (O.step R₂ S₂) S₂ (hq _ O.rep.fresh)
     | cons k0 e0 es0 =>
       refine sat_dict ih h1 hq (fun hz => ?_) (of_decide_eq_true hlen)
       subst hz
       cases vs with
       | nil => exact Bool.noConfusion (congrArg PKs.n (Option.some.inj h1) : true = false)
       | cons => exact no_some h1
   | ListComp elt gens sc pos => exact sound_comp (fun EO _ _ h _ _ _ hq => soundE hk n EO h hq) EO h hq
   | _ => exact no_some h
end
section
variable {W : Wld} {A : Around} {σ : AH} {s : Shared} {env : Env} {m : Loc} {r k : Nat}
noncomputable def isV : PE → Bool
 | .not _ | .bop _ _ | .cmp _ _ _ | .cmp2 _ _ _ _ _ | .ite _ _ _ => false
 | _ => true
theorem wpT_isV {Z : CallP} {p : PE} {Q : Bool → AH → Prop} (h : isV p = true) (hq : wpT Z p m σ Q) : wpE Z p m σ fun v σ => wpTruth v σ Q := by
 cases p <;> first | exact hq | cases h
noncomputable def SatT (W : Wld) (env : Env) (r k : Nat) (t : Sem Bool) (m : Loc) (σ : AH) (Q : Bool → AH → Prop) : Prop :=
 ∀ A s, Room A r k → Ok W env m σ s → ∀ P : Bool → Shared → Prop, (∀ b σ' s', Ok W env m σ' s' → Step σ s σ' s' → Q b σ' → P b s') → wpAny W.M A t P NoE s
theorem satT_value {e : Expr} {Q : Bool → AH → Prop} (he : isTrue e env (eval e env) = (do let v ← eval e env; standAt e.pos; holding [v] (truthy v))) (h : SatE W env r k (eval e env) m σ fun v σ => wpTruth v σ Q) :
   SatT W env r k (isTrue e env (eval e env)) m σ Q := by
 intro A s R O P hP
 refine wpAny_isTrue_value (h A s R O _ fun u v σ₁ s₁ hv O₁ S₁ hq => ?_) he
 exact sat_truth O₁.rep hv hq _ fun b σ₂ s₂ R₂ S₂ hq₂ => hP b σ₂ s₂ (O₁.step R₂ S₂) (S₁.trans S₂) hq₂
theorem satTs {f : Expr → Option PE} {Z : CallP} (ih : ∀ e p, f e = some p → ∀ m σ Q, wpT Z p m σ Q → SatT W env r k (isTrue e env (eval e env)) m σ Q) {op : BoolOp} :
   ∀ {es : List Expr} {ps : PEs}, toEsWith f es = some ps → ∀ {m : Loc} {σ : AH} {Q : Bool → AH → Prop}, wpT.wpTs Z op ps m σ Q → SatT W env r k (allTrue op es env) m σ Q
 | [], ps, h, m, σ, Q, hq => by
   cases h
   exact fun A s _ O P hP => wpAny_pure (hP _ _ _ O (.refl _ _) hq)
 | e :: rest, ps, h, m, σ, Q, hq => by
   refine (xE2 fun a b => aE3 fun h1 h2 oy0 => ?_) (bind2_inv h); obtain rfl := oy0
   intro A s R O P hP
   show wpAny _ _ (do
     match op, ← isTrue e env (eval e env) with
     | .And, false => pure false
     | .Or, true => pure true
     | _, _ => allTrue op rest env) _ _ _
   refine wpAny_bind (ih e a h1 m σ _ hq A s R O _ fun t σ₁ s₁ O₁ S₁ hq₁ => ?_)
   cases op <;> cases t
   · exact wpAny_pure (hP _ _ _ O₁ S₁ hq₁)
   · exact satTs ih h2 (show wpT.wpTs Z .And b m σ₁ Q from hq₁) A s₁ R O₁ P fun b σ' s' x y z => hP _ _ _ x (S₁.trans y) z
   · exact satTs ih h2 (show wpT.wpTs Z .Or b m σ₁ Q from hq₁) A s₁ R O₁ P fun b σ' s' x y z => hP _ _ _ x (S₁.trans y) z
   · exact wpAny_pure (hP _ _ _ O₁ S₁ hq₁)
theorem toE_isV {n : Nat} {ks : Kinds} {e : Expr} {p : PE} (h : toE ks (n + 1) e = some p) :
   (match e with | .UnaryOp op _ _ => op ≠ .Not | .Compare .. | .BoolOp .. | .IfExp .. => False | _ => True) → isV p = true := by
 intro hh
 cases e with
 | Constant c kk pos => cases c <;> first | (cases h; rfl) | exact no_some h
 | Name x pos =>
   obtain ⟨_, h⟩ := guard_inv h
   refine (xE1 fun kd => aE2 fun _ h => ?_) (Option.bind_eq_some_iff.mp h)
   cases kd with
   | globalImplicit => (refine (xE1 fun _ => aE2 fun _ oy0 => ?_) (Option.map_eq_some_iff.mp h); obtain rfl := oy0); rfl
   | _ => first | (cases h; rfl) | exact no_some h
 | BinOp l op r pos => (refine (xE2 fun _ _ => aE3 fun _ _ oy1 => ?_) (bind2_inv h); obtain rfl := oy1); rfl
 | UnaryOp op x pos =>
   cases op with
   | USub => (refine (xE1 fun _ => aE2 fun _ oy2 => ?_) (Option.map_eq_some_iff.mp h); obtain rfl := oy2); rfl
   | Not => exact absurd rfl hh
   | _ => exact no_some h
 | Attribute o x pos => obtain ⟨_, h⟩ := guard_inv h; (refine (xE1 fun _ => aE2 fun _ oy3 => ?_) (Option.map_eq_some_iff.mp h); obtain rfl := oy3); rfl
 | Subscript o i pos =>
   by_cases hi : okItem i = true
   · (refine (xE2 fun _ _ => aE3 fun _ _ oy4 => ?_) (bind2_inv ((if_pos hi).symm.trans h)); obtain rfl := oy4); rfl
   · refine (xE1 fun b => aE2 fun _ h => ?_) (Option.bind_eq_some_iff.mp ((if_neg hi).symm.trans h))
     obtain ⟨_, h⟩ := guard_inv h
     (refine (xE1 fun _ => aE2 fun _ oy5 => ?_) (Option.map_eq_some_iff.mp h); obtain rfl := oy5); rfl
 | Call g args kws pos =>
   cases g with
   | Name f fpos =>
     replace h : toCall (toE ks n) ks args kws pos (.Name f fpos) = some p := h
     rw [toCall] at h
     obtain ⟨_, h⟩ := guard_inv h
     refine (xE1 fun as => aE2 fun _ h => ?_) (Option.bind_eq_some_iff.mp h)
     unfold toCallN at h
     cases hb : biOf f with
     | some b => rw [hb] at h; cases h; rfl
     | none => rw [hb] at h; obtain ⟨_, h⟩ := guard_inv h; cases h; rfl
   | Attribute o x apos =>
     replace h : toCall (toE ks n) ks args kws pos (.Attribute o x apos) = some p := h
     rw [toCall] at h
     obtain ⟨_, h⟩ := guard_inv h
     (refine (xE2 fun _ _ => aE3 fun _ _ oy6 => ?_) (bind2_inv h); obtain rfl := oy6); rfl
   | _ => exact no_some h
 | List es pos => (refine (xE1 fun _ => aE2 fun _ oy7 => ?_) (Option.map_eq_some_iff.mp h); obtain rfl := oy7); rfl
 | Tuple es kk pos => (refine (xE1 fun _ => aE2 fun _ oy8 => ?_) (Option.map_eq_some_iff.mp h); obtain rfl := oy8); rfl
 | Dict kk vs pos => obtain ⟨_, h⟩ := guard_inv h; (refine (xE1 fun _ => aE2 fun _ oy9 => ?_) (Option.map_eq_some_iff.mp h); obtain rfl := oy9); rfl
 | ListComp elt gens sc pos =>
   (refine (xE7 fun x px it ifs i a c => aE2 fun oy10 oy11 => ?_) (toComp_inv (f := toEn n) (ks := ks) (elt := elt) (sc := sc) (gens := gens) h); obtain rfl := oy10; obtain ⟨rfl, _⟩ := oy11); rfl
 | _ => first | exact hh.elim | exact no_some h
theorem soundT (hk : 30 ≤ k) (EO : EnvOk env) : ∀ (n : Nat) {e : Expr} {p : PE}, toE env.scope.names n e = some p → ∀ {m : Loc} {σ : AH} {Q : Bool → AH → Prop}, wpT (CallSat W r) p m σ Q → SatT W env r k (isTrue e env (eval e env)) m σ Q
 | 0, _, _, h, _, _, _, _ => no_some h
 | n + 1, e, p, h, m, σ, Q, hq => by
   have sE : ∀ e p, toE env.scope.names n e = some p → ∀ m σ Q, wpE (CallSat W r) p m σ Q → SatE W env r k (eval e env) m σ Q := fun e p he m σ Q hq => soundE hk n EO he hq
   have val : isV p = true → isTrue e env (eval e env) = (do let v ← eval e env; standAt e.pos; holding [v] (truthy v)) → SatT W env r k (isTrue e env (eval e env)) m σ Q :=
     fun hv he => satT_value he (soundE hk (n + 1) EO h (wpT_isV hv hq))
   cases e with
   | UnaryOp op x pos =>
     cases op with
     | Not =>
       refine (xE1 fun a => aE2 fun h1 oy0 => ?_) (Option.map_eq_some_iff.mp h); obtain rfl := oy0
       intro A s R O P hP
       exact wpAny_isTrue_Not (soundT hk EO n h1 hq A s R O _ fun b σ' s' O' S' hq' => hP _ _ _ O' S' hq')
     | _ => exact val (toE_isV h (by simp)) rfl
   | Compare l ops rs pos =>
     match ops, rs, h with
     | [o], [r'], h =>
       refine (xE2 fun a b => aE3 fun h1 h2 oy1 => ?_) (bind2_inv h); obtain rfl := oy1
       intro A s R O P hP
       refine wpAny_isTrue_Compare1 (sE _ _ h1 _ _ _ hq A s R O _ fun u v σ₁ s₁ hv O₁ S₁ hq₁ => sE _ _ h2 _ _ _ hq₁ A s₁ R O₁ _ fun u₂ v₂ σ₂ s₂ hv₂ O₂ S₂ hq₂ => ?_) (toE_noSet (n := n) h2)
       exact sat_cmp O₂.rep R.line (hv.keep S₂.imm) hv₂ hq₂ _ fun b σ₃ s₃ R₃ S₃ hq₃ => wpAny_truthy_bool (hP _ _ _ (O₂.step R₃ S₃) (S₁.trans (S₂.trans S₃)) hq₃)
     | [o1, o2], [m', r'], h =>
       refine (xE3 fun a b c => aE4 fun h1 h2 h3 oy2 => ?_) (bind3_inv h); obtain rfl := oy2
       intro A s R O P hP
       show wpAny _ _ (do
         let lv ← eval l env
         let rv ← holding [lv] (eval m' env)
         standAt pos
         let c ← holding [lv, rv] (compareOp o1 lv rv)
         release [lv, rv] [c]
         if ← holding [c, rv] (truthy c) then (do
           let rv' ← holding [rv] (markedBehindIn o2 r' (eval r' env))
           standAt pos
           let c ← operate [rv, rv'] (compareOp o2 rv rv')
           holding [c] (truthy c)) else pure false) _ _ _
       rw [markedBehindIn_of_false (toE_noSet (n := n) h3)]
       refine wpAny_bind (sE _ _ h1 _ _ _ hq A s R O _ fun u v σ₁ s₁ hv O₁ S₁ hq₁ => ?_)
       refine wpAny_bind (wpAny_holding (sE _ _ h2 _ _ _ hq₁ A s₁ R O₁ _ fun u₂ v₂ σ₂ s₂ hv₂ O₂ S₂ hq₂ => ?_))
       refine wpAny_bind (wpAny_standAt (wpAny_bind (wpAny_holding ?_)))
       refine sat_cmp O₂.rep R.line (hv.keep S₂.imm) hv₂ hq₂ _ fun b σ₃ s₃ R₃ S₃ hq₃ => ?_
       refine wpAny_bind (wpAny_release (wpAny_bind (wpAny_holding (wpAny_truthy_bool ?_))))
       have O₃ := O₂.step R₃ S₃
       cases b with
       | true =>
         simp only [if_true]
         refine wpAny_bind (wpAny_holding (sE _ _ h3 _ _ _ hq₃ A s₃ R O₃ _ fun u₄ v₄ σ₄ s₄ hv₄ O₄ S₄ hq₄ => ?_))
         refine wpAny_bind (wpAny_standAt (wpAny_bind (wpAny_operateT ?_)))
         exact sat_cmp O₄.rep R.line (hv₂.keep (S₃.imm.trans S₄.imm)) hv₄ hq₄ _ fun b σ₅ s₅ R₅ S₅ hq₅ => wpAny_holding (wpAny_truthy_bool (hP _ _ _ (O₄.step R₅ S₅) (S₁.trans (S₂.trans (S₃.trans (S₄.trans S₅)))) hq₅))
       | false =>
         simp only [Bool.false_eq_true, if_false]
         exact wpAny_pure (hP _ _ _ O₃ (S₁.trans (S₂.trans S₃)) hq₃)
     | [], _, h => exact no_some h
     | [_], [], h => exact no_some h
     | [_], _ :: _ :: _, h => exact no_some h
     | [_, _], [], h => exact no_some h
     | [_, _], [_], h => exact no_some h
     | [_, _], _ :: _ :: _ :: _, h => exact no_some h
     | _ :: _ :: _ :: _, _, h => exact no_some h
   | BoolOp op es pos =>
     refine (xE1 fun a => aE2 fun h1 oy3 => ?_) (Option.map_eq_some_iff.mp h); obtain rfl := oy3
     intro A s R O P hP
     exact wpAny_isTrue_BoolOp (satTs (fun e p he m σ Q hq => soundT hk EO n he hq) h1 hq A s R O P hP)
   | IfExp t b o pos =>
     obtain ⟨_, h⟩ := guard_inv h
     refine (xE3 fun _ _ _ => aE4 fun _ _ _ oy4 => ?_) (bind3_inv h); obtain rfl := oy4
     exact False.elim hq
   | _ => exact val (toE_isV h trivial) rfl
end
section
variable {W : Wld} {A : Around} {σ : AH} {s : Shared} {env : Env} {m : Loc} {r k : Nat}
inductive FlR (h : Heap) : Fl → Flow → Prop where
 | next : FlR h .next .next
 | brk : FlR h .brk .brk
 | cont : FlR h .cont .cont
 | ret {v x} : VR h v x → FlR h (.ret v) (.ret x)
noncomputable def SatS (W : Wld) (env : Env) (r k : Nat) (t : Sem Flow) (m : Loc) (σ : AH) (Q : SQ) : Prop :=
 ∀ A s, Room A r k → Ok W env m σ s → ∀ P : Flow → Shared → Prop, (∀ f g m' σ' s', FlR s'.heap f g → Ok W env m' σ' s' → StepX (Own env) σ s σ' s' → Q f m' σ' → P g s') → wpAny W.M A t P NoE s
theorem swaps_no {e : Expr} {t : Option Expr} {line : Nat} (h : isComp e = false) : swapsWith e t line env = pure false := by
 cases e <;> first | rfl | cases h
theorem swapped_no {ts : List Expr} {e : Expr} {a b} (h : isTuple e = false) : swappedStores [.Tuple ts a b] e env = pure none := by
 cases e <;> first | rfl | cases h
theorem comp_sat (hk : 30 ≤ k) (EO : EnvOk env) {n : Nat} {elt : Expr} {gens : List Comprehension} {sc : Scope} {pos : Pos} {p : PE} (h : toE env.scope.names (n + 1) (.ListComp elt gens sc pos) = some p) {Q : V → AH → Prop}
   (hq : wpE (CallSat W r) p m σ Q) (R : Room A r k) (O : Ok W env m σ s) {use : Option (Value → Sem Unit)} {P : Value → Shared → Prop}
   (hfin : ∀ us σ' s' ax C, Ok W env m σ' s' → Step σ s σ' s' → (∃ its n, s'.heap.get? ax = some (PySem.W.listOf its n) ∧ VRs s'.heap us its.toList) → σ' ax = Option.none → W.hb.get? ax = Option.none →
     (∃ mm, s'.heap.Ns C mm) → σ' C = Option.none → W.hb.get? C = Option.none → (∀ b o, s.heap.get? b = some o → σ b = Option.none → b ≠ ax ∧ b ≠ C) → C ≠ ax → Q (.ref ax) (σ'.set ax (.list us)) → compPost W.M A NoE use P (.ref ax) C (.ok .next) s') :
   wpAny W.M A (comprehension (.ListComp elt gens sc pos) sc env (firstIterPos gens pos) (newList []) (firstAsync gens) (firstIter gens env) use) P NoE s := by
 refine (xE7 fun x px it ifs i a c => aE2 fun oy0 oy1 => ?_) (toComp_inv (f := toEn n) (ks := env.scope.names) (elt := elt) (sc := sc) (gens := gens) h); obtain rfl := oy0; revert oy1; refine aE2 fun oy2 oy3 => ?_; obtain rfl := oy2; revert oy3; refine aE8 fun h1 h2 h3 c1 c2 c3 c4 c5 => ?_
 replace hq : wpE (CallSat W r) i m σ fun v σ => onS (fun l => wpComp (fun m σ Q => wpCd (CallSat W r) c m σ fun b σ => onC (wpE (CallSat W r) a m σ fun u σ => Q (some u) σ) (Q Option.none σ) ⟨⟩ ⟨⟩ b) v l x m l σ [] fun us σ => ∀ c, σ c = Option.none → Q (.ref c) (σ.set c (.list us))) ⟨⟩ (iterOf v σ) := hq
 refine sat_comp (ifs := _) (Qe := fun us σ => ∀ c, σ c = Option.none → Q (.ref c) (σ.set c (.list us))) EO c1 c4 (fun p hp => ?_) (toE_fold (n := n) h1) (soundE hk n EO h1 hq) (fun cenv EOc hnm => ?_) R O ?_
 · rcases c5 p hp with (⟨⟨h, h'⟩, h''⟩ | h) | h
   · exact .inl ⟨h, h', h''⟩
   · exact .inr (.inl h)
   · exact .inr (.inr h)
 · rw [relabel_names EO.kind] at hnm
   rw [← hnm] at h2 h3
   exact turn_sat (fun e p he m σ Q hq => soundE hk n EOc he hq) c2 c3 h2 h3 (fun e p he => toE_cmpMark (n := n) he)
 · intro us σ' s' ax C O' S hL hax hbax hC hσC hbC hnew hne hQ
   exact hfin us σ' s' ax C O' S hL hax hbax hC hσC hbC hnew hne (hQ ax hax)
theorem sat_assignName (hk : 30 ≤ k) (EO : EnvOk env) {n : Nat} {x : Str} {e : Expr} {px pos : Pos} {p : PE} (h : toE env.scope.names n e = some p) (hx : env.kindOf x = some .local ∨ env.kindOf x = some .cell) {Q : SQ}
   (hq : wpE (CallSat W r) p m σ fun v σ => Q .next (m.set x v) σ) : SatS W env r k (exec (.Assign [.Name x px] e pos) env) m σ Q := by
 intro A s R O P hP
 have plain : swapsWith e (some (.Name x px)) pos.line env = pure false → wpAny W.M A (exec (.Assign [.Name x px] e pos) env) P NoE s := fun hs => by
   refine wpAny_Assign_Name (soundE hk n EO h hq A s R O _ fun u v σ₁ s₁ hv O₁ S₁ hq₁ => ?_) hs
   exact sat_store EO O₁ hx hv fun s₂ O₂ X₂ => hP _ _ _ _ _ .next O₂ (S₁.x.trans X₂) hq₁
 cases n with
 | zero => exact no_some h
 | succ n =>
 cases e with
 | ListComp elt gens sc pos' =>
   by_cases hb : env.blockKind == .function && env.kindOf x == some .local && px.line == pos'.line && !(sc.names.any fun (n, k) => n == x && (k == .local || k == .cell))
   · have hs : swapsWith (.ListComp elt gens sc pos') (some (.Name x px)) pos.line env = pure true := by
       rw [← hb]; rfl
     have ex : exec (.Assign [.Name x px] (.ListComp elt gens sc pos') pos) env = (do
         standAt pos
         if ← swapsWith (.ListComp elt gens sc pos') (some (.Name x px)) pos.line env then do
           evalThenUse (.ListComp elt gens sc pos') env (fun v => assignAll v ((assignEach [.Name x px] env).map (·.2)))
           pure .next
         else do
           let v ← eval (.ListComp elt gens sc pos') env
           assignStores env v (← swappedStores [.Name x px] (.ListComp elt gens sc pos') env) ((assignEach [.Name x px] env).map (·.2))) := rfl
     have eu : evalThenUse (.ListComp elt gens sc pos') env (fun v => assignAll v ((assignEach [.Name x px] env).map (·.2))) = (do
         let _ ← comprehension (.ListComp elt gens sc pos') sc env (firstIterPos gens pos') (newList []) (firstAsync gens) (firstIter gens env) (some fun v => assignAll v ((assignEach [.Name x px] env).map (·.2)))
         pure ()) := rfl
     rw [ex, hs]
     refine wpAny_bind (wpAny_standAt (wpAny_bind (wpAny_pure ?_)))
     rw [if_pos rfl]
     have hloc : env.kindOf x = some .local := by
       simp only [Bool.and_eq_true, beq_iff_eq] at hb
       exact hb.1.1.2
     rw [eu]
     refine wpAny_bind (wpAny_bind (comp_sat (s := s) hk EO h hq R O (P := fun _ s' => wpAny W.M A (pure ()) (fun _ s' => wpAny W.M A (pure .next) P NoE s') NoE s') fun us σ' s' ax C O' S hL hax hbax hC hσC hbC hnew hne hQ => ?_))
     revert hL; refine xE2 fun its nn => aE2 fun eL vL => ?_
     have R₂ := O'.rep.adopt ax (.list us) hbax ⟨its, nn, eL, vL⟩
     have S' : Step σ s (σ'.set ax (.list us)) s' := ⟨fun b o e n => by
       obtain ⟨a1, a2⟩ := S.hid b o e n
       obtain ⟨b1, b2⟩ := hnew b o e n
       exact ⟨a1, by unfold AH.set; rw [if_neg b1]; exact a2⟩, S.imm⟩
     have O₂ : Ok W env m (σ'.set ax (.list us)) s' := O.step R₂ S'
     show wpAny _ _ (assignAll (.ref ax) [assign (.Name x px) env]) _ _ _
     unfold assignAll
     refine wpAny_assign_Name (sat_storeL EO O₂ hloc (.ref ax) fun s₃ O₃ X₃ => ?_)
     have ownold : ∀ b, Own env b → ∃ o, s.heap.get? b = some o ∧ σ b = Option.none := fun b hb => by
       refine (xE1 fun o => aE2 fun e _ => ?_) (own_data O.fr hb)
       exact ⟨o, e, (own_hid O.fr hb).1⟩
     have nCo : ∀ b, Own env b → b ≠ C := fun b hb => by
       refine (xE1 fun o => aE2 fun e1 e2 => ?_) (ownold b hb)
       exact (hnew b o e1 e2).2
     have σC : (σ'.set ax (.list us)) C = Option.none := by unfold AH.set; rw [if_neg hne]; exact hσC
     revert hC; refine xE4 fun mm oC es ep => aE2 fun eC rC => ?_
     have eC3 : s₃.heap.get? C = some oC := (X₃.hid C oC (Ne.symm (nCo _ (.inl rfl))) eC σC).1
     refine ⟨mm, ⟨oC, es, ep, eC3, rC⟩, fun h' hs' => ?_⟩
     obtain ⟨R₄, X₄⟩ := O₃.rep.hide (s' := { s₃ with heap := h' }) C σC hbC (fun o e => by rw [eC3] at e; cases e; exact Imm.no_dict rC.1) fun b o d e => (hs'.2 b d).trans e
     have O₄ : Ok W env (m.set x (.ref ax)) (σ'.set ax (.list us)) { s₃ with heap := h' } := ⟨R₄, O₃.fr.stepX X₄ nCo⟩
     refine wpAny_pure (wpAny_pure (hP .next .next _ _ _ .next O₄ ⟨fun b o d e n => ?_, S'.imm.trans (X₃.imm.trans X₄.imm)⟩ hQ))
     obtain ⟨a1, a2⟩ := S'.hid b o e n
     obtain ⟨b1, b2⟩ := X₃.hid b o (fun q => d (.inl q)) a1 a2
     exact X₄.hid b o (hnew b o e n).2 b1 b2
   · refine plain ?_
     have : swapsWith (.ListComp elt gens sc pos') (some (.Name x px)) pos.line env = pure (env.blockKind == .function && env.kindOf x == some .local && px.line == pos'.line && !(sc.names.any fun (n, k) => n == x && (k == .local || k == .cell))) := rfl
     rw [this, Bool.not_eq_true _ |>.mp hb]
 | SetComp => exact no_some h
 | DictComp => exact no_some h
 | _ => exact plain rfl
theorem storable_kind {x : Str} (h : storable env.scope.names x = true) : env.kindOf x = some .local ∨ env.kindOf x = some .cell := by
 unfold storable at h
 rw [Bool.and_eq_true, Bool.or_eq_true, beq_iff_eq, beq_iff_eq] at h
 exact h.2
theorem storable_dot {ks : Kinds} {x : Str} (h : storable ks x = true) : x ≠ ".0" := by
 unfold storable at h
 rw [Bool.and_eq_true] at h
 exact bne_iff_ne.mp h.1
theorem sat_assignNames (EO : EnvOk env) {P : Unit → Shared → Prop} : ∀ {ts : List Expr} {xs : List Str} {l : List V} {vs : List Value} {m : Loc} {s : Shared}, namesOf ts = some xs → xs.all (storable env.scope.names) = true → l.length = xs.length → VRs s.heap l vs → Ok W env m σ s →
   (∀ s', Ok W env (setAll m xs l) σ s' → StepX (Own env) σ s σ s' → P () s') → wpAny W.M A (assignInOrder ((assignEach ts env).map (·.2)) vs) P NoE s
 | [], xs, l, vs, m, s, h, _, hl, hv, O, hP => by
   cases h
   cases l with
   | nil => exact wpAny_pure (hP s O (.refl _ _ _))
   | cons => cases hl
 | t :: ts, xs, l, vs, m, s, h, hst, hl, hv, O, hP => by
   refine (xE2 fun x xs' => aE3 fun h1 h2 oy0 => ?_) (bind2_inv h); obtain rfl := oy0
   obtain ⟨pos, rfl⟩ := nameOf_inv h1
   cases hv with
   | nil => cases hl
   | @cons v w l vs a b =>
     rw [List.all_cons, Bool.and_eq_true] at hst
     show wpAny _ _ (do holding vs (assign (.Name x pos) env w); assignInOrder ((assignEach ts env).map (·.2)) vs) _ _ _
     refine wpAny_bind (wpAny_holding (wpAny_assign_Name (sat_store EO O (storable_kind hst.1) a fun s₁ O₁ X₁ => ?_)))
     exact sat_assignNames EO h2 hst.2 (Nat.succ.inj hl) (b.keep X₁.imm) O₁ fun s₂ O₂ X₂ => hP s₂ O₂ (X₁.trans X₂)
theorem assignEach_len : ∀ {ts : List Expr} {xs : List Str}, namesOf ts = some xs → (assignEach ts env).length = xs.length ∧ (assignEach ts env).findIdx? (·.1) = Option.none
 | [], xs, h => by cases h; exact ⟨rfl, rfl⟩
 | t :: ts, xs, h => by
   refine (xE2 fun x xs' => aE3 fun h1 h2 oy0 => ?_) (bind2_inv h); obtain rfl := oy0
   obtain ⟨a, b⟩ := assignEach_len h2
   obtain ⟨pos, rfl⟩ := nameOf_inv h1
   exact ⟨congrArg (· + 1) a, by show (((false, assign (.Name x pos) env) :: assignEach ts env).findIdx? (·.1)) = _; rw [List.findIdx?_cons]; simp [b]⟩
theorem satSs {f : Stmt → Option PS} {Z : CallP} (ih : ∀ st p, f st = some p → ∀ m σ Q, wpS Z p m σ Q → SatS W env r k (exec st env) m σ Q) :
   ∀ {sts : List Stmt} {ps : PSs}, toSsWith f sts = some ps → ∀ {m : Loc} {σ : AH} {Q : SQ}, wpSs Z ps m σ Q → SatS W env r k (execs sts env) m σ Q
 | [], ps, h, m, σ, Q, hq => by
   cases h
   exact fun A s _ O P hP => wpAny_execs_nil (hP _ _ _ _ _ .next O (.refl _ _ _) hq)
 | st :: rest, ps, h, m, σ, Q, hq => by
   refine (xE2 fun a b => aE3 fun h1 h2 oy0 => ?_) (bind2_inv h); obtain rfl := oy0
   intro A s R O P hP
   refine wpAny_execs_cons (ih st a h1 m σ _ hq A s R O _ fun f g m₁ σ₁ s₁ hf O₁ S₁ hq₁ => ?_)
   cases hf with
   | next => exact satSs ih h2 hq₁ A s₁ R O₁ P fun f g m' σ' s' x y z w => hP _ _ _ _ _ x y (S₁.trans z) w
   | brk => exact hP _ _ _ _ _ .brk O₁ S₁ hq₁
   | cont => exact hP _ _ _ _ _ .cont O₁ S₁ hq₁
   | ret v => exact hP _ _ _ _ _ (.ret v) O₁ S₁ hq₁
end
section
variable {W : Wld} {A : Around} {σ : AH} {s : Shared} {env : Env} {m : Loc} {r k : Nat}
theorem swaps_sole {e t : Expr} {line : Nat} (h : isComp e = false) : swapsWithSole [t] e line env = pure false := by
 have : swapsWithSole [t] e line env = swapsWith e (some t) line env := by unfold swapsWithSole; rfl
 rw [this]; exact swaps_no h
theorem interactive_no (EO : EnvOk env) : interactive env = false := by unfold interactive; rw [EO.kind]; rfl
theorem augStore_no {i : Expr} (h : okItem i = true) : ∀ ov iv new, augStore i ov iv new = (do holding [new, ov, iv] (setItem ov iv new); release [new, ov, iv] []; pure .next) := by
 intro ov iv new
 cases i <;> first | rfl | cases h
theorem wpIter_ok {body : Loc → AH → SQ → Prop} {src : V} {whole : List V} {x : Str} {rest : List V} {m : Loc} {σ : AH} {Q : SQ} (h : wpIter body src whole x rest m σ Q) : iterOk src whole σ := by
 cases rest <;> exact h.1
theorem sat_while {test : Expr} {body : List Stmt} {T : Loc → AH → (Bool → AH → Prop) → Prop} {B : Loc → AH → SQ → Prop} {pos : Pos}
   (hT : ∀ m σ Q, T m σ Q → SatT W env r k (isTrue test env (eval test env)) m σ Q) (hB : ∀ m σ Q, B m σ Q → SatS W env r k (execs body env) m σ Q)
   {n : Nat} {Q : SQ} (hq : wpLoop T B n m σ Q) : SatS W env r k (exec (.While test body [] pos) env) m σ Q := by
 intro A s R O P hP
 refine wpAny_While (codeAny_whileLoop (fun n s' => ∃ m' σ', wpLoop T B n m' σ' Q ∧ Ok W env m' σ' s' ∧ StepX (Own env) σ s σ' s') ?_ n ⟨m, σ, hq, O, .refl _ _ _⟩)
 rintro n s₁ oy0; revert oy0; refine xE2 fun m₁ σ₁ => aE3 fun hw O₁ X₁ => ?_
 cases n with
 | zero => exact hw.elim
 | succ n =>
   refine wpAny_mono (hT m₁ σ₁ _ hw A s₁ R O₁ (fun b s₂ => if b then wpAny W.M A (execs body env) (fun f s₃ => match f with
           | .next | .cont => ∃ mm, mm < n + 1 ∧ ∃ m' σ', wpLoop T B mm m' σ' Q ∧ Ok W env m' σ' s₃ ∧ StepX (Own env) σ s σ' s₃
           | .brk => P .next s₃
           | .ret v => P (.ret v) s₃) NoE s₂
       else P .next s₂) fun b σ₂ s₂ O₂ S₂ hq₂ => ?_) (fun b s₂ h₂ => ?_) (fun _ _ x => x.elim)
   · cases b with
     | true =>
       simp only [if_true]
       refine hB m₁ σ₂ _ hq₂ A s₂ R O₂ _ fun f g m₃ σ₃ s₃ hf O₃ X₃ hq₃ => ?_
       have X := X₁.trans (S₂.x.trans X₃)
       cases hf with
       | next => exact ⟨n, Nat.lt_succ_self n, m₃, σ₃, hq₃, O₃, X⟩
       | cont => exact ⟨n, Nat.lt_succ_self n, m₃, σ₃, hq₃, O₃, X⟩
       | brk => exact hP _ _ _ _ _ .next O₃ X hq₃
       | ret v => exact hP _ _ _ _ _ (.ret v) O₃ X hq₃
     | false =>
       simp only [Bool.false_eq_true, if_false]
       exact hP _ _ _ _ _ .next O₂ (X₁.trans S₂.x) hq₂
   · cases b with
     | true =>
       simp only [if_true] at h₂ ⊢
       exact wpAny_mono h₂ (fun f s₃ q => by cases f <;> exact q) fun _ _ x => x.elim
     | false =>
       simp only [Bool.false_eq_true, if_false] at h₂ ⊢
       exact wpAny_execs_nil h₂
theorem sat_for {x : Str} {px pos : Pos} {it : Expr} {body : List Stmt} {B : Loc → AH → SQ → Prop} {Q : SQ} (EO : EnvOk env) (hx : env.kindOf x = some .local ∨ env.kindOf x = some .cell) (hs : ∀ y, foldedSetIterable it env y = pure y)
   (hit : SatE W env r k (eval it env) m σ fun v σ' => onS (fun l => wpIter B v l x l m σ' Q) ⟨⟩ (iterOf v σ'))
   (hB : ∀ m σ Q, B m σ Q → SatS W env r k (execs body env) m σ Q) : SatS W env r k (exec (.For (.Name x px) it body [] pos) env) m σ Q := by
 intro A s R O P hP
 refine wpAny_For (hit A s R O _ fun u xv σ₁ s₁ hv O₁ S₁ hq₁ => ?_) hs
 refine (xE1 fun l => aE2 fun hl hq₁ => ?_) (onS_inv hq₁)
 refine sat_iter O₁.rep hv hl (wpIter_ok hq₁) fun itA s₂ hf₂ R₂ S₂ hit₂ hh₂ hb₂ => ?_
 have O₂ := O₁.step R₂ S₂
 have S₀ := S₁.trans S₂
 have soldI : ∀ b o, s.heap.get? b = some o → σ b = Option.none → b ≠ itA := fun b o e n q => by
   have := (S₁.hid b o e n).1
   rw [q, hf₂] at this; cases this
 refine codeAny_forLoop (fun n s' => ∃ rest m' σ', n = rest.length ∧ wpIter B u l x rest m' σ' Q ∧ Ok W env m' σ' s' ∧ StepX (Own env) σ s σ' s' ∧ ItAt s'.heap itA u l rest ∧ σ' itA = Option.none) ?_ l.length
   ⟨l, m, σ₁, rfl, hq₁, O₂, S₀.x, hit₂, hh₂⟩
 rintro n s₃ oy0; revert oy0; refine xE3 fun rest m₃ σ₃ => aE2 fun oy1 oy2 => ?_; obtain rfl := oy1; revert oy2; refine aE5 fun hw O₃ X₃ hI hIσ => ?_
 have itOwn : ∀ b, Own env b → b ≠ itA := fun b hb q => by
   refine (xE1 fun o => aE2 fun e hd => ?_) (own_data O₃.fr hb)
   obtain ⟨o', vs, e', hd'⟩ := hI.data
   rw [q, e'] at e; cases e
   rcases hd with ⟨es, ep, hd⟩ | ⟨v, hd⟩ <;> (rw [hd] at hd'; cases hd')
 refine sat_next (P := fun r s₁ => _) R.hd O₃.rep hI (wpIter_ok hw) hIσ hb₂ (fun hr s₄ R₄ X₄ => ?_) (fun u' rest' hr v s₄ hv₄ R₄ X₄ hI₄ => ?_) |> fun z => wpAny_mono z (fun _ _ q => q) (fun _ _ q => q.elim)
 · subst hr
   have O₄ : Ok W env m₃ σ₃ s₄ := ⟨R₄, O₃.fr.stepX X₄ itOwn⟩
   refine wpAny_execs_nil (hP _ _ _ _ _ .next O₄ ⟨fun b o d e n => ?_, X₃.imm.trans X₄.imm⟩ hw.2)
   obtain ⟨e1, n1⟩ := X₃.hid b o d e n
   exact X₄.hid b o (soldI b o e n) e1 n1
 · subst hr
   have O₄ : Ok W env m₃ σ₃ s₄ := ⟨R₄, O₃.fr.stepX X₄ itOwn⟩
   refine wpAny_mono (wpAny_assign_Name (E := NoE) (sat_store EO O₄ hx hv₄ (P := fun _ s₅ => wpAny W.M A (execs body env) (fun f s₆ => match f with
         | .next | .cont => ∃ mm, mm < (u' :: rest').length ∧ ∃ rest m' σ', mm = rest.length ∧ wpIter B u l x rest m' σ' Q ∧ Ok W env m' σ' s₆ ∧ StepX (Own env) σ s σ' s₆ ∧ ItAt s₆.heap itA u l rest ∧ σ' itA = Option.none
         | .brk => P .next s₆
         | .ret v => P (.ret v) s₆) NoE s₅) fun s₅ O₅ X₅ => ?_)) (fun _ _ q => wpAny_mono q (fun f s₃ q => by cases f <;> exact q) fun _ _ x => x.elim) (fun _ _ q => q.elim)
   have it4 : s₄.heap.get? itA = some hI₄.cls.choose := hI₄.cls.choose_spec.1
   have no : ¬ Own env itA := fun q => itOwn _ q rfl
   have it5 := (X₅.hid itA _ no it4 hIσ)
   have hI5 : ItAt s₅.heap itA u l rest' := hI₄.keep (fun o e => (X₅.hid itA o no e hIσ).1) X₅.imm
   refine hB (m₃.set x u') σ₃ _ hw.2 A s₅ R O₅ _ fun f g m₆ σ₆ s₆ hf O₆ X₆ hq₆ => ?_
   have X : StepX (Own env) σ s σ₆ s₆ := ⟨fun b o d e n => by
     obtain ⟨e1, n1⟩ := X₃.hid b o d e n
     obtain ⟨e2, n2⟩ := X₄.hid b o (soldI b o e n) e1 n1
     obtain ⟨e3, n3⟩ := X₅.hid b o d e2 n2
     exact X₆.hid b o d e3 n3, X₃.imm.trans (X₄.imm.trans (X₅.imm.trans X₆.imm))⟩
   have hI6 : ItAt s₆.heap itA u l rest' := hI5.keep (fun o e => (X₆.hid itA o no e hIσ).1) X₆.imm
   have σ6 : σ₆ itA = Option.none := (X₆.hid itA _ no it5.1 hIσ).2
   cases hf with
   | next => exact ⟨rest'.length, Nat.lt_succ_self _, rest', m₆, σ₆, rfl, hq₆, O₆, X, hI6, σ6⟩
   | cont => exact ⟨rest'.length, Nat.lt_succ_self _, rest', m₆, σ₆, rfl, hq₆, O₆, X, hI6, σ6⟩
   | brk => exact hP _ _ _ _ _ .next O₆ X hq₆
   | ret v => exact hP _ _ _ _ _ (.ret v) O₆ X hq₆
theorem sat_aug {op : Operator} {x y : Value} {u v : V} {K : Int → Prop} {P : Value → Shared → Prop} (Rp : Rep W σ s) (hu : VR s.heap u x) (hv : VR s.heap v y)
   (h : onI (fun i => onI (fun k => augF op i k K) ⟨⟩ v) ⟨⟩ u) (hP : ∀ j, K j → Rep W σ { s with toks := s.toks + 1 } → Step σ s σ { s with toks := s.toks + 1 } → P (.int j s.toks) { s with toks := s.toks + 1 }) : wpAny W.M A (inplaceOp op x y) P NoE s := by
 refine (xE1 fun i => aE2 fun e1 h1 => ?_) (onI_inv h)
 refine (xE1 fun j => aE2 fun e2 h2 => ?_) (onI_inv h1)
 subst e1; subst e2
 obtain ⟨t, rfl⟩ := hu.int_inv
 obtain ⟨t', rfl⟩ := hv.int_inv
 obtain ⟨R₂, S₂⟩ := Rp.toks (s.toks + 1)
 cases op with
 | Add => exact PySem.P.iadd_int (hP _ h2 R₂ S₂)
 | Sub => exact PySem.P.isub_int (hP _ h2 R₂ S₂)
 | _ => exact h2.elim
theorem sound_asg (hk : 30 ≤ k) (EO : EnvOk env) {n : Nat} {t e : Expr} {pos : Pos} {p : PS} (h : toAsg (toE env.scope.names n) env.scope.names e t = some p) {Q : SQ} (hq : wpS (CallSat W r) p m σ Q) : SatS W env r k (exec (.Assign [t] e pos) env) m σ Q := by
 have sE : ∀ {e p}, toE env.scope.names n e = some p → ∀ {m σ Q}, wpE (CallSat W r) p m σ Q → SatE W env r k (eval e env) m σ Q := fun he _ _ _ hq => soundE hk n EO he hq
 cases t with
 | Name x px =>
   obtain ⟨hst, h⟩ := guard_inv h
   refine (xE1 fun a => aE2 fun h1 oy0 => ?_) (Option.map_eq_some_iff.mp h); obtain rfl := oy0
   exact sat_assignName hk EO h1 (storable_kind hst) hq
 | Attribute o x px =>
   obtain ⟨hc, h⟩ := guard_inv h
   rw [Bool.and_eq_true, Bool.not_eq_true'] at hc
   refine (xE2 fun a b => aE3 fun h1 h2 oy1 => ?_) (bind2_inv h); obtain rfl := oy1
   intro A s R O P hP
   refine plainObj_wpAny_Assign_Attribute (sE h2 hq A s R O _ fun u v σ₁ s₁ hv O₁ S₁ hq₁ => sE h1 hq₁ A s₁ R O₁ _ fun u₂ v₂ σ₂ s₂ hv₂ O₂ S₂ hq₂ => ?_) (swaps_no hc.2)
   exact sat_setAttr O₂.rep hv₂ (hv.keep S₂.imm) hq₂ _ fun σ₃ s₃ R₃ S₃ hq₃ => hP _ _ _ _ _ .next (O₂.step R₃ S₃) (S₁.trans (S₂.trans S₃)).x hq₃
 | Subscript o i px =>
   obtain ⟨hc, h⟩ := guard_inv h
   rw [Bool.and_eq_true, Bool.not_eq_true'] at hc
   refine (xE3 fun a b c => aE4 fun h1 h2 h3 oy2 => ?_) (bind3_inv h); obtain rfl := oy2
   intro A s R O P hP
   refine wpAny_Assign_Subscript (sE h3 hq A s R O _ fun u v σ₁ s₁ hv O₁ S₁ hq₁ => sE h1 hq₁ A s₁ R O₁ _ fun u₂ v₂ σ₂ s₂ hv₂ O₂ S₂ hq₂ => sE h2 hq₂ A s₂ R O₂ _ fun u₃ v₃ σ₃ s₃ hv₃ O₃ S₃ hq₃ => ?_) (swaps_no hc.2)
   exact sat_setItem O₃.rep (hv₂.keep S₃.imm) hv₃ (hv.keep (S₂.trans S₃).imm) hq₃ _ fun σ₄ s₄ R₄ S₄ hq₄ => hP _ _ _ _ _ .next (O₃.step R₄ S₄) (S₁.trans (S₂.trans (S₃.trans S₄))).x hq₄
 | Tuple ts kk px =>
   obtain ⟨hc, h⟩ := guard_inv h
   rw [Bool.and_eq_true, Bool.not_eq_true', Bool.not_eq_true'] at hc
   refine (xE1 fun xs => aE2 fun h1 h => ?_) (Option.bind_eq_some_iff.mp h)
   obtain ⟨hall, h⟩ := guard_inv h
   refine (xE1 fun a => aE2 fun h2 oy3 => ?_) (Option.map_eq_some_iff.mp h); obtain rfl := oy3
   intro A s R O P hP
   refine Assign_Tuple (sE h2 hq A s R O _ fun u v σ₁ s₁ hv O₁ S₁ hq₁ => ?_) (swaps_sole hc.1) (swapped_no hc.2)
   refine (xE1 fun l => aE2 fun hl g => ?_) (onT_inv hq₁)
   subst hl
   rw [asT_eq] at g
   obtain ⟨t, items, nn, rfl, e, hv⟩ := hv.tup_inv
   obtain ⟨g1, g2⟩ := g
   obtain ⟨l1, l2⟩ := assignEach_len (env := env) h1
   refine wpAny_assign_Tuple R.hd ⟨_, e, rfl, nn, rfl⟩ (by rw [l1, ← g1, hv.length, Array.length_toList]) l2 fun h' hx => ?_
   obtain ⟨R₂, S₂⟩ := O₁.rep.same (s' := { s₁ with heap := h' }) fun b o e => hx b o (Nat.ne_of_lt (Heap.lt_size e)) e
   refine sat_assignNames EO h1 hall g1 (hv.keep S₂.imm) (O₁.step R₂ S₂) fun s₃ O₃ X₃ => ?_
   exact hP _ _ _ _ _ .next O₃ (S₁.x.trans (S₂.x.trans X₃)) g2
 | _ => exact no_some h
theorem sound_aug (hk : 30 ≤ k) (EO : EnvOk env) {n : Nat} {t e : Expr} {op : Operator} {pos : Pos} {p : PS} (h : toAug (toE env.scope.names n) env.scope.names op e t = some p) {Q : SQ} (hq : wpS (CallSat W r) p m σ Q) : SatS W env r k (exec (.AugAssign t op e pos) env) m σ Q := by
 have sE : ∀ {e p}, toE env.scope.names n e = some p → ∀ {m σ Q}, wpE (CallSat W r) p m σ Q → SatE W env r k (eval e env) m σ Q := fun he _ _ _ hq => soundE hk n EO he hq
 cases t with
 | Name x px =>
   obtain ⟨hst, h⟩ := guard_inv h
   refine (xE1 fun a => aE2 fun h1 oy0 => ?_) (Option.map_eq_some_iff.mp h); obtain rfl := oy0
   intro A s R O P hP
   refine (xE1 fun w => aE2 fun hm hq => ?_) (onS_inv hq)
   refine (xE1 fun i => aE2 fun oy1 oy2 => ?_) (onI_inv hq); obtain rfl := oy1; revert oy2; intro hq
   refine wpAny_AugAssign_Name ?_
   have load : ∀ {P' : Value → Shared → Prop}, (∀ t, P' (.int i t) s) → wpAny W.M A (loadName env _) P' NoE s := fun {P'} hP' => by
     rcases storable_kind hst with hk' | hk'
     · obtain ⟨mc, nn, q⟩ := O.fr.loc
       have hz : _ ≠ (".0" : Str) := storable_dot hst
       refine (xE1 fun y => aE2 fun e1 e2 => ?_) (q _ _ hm hk' hz)
       obtain ⟨t, rfl⟩ := e2.int_inv
       exact wpAny_loadName_local EO.kind hk' nn e1 (hP' t)
     · refine (xE3 fun c o y => aE4 fun e1 e2 e3 e4 => ?_) (O.fr.cell _ _ hm hk')
       obtain ⟨t, rfl⟩ := e4.int_inv
       exact wpAny_loadName_cell EO.kind hk' e1 ⟨o, e2, e3⟩ (hP' t)
   refine load fun t => sE h1 hq A s R O _ fun u v σ₁ s₁ hv O₁ S₁ hq₁ => ?_
   refine sat_aug (u := .int i) O₁.rep (.int i t) hv hq₁ fun j hq₂ R₂ S₂ => ?_
   exact sat_store EO (O₁.step R₂ S₂) (storable_kind hst) (.int _ _) fun s₃ O₃ X₃ => hP _ _ _ _ _ .next O₃ ((S₁.trans S₂).x.trans X₃) hq₂
 | Attribute o x px =>
   obtain ⟨hc, h⟩ := guard_inv h
   refine (xE2 fun a b => aE3 fun h1 h2 oy3 => ?_) (bind2_inv h); obtain rfl := oy3
   intro A s R O P hP
   refine wpAny_AugAssign_AttributeAny (sE h1 hq A s R O _ fun u v σ₁ s₁ hv O₁ S₁ hq₁ => ?_)
   refine sat_attr O₁.rep hv hq₁ _ fun u₂ v₂ σ₂ s₂ hv₂ R₂ S₂ hq₂ => ?_
   refine sE h2 hq₂ A s₂ R (O₁.step R₂ S₂) _ fun u₃ v₃ σ₃ s₃ hv₃ O₃ S₃ hq₃ => ?_
   have S₁₃ := S₁.trans (S₂.trans S₃)
   refine sat_aug O₃.rep (hv₂.keep S₃.imm) hv₃ hq₃ fun j hq₄ R₄ S₄ => ?_
   refine sat_setAttr R₄ (hv.keep (S₂.trans (S₃.trans S₄)).imm) (.int _ _) hq₄ _ fun σ₅ s₅ R₅ S₅ hq₅ => ?_
   exact hP _ _ _ _ _ .next ((O₃.step R₄ S₄).step R₅ S₅) (S₁₃.trans (S₄.trans S₅)).x hq₅
 | Subscript o i px =>
   obtain ⟨hc, h⟩ := guard_inv h
   refine (xE3 fun a b c => aE4 fun h1 h2 h3 oy4 => ?_) (bind3_inv h); obtain rfl := oy4
   intro A s R O P hP
   refine wpAny_AugAssign_SubscriptAny (sE h1 hq A s R O _ fun u v σ₁ s₁ hv O₁ S₁ hq₁ => sE h2 hq₁ A s₁ R O₁ _ fun u' v' σ₁' s₁' hv' O₁' S₁' hq₁' => ?_) (augStore_no hc)
   refine (sat_item O₁'.rep (hv.keep S₁'.imm) hv' hq₁').1 _ fun u₂ v₂ σ₂ s₂ hv₂ R₂ S₂ hq₂ => ?_
   refine sE h3 hq₂ A s₂ R (O₁'.step R₂ S₂) _ fun u₃ v₃ σ₃ s₃ hv₃ O₃ S₃ hq₃ => ?_
   have S₁₃ := S₁.trans (S₁'.trans (S₂.trans S₃))
   refine sat_aug O₃.rep (hv₂.keep S₃.imm) hv₃ hq₃ fun j hq₄ R₄ S₄ => ?_
   refine sat_setItem R₄ (hv.keep (S₁'.trans (S₂.trans (S₃.trans S₄))).imm) (hv'.keep (S₂.trans (S₃.trans S₄)).imm) (.int _ _) hq₄ _ fun σ₅ s₅ R₅ S₅ hq₅ => ?_
   exact hP _ _ _ _ _ .next ((O₃.step R₄ S₄).step R₅ S₅) (S₁₃.trans (S₄.trans S₅)).x hq₅
 | _ => exact no_some h
theorem soundS (hk : 30 ≤ k) (EO : EnvOk env) : ∀ (n : Nat) {st : Stmt} {p : PS}, toS env.scope.names n st = some p → ∀ {m : Loc} {σ : AH} {Q : SQ}, wpS (CallSat W r) p m σ Q → SatS W env r k (exec st env) m σ Q
 | 0, _, _, h, _, _, _, _ => no_some h
 | n + 1, st, p, h, m, σ, Q, hq => by
   have sE : ∀ {e p}, toE env.scope.names n e = some p → ∀ {m σ Q}, wpE (CallSat W r) p m σ Q → SatE W env r k (eval e env) m σ Q := fun he _ _ _ hq => soundE hk n EO he hq
   have sB : ∀ {sts ps}, toSsWith (toS env.scope.names n) sts = some ps → ∀ m σ Q, wpSs (CallSat W r) ps m σ Q → SatS W env r k (execs sts env) m σ Q := fun he m σ Q hq => satSs (fun st p h m σ Q hq => soundS hk EO n h hq) he hq
   cases st with
   | Assign ts e pos =>
     match ts, h with
     | [t], h => exact sound_asg hk EO h hq
     | [], h => exact no_some h
     | _ :: _ :: _, h => exact no_some h
   | AugAssign t op e pos => exact sound_aug hk EO h hq
   | Expr e pos =>
     obtain ⟨hc, h⟩ := guard_inv h
     refine (xE1 fun a => aE2 fun h1 oy0 => ?_) (Option.map_eq_some_iff.mp h); obtain rfl := oy0
     intro A s R O P hP
     exact wpAny_Expr_any (sE h1 hq A s R O _ fun u v σ₁ s₁ hv O₁ S₁ hq₁ => hP _ _ _ _ _ .next O₁ S₁.x hq₁) (interactive_no EO) (swaps_no (by simpa using hc))
   | Return o pos =>
     cases o with
     | some e =>
       refine (xE1 fun a => aE2 fun h1 oy1 => ?_) (Option.map_eq_some_iff.mp h); obtain rfl := oy1
       intro A s R O P hP
       exact wpAny_Return_some (sE h1 hq A s R O _ fun u v σ₁ s₁ hv O₁ S₁ hq₁ => hP _ _ _ _ _ (.ret hv) O₁ S₁.x hq₁)
     | none =>
       cases h
       intro A s R O P hP
       exact wpAny_Return_none (hP _ _ _ _ _ (.ret .none) O (.refl _ _ _) hq)
   | If t b o pos =>
     refine (xE3 fun _ _ _ => aE4 fun h1 h2 h3 oy2 => ?_) (bind3_inv h); obtain rfl := oy2
     intro A s R O P hP
     refine wpAny_If (soundT hk EO n h1 hq A s R O _ fun b σ₁ s₁ O₁ S₁ hq₁ => ?_)
     cases b with
     | true => exact sB h2 _ _ _ hq₁ A s₁ R O₁ P fun f g m' σ' s' x y z w => hP _ _ _ _ _ x y (S₁.x.trans z) w
     | false => exact sB h3 _ _ _ hq₁ A s₁ R O₁ P fun f g m' σ' s' x y z w => hP _ _ _ _ _ x y (S₁.x.trans z) w
   | While t b o pos =>
     obtain ⟨hc, h⟩ := guard_inv h
     obtain rfl := List.isEmpty_iff.mp hc
     refine (xE2 fun _ _ => aE3 fun h1 h2 oy3 => ?_) (bind2_inv h); obtain rfl := oy3
     obtain ⟨nn, hq⟩ := hq
     exact sat_while (fun m σ Q hq => soundT hk EO n h1 hq) (fun m σ Q hq => sB h2 m σ Q hq) hq
   | For t it b o pos =>
     cases t with
     | Name x px =>
       obtain ⟨hc, h0⟩ := guard_inv h
       clear h
       rw [Bool.and_eq_true, List.isEmpty_iff] at hc
       obtain ⟨hst, rfl⟩ := hc
       refine (xE2 fun _ _ => aE3 fun h1 h2 oy4 => ?_) (bind2_inv h0); obtain rfl := oy4
       exact sat_for EO (storable_kind hst) (toE_fold h1) (sE h1 hq) (fun m σ Q hq => sB h2 m σ Q hq)
     | _ => exact no_some h
   | Break pos => cases h; intro A s R O P hP; exact wpAny_Break (hP _ _ _ _ _ .brk O (.refl _ _ _) hq)
   | Continue pos => cases h; intro A s R O P hP; exact wpAny_Continue (hP _ _ _ _ _ .cont O (.refl _ _ _) hq)
   | Pass pos => cases h; intro A s R O P hP; exact wpAny_Pass (hP _ _ _ _ _ .next O (.refl _ _ _) hq)
   | Raise e c pos => cases h; exact False.elim hq
   | _ => exact no_some h
end
noncomputable def paramsOk (names : Kinds) (ps : List Str) : Bool :=
 ps.all (fun x => names.lookup x == some .local || names.lookup x == some .cell) &&
 names.all (fun p => p.2 != .cell || ((cellsFrom 0 names []).lookup p.1).isSome) && decide (((cellsFrom 0 names []).map (·.1)).Nodup)
noncomputable def FnAt (K : Frag) (a : Addr) (ps : List Str) (body : PSs) : Prop :=
 ∃ oc od osl fd stm, K.lookup a = some ⟨oc, od, .func fd, osl⟩ ∧ fd.body = .stmts stm ∧ fd.globals = mainGlobals ∧ fd.builtins = builtinsNs ∧ fd.closure = [] ∧ codeIn K fd.code fd.qualname = true ∧
   fd.scope.isCoroutine = false ∧ fd.scope.isGenerator = false ∧ fd.scope.kind = .function ∧ toBody fd.scope.names stm = some body ∧ paramsOk fd.scope.names ps = true ∧
   (∀ vals : List Value, vals.length = ps.length → bindArgs fd ⟨vals, []⟩ = pure (ps.zip vals))
section
variable {W : Wld} {A : Around} {σ : AH} {s : Shared} {env : Env} {m : Loc} {r k : Nat}
theorem bind_inv {h : Heap} (kd : Str → Option NameKind) : ∀ (ps : List Str) (us : List V) (vals : List Value) (m : Loc) (mc cm : Str → Option Value), VRs h us vals →
   (∀ x v, m x = some v → kd x = some .local → ∃ y, mc x = some y ∧ VR h v y) → (∀ x v, m x = some v → kd x ≠ some .local → ∃ y, cm x = some y ∧ VR h v y) →
   (∀ x v, setAll m ps us x = some v → kd x = some .local → ∃ y, bindL kd (ps.zip vals) mc x = some y ∧ VR h v y) ∧ (∀ x v, setAll m ps us x = some v → kd x ≠ some .local → ∃ y, bindC kd (ps.zip vals) cm x = some y ∧ VR h v y)
 | [], us, vals, m, mc, cm, _, i1, i2 => by
   have : setAll m [] us = m := by cases us <;> rfl
   rw [this]; exact ⟨i1, i2⟩
 | p :: ps, [], xs, m, mc, cm, r, i1, i2 => by rw [r.inv_nil]; exact ⟨i1, i2⟩
 | p :: ps, u :: us, xs, m, mc, cm, r, i1, i2 => by
   refine (xE2 fun x vals => aE3 fun e a r => ?_) r.inv_cons
   rw [e]
   show (∀ x' v, setAll (m.set p u) ps us x' = some v → _ → ∃ y, bindL kd ((p, x) :: ps.zip vals) mc _ = _ ∧ _) ∧ (∀ x' v, setAll (m.set p u) ps us x' = some v → _ → ∃ y, bindC kd ((p, x) :: ps.zip vals) cm _ = _ ∧ _)
   unfold bindL bindC
   refine bind_inv kd ps us vals (m.set p u) _ _ r (fun y v e k => ?_) (fun y v e k => ?_)
   · rw [Loc.set_eq] at e
     by_cases hy : y = p
     · subst hy
       rw [if_pos rfl] at e; cases e
       rw [if_pos k]
       exact ⟨x, if_pos rfl, a⟩
     · rw [if_neg hy] at e
       refine (xE1 fun z => aE2 fun e1 e2 => ?_) (i1 y v e k)
       refine ⟨z, ?_, e2⟩
       split
       · show (if y = p then _ else _) = _; rw [if_neg hy]; exact e1
       · exact e1
   · rw [Loc.set_eq] at e
     by_cases hy : y = p
     · subst hy
       rw [if_pos rfl] at e; cases e
       rw [if_neg k]
       exact ⟨x, if_pos rfl, a⟩
     · rw [if_neg hy] at e
       refine (xE1 fun z => aE2 fun e1 e2 => ?_) (i2 y v e k)
       refine ⟨z, ?_, e2⟩
       split
       · exact e1
       · show (if y = p then _ else _) = _; rw [if_neg hy]; exact e1
theorem isSome_lookup {α : Type} : ∀ {l : List (Str × α)} {x : Str}, (l.lookup x).isSome = true ↔ x ∈ l.map (·.1)
 | [], x => by simp
 | (k, v) :: l, x => by
   rw [List.lookup_cons, List.map_cons, List.mem_cons]
   by_cases h : x = k
   · subst h; simp
   · rw [beq_eq_false_iff_ne.mpr h]
     simp only [h, false_or]
     exact isSome_lookup
theorem cells_shift {names : Kinds} {n : Nat} {x : Str} (h : ((cellsFrom 0 names []).lookup x).isSome = true) : ((cellsFrom n names []).lookup x).isSome = true := by
 rw [isSome_lookup] at h ⊢
 rwa [cellsFrom_names names n 0 [] [] rfl]
theorem Room.deeper {A : Around} {env : Env} (R : Room A (r + 1) k) : Room (A.deeper env) r k := by
 obtain ⟨a, b, c⟩ := R
 refine ⟨a, ?_, ?_⟩
 · show A.depth + 1 + 2 * r ≤ 990
   lia
 · show A.units + 3 + 40 * r + k ≤ 9800
   lia
theorem VRs.zip_mem {h : Heap} : ∀ {ps : List Str} {us vals} {x : Str × Value}, VRs h us vals → x ∈ ps.zip vals → x.1 ∈ ps
 | [], _, _, _, _, hx => by simp at hx
 | p :: ps, _, [], _, _, hx => by simp at hx
 | p :: ps, _, v :: vals, _, _, hx => by
   rw [List.zip_cons_cons, List.mem_cons] at hx
   rcases hx with rfl | hx
   · exact .head _
   · exact .tail _ (List.of_mem_zip hx).1
theorem call_defS {f : CF} {ps : List Str} {body : PSs} {args : List V} {Q : V → AH → Prop} (hf : FnAt W.K (f.addr W.K) ps body) (hlen : args.length = ps.length)
   (h : ∀ env stm, EnvOk env → toSsWith (toS env.scope.names 40) stm = some body → SatS W env r 30 (execs stm env) (setAll (fun _ => Option.none) ps args) σ (bodyQ Q)) : CallSat W (r + 1) f args σ Q := by
 intro A s vals R Rp hv
 revert hf; refine xE5 fun oc od osl fd stm => aE12 fun ho hbody hg hbl hclo hcode hco hgen hkind hstm hps hbind => ?_
 unfold paramsOk at hps
 simp only [Bool.and_eq_true, List.all_eq_true, Bool.or_eq_true, beq_iff_eq, decide_eq_true_eq, bne_iff_ne] at hps
 obtain ⟨⟨p1, p2⟩, p3⟩ := hps
 have X := W.X.keeps Rp.base
 have cellIs : ∀ x, fd.scope.names.lookup x = some .cell → ((cellsFrom (s.heap.objs.size + 1) fd.scope.names []).lookup x).isSome = true := fun x hx => by
   refine cells_shift ?_
   rcases p2 _ (mem_of_lookup hx) with q | q
   · exact absurd rfl q
   · exact q
 refine codeAny_call_cells (fd := fd) (body := stm) (binds := ps.zip vals) ?_ (X _ _ ho) rfl (W.nl.keeps Rp.base) (codeRec_of X hcode) hbody (hbind vals (by rw [← hv.length, hlen])) hclo (fun x hx => ?_) (fun s₁ C => ?_) hco hgen hkind
 · have := R.depth
   show A.depth < 1000
   lia
 · rcases p1 x.1 (hv.zip_mem hx) with q | q
   · exact .inl q
   · exact .inr ⟨q, cellIs _ q⟩
 · obtain ⟨⟨⟨h₁, tk, rfl⟩, ns, keep, fresh⟩, cell, apart, above⟩ := C
   obtain ⟨R₁, S₁⟩ := Rp.same (s' := { s with heap := h₁, toks := tk }) keep
   have hv₁ := hv.keep S₁.imm
   have EO : EnvOk (callEnvC fd s.heap.objs.size (f.addr W.K)) := ⟨hkind, hg, hbl⟩
   obtain ⟨i1, i2⟩ := bind_inv (h := h₁) (callEnvC fd s.heap.objs.size (f.addr W.K)).kindOf ps args vals (fun _ => Option.none) (fun _ => Option.none) (fun _ => Option.none) hv₁ (fun _ _ e => nomatch e) (fun _ _ e => nomatch e)
   have σnone : ∀ b, s.heap.objs.size ≤ b → σ b = Option.none := fun b hb => by
     cases e : σ b with
     | none => rfl
     | some o => exact absurd (Rp.lt e) (Nat.not_lt.mpr hb)
   have hbnone : ∀ b, s.heap.objs.size ≤ b → W.hb.get? b = Option.none := fun b hb => by
     cases e : W.hb.get? b with
     | none => rfl
     | some o => exact absurd (Heap.lt_size (Rp.base _ _ e)) (Nat.not_lt.mpr hb)
   have F : FR W (callEnvC fd s.heap.objs.size (f.addr W.K)) (setAll (fun _ => Option.none) ps args) σ h₁ := by
     refine ⟨⟨_, ns, fun x v e k _ => i1 x v e k⟩, fun x v e k => ?_, fun x k => ?_, fun x y c k1 k2 e1 e2 => ?_, σnone _ (Nat.le_refl _), fun x c k e => ?_, hbnone _ (Nat.le_refl _)⟩
     · obtain ⟨c, hc⟩ := Option.isSome_iff_exists.mp (cellIs x k)
       refine (xE1 fun y => aE2 fun e1 e2 => ?_) (i2 x v e (by rw [k]; simp))
       refine (xE1 fun o => aE2 fun e3 e4 => ?_) (cell x c hc)
       rw [e1] at e4
       exact ⟨c, o, y, hc, e3, e4, e2⟩
     · obtain ⟨c, hc⟩ := Option.isSome_iff_exists.mp (cellIs x k)
       refine (xE1 fun o => aE2 fun e3 e4 => ?_) (cell x c hc)
       exact ⟨c, o, _, hc, e3, e4⟩
     · exact name_of_addr apart (mem_of_lookup e1) (mem_of_lookup e2)
     · have := above x c (mem_of_lookup e)
       have hc : s.heap.objs.size ≤ c := Nat.le_of_lt this
       exact ⟨σnone c hc, hbnone c hc⟩
   have O : Ok W (callEnvC fd s.heap.objs.size (f.addr W.K)) (setAll (fun _ => Option.none) ps args) σ { s with heap := h₁, toks := tk } := ⟨R₁, F⟩
   refine wpAny_mono (h _ _ EO hstm (A.deeper (callEnvC fd s.heap.objs.size (f.addr W.K))) _ R.deeper O
     (fun fl s' => ∃ v u σ', (match fl with | .ret v => v | _ => Value.none) = v ∧ VR s'.heap u v ∧ Rep W σ' s' ∧ Step σ s σ' s' ∧ Q u σ') fun fl g m' σ' s' hf O' X' hq => ?_) (fun fl s' q => ?_) (fun _ _ q => q.elim)
   · have S : Step σ s σ' s' := ⟨fun b o e n => by
       have hb : b < s.heap.objs.size := Heap.lt_size e
       obtain ⟨e1, n1⟩ := S₁.hid b o e n
       refine X'.hid b o (fun d => ?_) e1 n1
       rcases d with d | ⟨x, _, d⟩
       · rw [d] at hb; exact Nat.lt_irrefl _ hb
       · have q := above x b (mem_of_lookup d)
         exact Nat.lt_irrefl _ (Nat.lt_trans hb q), S₁.imm.trans X'.imm⟩
     cases hf with
       | next => exact ⟨_, .none, σ', rfl, .none, O'.rep, S, hq⟩
       | brk => exact ⟨_, .none, σ', rfl, .none, O'.rep, S, hq⟩
       | cont => exact ⟨_, .none, σ', rfl, .none, O'.rep, S, hq⟩
       | ret hv => exact ⟨_, _, σ', rfl, hv, O'.rep, S, hq⟩
   · revert q; refine xE3 fun v u σ' => aE2 fun oy0 oy1 => ?_; obtain rfl := oy0; revert oy1; refine aE4 fun a b c d => ?_
     exact ⟨_, u, σ', rfl, a, b, c, d⟩
theorem call_def {f : CF} {ps : List Str} {body : PSs} {args : List V} {Q : V → AH → Prop} (hf : FnAt W.K (f.addr W.K) ps body) (hlen : args.length = ps.length)
   (h : wpBody (CallSat W r) body (setAll (fun _ => Option.none) ps args) σ Q) : CallSat W (r + 1) f args σ Q :=
 call_defS hf hlen fun _ _ EO hs => satSs (fun _ _ hp _ _ _ hq => soundS (Nat.le_refl 30) EO 40 hp hq) hs h
noncomputable def AH.del (σ : AH) (a : Addr) : AH := fun b => if b = a then Option.none else σ b
theorem AH.del_none {σ : AH} {a b : Addr} (h : σ b = Option.none) : σ.del a b = Option.none := by unfold AH.del; split <;> first | rfl | exact h
theorem AH.del_some {σ : AH} {a b : Addr} {o : AO} (h : σ.del a b = some o) : σ b = some o := by
 unfold AH.del at h
 by_cases e : b = a
 · rw [if_pos e] at h; cases h
 · rw [if_neg e] at h; exact h
theorem AH.del_ne {σ : AH} {a b : Addr} (h : b ≠ a) : σ.del a b = σ b := if_neg h
theorem SatS.frame {t : Sem Flow} {Q Q' : SQ} {a : Addr} {l : List V} (ha : σ a = some (.flist l)) (h : SatS W env r k t m (σ.del a) Q')
   (hQ : ∀ fl m' σ', Q' fl m' σ' → Q fl m' (σ'.set a (.flist l))) : SatS W env r k t m σ Q := by
 intro A s R O P hP
 have neL : env.locals ≠ a := fun e => by have := O.fr.hidL; rw [e, ha] at this; cases this
 have neC : ∀ x c, env.kindOf x = some .cell → env.cells.lookup x = some c → c ≠ a := fun x c k e z => by have := (O.fr.hidC x c k e).1; rw [z, ha] at this; cases this
 have O' : Ok W env m (σ.del a) s := ⟨⟨O.rep.base, fun b o e => O.rep.nobase b o (AH.del_some e), fun b o e => O.rep.objs b o (AH.del_some e), O.rep.gens, O.rep.os⟩,
   ⟨O.fr.loc, O.fr.cell, O.fr.cells, O.fr.apart, AH.del_none O.fr.hidL, fun x c k e => ⟨AH.del_none (O.fr.hidC x c k e).1, (O.fr.hidC x c k e).2⟩, O.fr.above⟩⟩
 refine h A s R O' P fun f g m' σ' s' hf O₁ S₁ hq => hP f g m' (σ'.set a (.flist l)) s' hf ?_ ?_ (hQ _ _ _ hq)
 · obtain ⟨ob, items, n, e0, e1, ec, ed, e2⟩ := O.rep.objs a _ ha
   have nd : ¬ Own env a := fun d => by
     rcases d with d | ⟨x, k, d⟩
     · exact neL d.symm
     · exact neC x a k d rfl
   obtain ⟨g1, g2⟩ := S₁.hid a _ nd e1 (if_pos rfl)
   refine ⟨⟨O₁.rep.base, fun b o e => ?_, fun b o e => ?_, O₁.rep.gens, O₁.rep.os⟩, ⟨O₁.fr.loc, O₁.fr.cell, O₁.fr.cells, O₁.fr.apart, ?_, fun x c k e => ⟨?_, (O₁.fr.hidC x c k e).2⟩, O₁.fr.above⟩⟩
   · by_cases z : b = a
     · rw [z]; exact O.rep.nobase a _ ha
     · rw [AH.set, if_neg z] at e; exact O₁.rep.nobase b o e
   · by_cases z : b = a
     · rw [AH.set, if_pos z] at e; cases e; rw [z]; exact ⟨ob, items, n, e0, g1, ec, ed, e2.keep S₁.imm⟩
     · rw [AH.set, if_neg z] at e; exact O₁.rep.objs b o e
   · rw [AH.set, if_neg neL]; exact O₁.fr.hidL
   · rw [AH.set, if_neg (neC x c k e)]; exact (O₁.fr.hidC x c k e).1
 · refine ⟨fun b o d e n => ?_, S₁.imm⟩
   have z : b ≠ a := fun z => by rw [z, ha] at n; cases n
   obtain ⟨g1, g2⟩ := S₁.hid b o d e (AH.del_none n)
   exact ⟨g1, by rw [AH.set, if_neg z]; exact g2⟩
noncomputable def PSs.n : PSs → Bool
 | .nil => true
 | .cons .. => false
noncomputable def PSs.hd : PSs → PS
 | .nil => .pass
 | .cons s _ => s
noncomputable def PSs.tl : PSs → PSs
 | .nil => .nil
 | .cons _ r => r
theorem call_frame {f : CF} {ps : List Str} {b1 : PS} {rest : PSs} {args : List V} {Q : V → AH → Prop} {a : Addr} {l : List V} (hf : FnAt W.K (f.addr W.K) ps (.cons b1 rest)) (hlen : args.length = ps.length)
   (h : wpS (CallSat W r) b1 (setAll (fun _ => Option.none) ps args) σ fun fl m σ => fl = .next ∧ σ a = some (.flist l) ∧ wpSs (CallSat W r) rest m (σ.del a) (bodyQ fun v σ' => Q v (σ'.set a (.flist l)))) : CallSat W (r + 1) f args σ Q := by
 refine call_defS hf hlen fun env stm EO hs => ?_
 cases stm with
 | nil => exact Bool.noConfusion (congrArg PSs.n (Option.some.inj hs) : true = false)
 | cons s1 r1 =>
   obtain ⟨p, q, h1, h2, e⟩ := bind2_inv hs
   obtain rfl : p = b1 := congrArg PSs.hd e
   obtain rfl : q = rest := congrArg PSs.tl e
   intro A s R O P hP
   refine wpAny_execs_cons (soundS (Nat.le_refl 30) EO 40 h1 h A s R O _ fun fl g m₁ σ₁ s₁ hfl O₁ S₁ hq => ?_)
   obtain ⟨rfl, ha, hq⟩ := hq
   cases hfl
   refine SatS.frame (Q := bodyQ Q) ha (satSs (fun _ _ hp _ _ _ hq => soundS (Nat.le_refl 30) EO 40 hp hq) h2 hq) (fun fl m' σ' z => by cases fl <;> exact z) A s₁ R O₁ P fun f g m' σ' s' x y z w => hP _ _ _ _ _ x y (S₁.trans z) w
end
noncomputable def clsStat (K : Frag) (C : Str) : Bool :=
 makesIn K (gad K C) && findIn K (.ref (gad K C)) "__init__" == some (some (.ref (mad K C "__init__"))) && typeIn K (.ref (mad K C "__init__")) == some (.type "function")
section
variable {W : Wld} {A : Around} {σ : AH} {s : Shared} {env : Env} {m : Loc} {r k : Nat}
theorem Room.makes {A : Around} {c : Addr} {rest : List Value} (R : Room A (r + 1) k) : Room (A.under (.builtin "type.__call__" ⟨.ref c :: rest, []⟩)) r k := by
 obtain ⟨a, b, c'⟩ := R
 have e1 : (A.under (.builtin "type.__call__" ⟨.ref c :: rest, []⟩)).depth = A.depth + 1 := rfl
 have e2 : (A.under (.builtin "type.__call__" ⟨.ref c :: rest, []⟩)).units = A.units + 1 := rfl
 exact ⟨a, by rw [e1]; lia, by rw [e2]; lia⟩
theorem call_cls {C : Str} {args : List V} {Q : V → AH → Prop} (hc : clsStat W.K C = true)
   (h : ∀ d x, σ d = Option.none → σ x = Option.none → d ≠ x → CallSat W r (.me C "__init__") (.ref x :: args) ((σ.set d (.dict [])).set x (.inst C d)) (fun v σ' => v = .none ∧ Q (.ref x) σ')) :
   CallSat W (r + 1) (.fn C) args σ Q := by
 intro A s vals R Rp hv
 unfold clsStat at hc
 simp only [Bool.and_eq_true, beq_iff_eq] at hc
 obtain ⟨⟨hm, hi⟩, hf⟩ := hc
 have X := W.X.keeps Rp.base
 have R₁ := Rp.change (s' := { s with heap := s.heap.push emptyDict }) s.heap.objs.size (.dict []) (fun b o _ e => Heap.get?_push_of_some _ e) (.inr (get?_size _))
   (fun _ => ⟨[], ⟨_, #[], 0, Heap.get?_push_size _ rfl, ⟨rfl, rfl, rfl⟩, rfl, fun _ he => by simp at he, Pairs.nil, List.nodup_nil⟩, .nil⟩)
 obtain ⟨R₁, S₁⟩ := R₁
 have hsz : (s.heap.push emptyDict).objs.size = s.heap.objs.size + 1 := Heap.size_push ..
 have hn : (s.heap.push emptyDict).get? (s.heap.objs.size + 1) = Option.none := by rw [← hsz]; exact get?_size _
 obtain ⟨R₂, S₂⟩ := R₁.change (s' := { s with heap := (s.heap.push emptyDict).push (instObj (gad W.K C) s.heap.objs.size) }) (s.heap.objs.size + 1) (.inst C s.heap.objs.size) (fun b o _ e => Heap.get?_push_of_some _ e) (.inr hn)
   (fun _ => by
     show Heap.get? _ _ = _
     rw [← hsz]; exact Heap.get?_push_size _ rfl)
 have σ2 : σ (s.heap.objs.size + 1) = Option.none := by
   cases e : σ (s.heap.objs.size + 1) with
   | none => rfl
   | some o => exact absurd (Rp.lt e) (Nat.not_lt.mpr (Nat.le_succ _))
 have S := S₁.trans S₂
 obtain ⟨hh, g, d, t, os⟩ := s
 refine make_core (makes_of X hm) (looks_findIn X hi) (fun self => bind_fn X self hf) (.inl rfl) ?_
 refine codeAny_mono (h hh.objs.size (hh.objs.size + 1) Rp.fresh σ2 (Nat.ne_of_lt (Nat.lt_succ_self _)) _ _ (.ref (hh.objs.size + 1) :: vals) R.makes R₂ (.cons (.ref _) (hv.keep S.imm))) fun res s' z => ?_
 revert z; refine xE3 fun v u σ' => aE2 fun oy0 oy1 => ?_; obtain rfl := oy0; revert oy1; refine aE5 fun a b c oy2 oy3 => ?_; obtain rfl := oy2; revert oy3; intro q
 cases a
 exact ⟨rfl, _, _, σ', rfl, .ref _, b, S.trans c, q⟩
end
noncomputable def fdAt (K : Frag) (a : Addr) : Option FuncData := match K.lookup a with
 | some ⟨_, _, .func fd, _⟩ => some fd
 | _ => Option.none
noncomputable def fnChk (K : Frag) (a : Addr) (ps : List Str) : Option PSs := (fdAt K a).bind fun fd => match fd.body with
 | .stmts stm => if fd.globals == mainGlobals && fd.builtins == builtinsNs && fd.closure.isEmpty && codeIn K fd.code fd.qualname && !fd.scope.isCoroutine && !fd.scope.isGenerator && fd.scope.kind == .function && paramsOk fd.scope.names ps
     then toBody fd.scope.names stm else Option.none
 | _ => Option.none
set_option tactic.hygienic true in
theorem FnOk.at {K : Frag} {a : Addr} {ps : List Str} {body : PSs} (h : fnChk K a ps = some body) (hb : ∀ vals : List Value, vals.length = ps.length → (fdAt K a).map (bindArgs · ⟨vals, []⟩) = some (pure (ps.zip vals))) : FnAt K a ps body := by
 unfold fnChk at h
 cases hf : fdAt K a with
 | none => rw [hf] at h; cases h
 | some fd =>
   rw [hf] at h hb
   have hl : ∃ oc od osl, K.lookup a = some ⟨oc, od, .func fd, osl⟩ := by
     unfold fdAt at hf
     split at hf
     · rename_i oc od fd' osl e
       cases hf; exact ⟨oc, od, osl, e⟩
     · cases hf
   revert hl; refine xE3 fun oc od osl hl => ?_
   simp only [Option.bind_some] at h
   split at h
   · rename_i stm e
     split at h
     · rename_i c
       simp only [Bool.and_eq_true, beq_iff_eq, Bool.not_eq_true', List.isEmpty_iff] at c
       obtain ⟨⟨⟨⟨⟨⟨⟨c1, c2⟩, c3⟩, c4⟩, c5⟩, c6⟩, c7⟩, c8⟩ := c
       exact ⟨oc, od, osl, fd, stm, hl, e, c1, c2, c3, c4, c5, c6, c7, h, c8, fun vals hv => by
         have := hb vals hv
         simpa using this⟩
     · cases h
   · cases h
noncomputable def plainFd (fd : FuncData) (ps : List Str) : Bool :=
 fd.params.posonlyargs.isEmpty && (fd.params.args.map (·.arg) == ps) && fd.params.vararg.isNone && fd.params.kwonlyargs.isEmpty && fd.params.kwarg.isNone && (match fd.defaults with | .none => true | _ => false) && decide ps.Nodup
theorem fm_congr {α β : Type} {f g : α → Option β} : ∀ {l : List α}, (∀ x ∈ l, f x = g x) → l.filterMap f = l.filterMap g
 | [], _ => rfl
 | a :: l, h => by rw [List.filterMap_cons, List.filterMap_cons, h a (.head _), fm_congr fun x hx => h x (.tail _ hx)]
theorem lookup_zip {α : Type} : ∀ {ps : List Str} {vals : List α}, vals.length = ps.length → ps.Nodup → ps.filterMap (fun n => ((ps.zip vals).lookup n).map (n, ·)) = ps.zip vals
 | [], _, _, _ => rfl
 | p :: ps, [], h, _ => by cases h
 | p :: ps, v :: vals, h, hn => by
   rw [List.nodup_cons] at hn
   rw [List.zip_cons_cons, List.filterMap_cons]
   have e1 : (((p, v) :: ps.zip vals).lookup p).map (fun x => (p, x)) = some (p, v) := by rw [List.lookup_cons, beq_self_eq_true]; rfl
   rw [e1]
   have e2 : ps.filterMap (fun n => (((p, v) :: ps.zip vals).lookup n).map (n, ·)) = ps.filterMap (fun n => ((ps.zip vals).lookup n).map (n, ·)) := by
     refine fm_congr fun n hx => ?_
     have : (n == p) = false := beq_eq_false_iff_ne.mpr fun z => hn.1 (z ▸ hx)
     rw [List.lookup_cons, this]
   show (p, v) :: _ = _
   rw [e2, lookup_zip (by simpa using h) hn.2]
theorem lookup_all {α : Type} : ∀ {ps : List Str} {vals : List α}, vals.length = ps.length → ∀ n ∈ ps, ((ps.zip vals).lookup n).isNone = false
 | [], _, _, _, h => by cases h
 | p :: ps, [], h, _, _ => by cases h
 | p :: ps, v :: vals, h, n, hx => by
   rw [List.zip_cons_cons, List.lookup_cons]
   by_cases e : n = p
   · subst e; rw [beq_self_eq_true]; rfl
   · rw [beq_eq_false_iff_ne.mpr e]
     rcases List.mem_cons.mp hx with q | q
     · exact absurd q e
     · exact lookup_all (by simpa using h) n q
theorem fz {α β γ δ : Type} {X : List α} {j : Nat} {s : γ} {f : α × β → γ → Sem (ForInStep γ)} {g : γ → Sem δ} : ((forIn (List.zip X (List.drop j ([] : List β))) s f : Sem γ) >>= g) = g s := by rw [List.drop_nil, List.zip_nil_right]; rfl
theorem bind_plain {fd : FuncData} {ps : List Str} (h : plainFd fd ps = true) (vals : List Value) (hl : vals.length = ps.length) : bindArgs fd ⟨vals, []⟩ = pure (ps.zip vals) := by
 unfold plainFd at h
 simp only [Bool.and_eq_true, List.isEmpty_iff, beq_iff_eq, Option.isNone_iff_eq_none, decide_eq_true_eq] at h
 obtain ⟨⟨⟨⟨⟨⟨h1, h2⟩, h3⟩, h4⟩, h5⟩, h6⟩, hn⟩ := h
 obtain ⟨nm, qn, ⟨po, ar, va, ko, kd, kw, df⟩, bd, sc, gl, cl, de, kdf, dc, pm, an, cd, ct, bt⟩ := fd
 dsimp only at h1 h2 h3 h4 h5 h6
 subst h1 h3 h4 h5
 have h6' : de = .none := by cases de <;> first | rfl | cases h6
 subst h6'
 subst h2
 have e1 := lookup_zip hl hn
 unfold bindArgs
 change (if (decide (vals.length > (ar.map (·.arg)).length) && true) = true then _ else _) = _
 refine (if_neg (by rw [hl]; simp)).trans ?_
 have e2' : ∀ k, (List.filter (fun n => (((ar.map (·.arg)).zip vals).lookup n).isNone) ((ar.map (·.arg)).take k)) = [] := fun k => List.filter_eq_nil_iff.mpr fun n hx => by rw [lookup_all hl n (List.mem_of_mem_take hx)]; decide
 change (if (!(List.filter (fun n => (((ar.map (·.arg)).zip vals).lookup n).isNone) (List.take _ (ar.map (·.arg)))).isEmpty) = true then _ else _) = _
 refine (if_neg (by rw [e2']; decide)).trans ?_
 refine fz.trans ?_
 change (pure (List.filterMap (fun n => (((ar.map (·.arg)).zip vals).lookup n).map (n, ·)) (ar.map (·.arg) ++ [])) : Sem (List (Str × Value))) = (pure ((ar.map (·.arg)).zip vals) : Sem (List (Str × Value)))
 rw [List.append_nil, e1]
noncomputable def conIs (K : Frag) (x : Str) (i : Int) : Bool := match nsIn K mainGlobals x with
 | some (some (.int j _)) => j == i
 | _ => false
set_option tactic.hygienic true in
theorem con_of {K : Frag} {x : Str} {i : Int} (h : conIs K x i = true) : ∃ t, nsIn K mainGlobals x = some (some (.int i t)) := by
 unfold conIs at h
 split at h
 · rename_i j t e
   rw [beq_iff_eq] at h
   subst h; exact ⟨t, e⟩
 · cases h
noncomputable def conAll (K : Frag) : Bool := conTab.all fun p => conIs K p.1 p.2
noncomputable def bisAll (K : Frag) : Bool := biTab.all fun p => nsIn K mainGlobals p.1 == some Option.none
noncomputable def attAll (K : Frag) : Bool := attrTab.all fun p => p.2.all fun x => attrStat K (gad K p.1) x
noncomputable def metAll (K : Frag) : Bool := methTab.all fun p => p.2.all fun x => methStat K p.1 x
noncomputable def fnsAll (K : Frag) : Bool := fnTab.all fun x => nsIn K mainGlobals x == some (some (.ref (gad K x))) && keepIn K (.ref (gad K x))
theorem att_of {K : Frag} (h : attAll K = true) : ∀ C x, attrOk C x = true → attrStat K (gad K C) x = true := by
 intro C x hx
 unfold attrOk at hx
 unfold attAll at h
 rw [List.any_eq_true] at hx
 revert hx; refine xE1 fun p => aE2 fun hp hx => ?_
 rw [Bool.and_eq_true, decide_eq_true_eq, List.any_eq_true] at hx
 revert hx; refine aE2 fun oy0 oy1 => ?_; obtain rfl := oy0; revert oy1; refine xE1 fun y => aE2 fun hy hx => ?_
 rw [decide_eq_true_eq] at hx
 subst hx
 rw [List.all_eq_true] at h
 have := h p hp
 rw [List.all_eq_true] at this
 exact this y hy
theorem met_of {K : Frag} (h : metAll K = true) : ∀ C x, methOk C x = true → methStat K C x = true := by
 intro C x hx
 unfold methOk at hx
 unfold metAll at h
 rw [List.any_eq_true] at hx
 revert hx; refine xE1 fun p => aE2 fun hp hx => ?_
 rw [Bool.and_eq_true, decide_eq_true_eq, List.any_eq_true] at hx
 revert hx; refine aE2 fun oy0 oy1 => ?_; obtain rfl := oy0; revert oy1; refine xE1 fun y => aE2 fun hy hx => ?_
 rw [decide_eq_true_eq] at hx
 subst hx
 rw [List.all_eq_true] at h
 have := h p hp
 rw [List.all_eq_true] at this
 exact this y hy
theorem fns_of {K : Frag} (h : fnsAll K = true) : ∀ x, fnOk x = true → nsIn K mainGlobals x = some (some (.ref (gad K x))) ∧ keepIn K (.ref (gad K x)) = true := by
 intro x hx
 unfold fnOk at hx
 unfold fnsAll at h
 rw [List.any_eq_true] at hx
 revert hx; refine xE1 fun y => aE2 fun hy hx => ?_
 rw [decide_eq_true_eq] at hx
 subst hx
 rw [List.all_eq_true] at h
 have := h y hy
 rw [Bool.and_eq_true, beq_iff_eq] at this
 exact this
noncomputable def b_mated_in : PSs :=
 (.cons (.ret (.bin .Sub (.loc "ply") (.glob "MATE" 32000)))
   .nil)
noncomputable def b_mate_in : PSs :=
 (.cons (.ret (.bin .Sub (.glob "MATE" 32000) (.loc "ply")))
   .nil)
noncomputable def b_to_table : PSs :=
 (.cons (.ite (.cmp .GtE (.loc "value") (.glob "MATE_LEAST" 31754)) (.cons (.ret (.bin .Add (.loc "value") (.loc "ply")))
   .nil) .nil)
   (.cons (.ite (.cmp .LtE (.loc "value") (.neg (.glob "MATE_LEAST" 31754))) (.cons (.ret (.bin .Sub (.loc "value") (.loc "ply")))
   .nil) .nil)
   (.cons (.ret (.loc "value"))
   .nil)))
noncomputable def b_from_table : PSs :=
 (.cons (.ite (.cmp .GtE (.loc "value") (.glob "MATE_LEAST" 31754)) (.cons (.ret (.bin .Sub (.loc "value") (.loc "ply")))
   .nil) .nil)
   (.cons (.ite (.cmp .LtE (.loc "value") (.neg (.glob "MATE_LEAST" 31754))) (.cons (.ret (.bin .Add (.loc "value") (.loc "ply")))
   .nil) .nil)
   (.cons (.ret (.loc "value"))
   .nil)))
noncomputable def b_pack_entry : PSs :=
 (.cons (.ite (.cmp .Lt (.loc "key") (.int 0)) (.cons .stop
   .nil) .nil)
   (.cons (.ite (.bop .Or (.cons (.cmp .Lt (.loc "move") (.int 0)) (.cons (.cmp .Gt (.loc "move") (.int 65535)) .nil))) (.cons .stop
   .nil) .nil)
   (.cons (.ite (.bop .Or (.cons (.cmp .Lt (.loc "value") (.neg (.glob "VALUE_MOST" 32767))) (.cons (.cmp .Gt (.loc "value") (.glob "VALUE_MOST" 32767)) .nil))) (.cons .stop
   .nil) .nil)
   (.cons (.ite (.bop .Or (.cons (.cmp .Lt (.loc "depth") (.glob "DEPTH_LEAST" (-8))) (.cons (.cmp .Gt (.loc "depth") (.glob "DEPTH_MOST" 247)) .nil))) (.cons .stop
   .nil) .nil)
   (.cons (.ite (.bop .Or (.cons (.cmp .Lt (.loc "bound") (.glob "BOUND_NONE" 0)) (.cons (.cmp .Gt (.loc "bound") (.glob "BOUND_EXACT" 3)) .nil))) (.cons .stop
   .nil) .nil)
   (.cons (.ite (.bop .Or (.cons (.cmp .Lt (.loc "age") (.int 0)) (.cons (.cmp .GtE (.loc "age") (.glob "AGES" 64)) .nil))) (.cons .stop
   .nil) .nil)
   (.cons (.asgn "low" (.bin .BitOr (.bin .BitOr (.loc "move") (.bin .LShift (.bin .Add (.bin .Add (.loc "value") (.glob "VALUE_MOST" 32767)) (.int 1)) (.int 16))) (.bin .LShift (.bin .Sub (.loc "depth") (.glob "DEPTH_LEAST" (-8))) (.int 32))))
   (.cons (.ret (.bin .BitOr (.bin .BitOr (.bin .BitOr (.loc "low") (.bin .LShift (.loc "bound") (.int 40))) (.bin .LShift (.loc "age") (.int 42))) (.bin .LShift (.loc "key") (.glob "KEY_AT" 48))))
   .nil))))))))
noncomputable def b_unpack_entry : PSs :=
 (.cons (.asgn "move" (.bin .BitAnd (.loc "entry") (.int 65535)))
   (.cons (.asgn "value" (.bin .Sub (.bin .Sub (.bin .BitAnd (.bin .RShift (.loc "entry") (.int 16)) (.int 65535)) (.glob "VALUE_MOST" 32767)) (.int 1)))
   (.cons (.asgn "depth" (.bin .Add (.bin .BitAnd (.bin .RShift (.loc "entry") (.int 32)) (.int 255)) (.glob "DEPTH_LEAST" (-8))))
   (.cons (.ret (.tup (.cons (.bin .RShift (.loc "entry") (.glob "KEY_AT" 48)) (.cons (.loc "move") (.cons (.loc "value") (.cons (.loc "depth") (.cons (.bin .BitAnd (.bin .RShift (.loc "entry") (.int 40)) (.int 3)) (.cons (.bin .BitAnd (.bin .RShift (.loc "entry") (.int 42)) (.int 63)) .nil))))))))
   .nil))))
noncomputable def b_find_slot : PSs :=
 (.cons (.for_ "at" (.bi .range (.cons (.loc "start") (.cons (.bin .Add (.loc "start") (.loc "ways")) .nil))) (.cons (.ite (.bop .And (.cons (.cmp .NotEq (.sub (.loc "slots") (.loc "at")) (.int 0)) (.cons (.cmp .Eq (.bin .RShift (.sub (.loc "slots") (.loc "at")) (.glob "KEY_AT" 48)) (.loc "key")) .nil))) (.cons (.ret (.loc "at"))
   .nil) .nil)
   .nil))
   (.cons (.ret (.neg (.int 1)))
   .nil))
noncomputable def b_worth : PSs :=
 (.cons (.ret (.bin .Sub (.sub (.call "unpack_entry" (.cons (.loc "entry") .nil)) (.int 3)) (.bin .Mult (.int 8) (.bin .Mod (.bin .Sub (.loc "age") (.bin .BitAnd (.bin .RShift (.loc "entry") (.int 42)) (.int 63))) (.glob "AGES" 64)))))
   .nil)
noncomputable def b_victim_slot : PSs :=
 (.cons (.asgn "found" (.loc "start"))
   (.cons (.for_ "at" (.bi .range (.cons (.loc "start") (.cons (.bin .Add (.loc "start") (.loc "ways")) .nil))) (.cons (.ite (.cmp .Eq (.sub (.loc "slots") (.loc "at")) (.int 0)) (.cons (.ret (.loc "at"))
   .nil) .nil)
   (.cons (.ite (.cmp .Lt (.call "worth" (.cons (.sub (.loc "slots") (.loc "at")) (.cons (.loc "age") .nil))) (.call "worth" (.cons (.sub (.loc "slots") (.loc "found")) (.cons (.loc "age") .nil)))) (.cons (.asgn "found" (.loc "at"))
   .nil) .nil)
   .nil)))
   (.cons (.ret (.loc "found"))
   .nil)))
noncomputable def b_pushes_out : PSs :=
 (.cons (.ite (.bop .Or (.cons (.cmp .Eq (.loc "bound") (.glob "BOUND_EXACT" 3)) (.cons (.cmp .NotEq (.bin .BitAnd (.bin .RShift (.loc "entry") (.int 42)) (.int 63)) (.loc "age")) .nil))) (.cons (.ret (.bool true))
   .nil) .nil)
   (.cons (.ret (.cmp .Gt (.loc "depth") (.bin .Sub (.sub (.call "unpack_entry" (.cons (.loc "entry") .nil)) (.int 3)) (.int 4))))
   .nil))
noncomputable def b_with_move : PSs :=
 (.cons (.ret (.bin .Add (.bin .Sub (.loc "entry") (.bin .BitAnd (.loc "entry") (.int 65535))) (.loc "move")))
   .nil)
noncomputable def b_cutoff : PSs :=
 (.cons (.ite (.bop .And (.cons (.loc "is_exact") (.cons (.cmp .NotEq (.loc "depth") (.loc "want")) .nil))) (.cons (.ret (.bool false))
   .nil) .nil)
   (.cons (.ite (.cmp .Lt (.loc "depth") (.loc "want")) (.cons (.ret (.bool false))
   .nil) .nil)
   (.cons (.ite (.cmp .Eq (.loc "bound") (.glob "BOUND_EXACT" 3)) (.cons (.ret (.bool true))
   .nil) .nil)
   (.cons (.ite (.cmp .Eq (.loc "bound") (.glob "BOUND_LOWER" 2)) (.cons (.ret (.cmp .GtE (.loc "value") (.loc "beta")))
   .nil) .nil)
   (.cons (.ite (.cmp .Eq (.loc "bound") (.glob "BOUND_UPPER" 1)) (.cons (.ret (.cmp .LtE (.loc "value") (.loc "alpha")))
   .nil) .nil)
   (.cons (.ret (.bool false))
   .nil))))))
noncomputable def b_step_into : PSs :=
 (.cons (.expr (.meth (.attr (.loc "ctx") "game") "make" (.cons (.loc "move") .nil)))
   (.cons (.augA (.loc "ctx") "made" .Add (.int 1))
   .nil))
noncomputable def b_step_back : PSs :=
 (.cons (.expr (.meth (.attr (.loc "ctx") "game") "undo" .nil))
   (.cons (.augA (.loc "ctx") "made" .Sub (.int 1))
   .nil))
noncomputable def b_clear_line : PSs :=
 (.cons (.whl (.cmp .LtE (.bi .len (.cons (.attr (.loc "ctx") "lines") .nil)) (.loc "ply")) (.cons (.expr (.meth (.attr (.loc "ctx") "lines") "append" (.cons (.lst .nil) .nil)))
   .nil))
   (.cons (.asgnS (.attr (.loc "ctx") "lines") (.loc "ply") (.lst .nil))
   .nil))
noncomputable def b_set_line : PSs :=
 (.cons (.asgnS (.attr (.loc "ctx") "lines") (.loc "ply") (.bin .Add (.lst (.cons (.loc "move") .nil)) (.sub (.attr (.loc "ctx") "lines") (.bin .Add (.loc "ply") (.int 1)))))
   .nil)
noncomputable def b_scale_down : PSs :=
 (.cons (.ite (.cmp .Lt (.loc "value") (.int 0)) (.cons (.ret (.neg (.bin .FloorDiv (.bin .Mult (.neg (.loc "value")) (.loc "by")) (.loc "limit"))))
   .nil) .nil)
   (.cons (.ret (.bin .FloorDiv (.bin .Mult (.loc "value") (.loc "by")) (.loc "limit")))
   .nil))
noncomputable def b_reward : PSs :=
 (.cons (.expr (.meth (.loc "killers") "add" (.cons (.loc "ply") (.cons (.loc "best") .nil))))
   (.cons (.asgn "bonus" (.meth (.loc "history") "bonus" (.cons (.loc "depth") .nil)))
   (.cons (.expr (.meth (.loc "history") "update" (.cons (.loc "side") (.cons (.loc "best") (.cons (.loc "bonus") .nil)))))
   (.cons (.for_ "move" (.loc "tried") (.cons (.ite (.cmp .NotEq (.loc "move") (.loc "best")) (.cons (.expr (.meth (.loc "history") "update" (.cons (.loc "side") (.cons (.loc "move") (.cons (.neg (.loc "bonus")) .nil)))))
   .nil) .nil)
   .nil))
   .nil))))
noncomputable def b_killer_pair : PSs :=
 (.cons (.ite (.cmp .Is (.loc "killers") .none) (.cons (.ret (.tup (.cons (.glob "NO_MOVE" 0) (.cons (.glob "NO_MOVE" 0) .nil))))
   .nil) .nil)
   (.cons (.ret (.meth (.loc "killers") "pair" (.cons (.loc "ply") .nil)))
   .nil))
noncomputable def b_past_score : PSs :=
 (.cons (.ite (.cmp .Is (.loc "history") .none) (.cons (.ret (.int 0))
   .nil) .nil)
   (.cons (.ret (.meth (.loc "history") "get" (.cons (.loc "side") (.cons (.loc "move") .nil))))
   .nil))
noncomputable def b_take_best : PSs :=
 (.cons (.asgn "best" (.int 0))
   (.cons (.for_ "at" (.bi .range (.cons (.int 1) (.cons (.bi .len (.cons (.loc "scored") .nil)) .nil))) (.cons (.ite (.cmp .Gt (.sub (.sub (.loc "scored") (.loc "at")) (.int 0)) (.sub (.sub (.loc "scored") (.loc "best")) (.int 0))) (.cons (.asgn "best" (.loc "at"))
   .nil) .nil)
   .nil))
   (.cons (.ret (.sub (.meth (.loc "scored") "pop" (.cons (.loc "best") .nil)) (.int 1)))
   .nil)))
noncomputable def b_quiesce : PSs :=
 (.cons (.expr (.meth (.loc "ctx") "tick" .nil))
   (.cons (.asgn "game" (.attr (.loc "ctx") "game"))
   (.cons (.ite (.bop .And (.cons (.cmp .Gt (.loc "ply") (.int 0)) (.cons (.meth (.loc "game") "is_draw" .nil) .nil))) (.cons (.ret (.glob "DRAW" 0))
   .nil) .nil)
   (.cons (.ite (.meth (.loc "game") "in_check" .nil) (.cons (.asgn "moves" (.meth (.loc "game") "moves" .nil))
   (.cons (.ite (.not (.loc "moves")) (.cons (.ret (.call "mated_in" (.cons (.loc "ply") .nil)))
   .nil) .nil)
   (.cons (.ite (.cmp .LtE (.loc "qdepth") (.int 0)) (.cons (.ret (.meth (.loc "game") "value" .nil))
   .nil) .nil)
   (.cons (.ret (.call "quiesce_moves" (.cons (.loc "ctx") (.cons (.loc "moves") (.cons (.neg (.glob "INFINITE" 32001)) (.cons (.loc "alpha") (.cons (.loc "beta") (.cons (.loc "ply") (.cons (.loc "qdepth") .nil)))))))))
   .nil)))) .nil)
   (.cons (.asgn "best" (.meth (.loc "game") "value" .nil))
   (.cons (.ite (.bop .Or (.cons (.cmp .LtE (.loc "qdepth") (.int 0)) (.cons (.cmp .GtE (.loc "best") (.loc "beta")) .nil))) (.cons (.ret (.loc "best"))
   .nil) .nil)
   (.cons (.ret (.call "quiesce_moves" (.cons (.loc "ctx") (.cons (.meth (.loc "game") "noisy" .nil) (.cons (.loc "best") (.cons (.bi .max (.cons (.loc "alpha") (.cons (.loc "best") .nil))) (.cons (.loc "beta") (.cons (.loc "ply") (.cons (.loc "qdepth") .nil)))))))))
   .nil)))))))
noncomputable def b_quiesce_moves : PSs :=
 (.cons (.asgn "picker" (.call "Picker" (.cons (.attr (.loc "ctx") "game") (.cons (.loc "moves") (.cons (.glob "NO_MOVE" 0) (.cons (.attr (.loc "ctx") "killers") (.cons (.attr (.loc "ctx") "history") (.cons (.loc "ply") .nil))))))))
   (.cons (.asgn "move" (.meth (.loc "picker") "next" .nil))
   (.cons (.whl (.cmp .NotEq (.loc "move") (.glob "NO_MOVE" 0)) (.cons (.expr (.call "step_into" (.cons (.loc "ctx") (.cons (.loc "move") .nil))))
   (.cons (.asgn "value" (.neg (.call "quiesce" (.cons (.loc "ctx") (.cons (.neg (.loc "beta")) (.cons (.neg (.loc "alpha")) (.cons (.bin .Add (.loc "ply") (.int 1)) (.cons (.bin .Sub (.loc "qdepth") (.int 1)) .nil))))))))
   (.cons (.expr (.call "step_back" (.cons (.loc "ctx") .nil)))
   (.cons (.ite (.cmp .Gt (.loc "value") (.loc "best")) (.cons (.asgn "best" (.loc "value"))
   (.cons (.ite (.cmp .GtE (.loc "value") (.loc "beta")) (.cons (.ret (.loc "best"))
   .nil) .nil)
   (.cons (.asgn "alpha" (.bi .max (.cons (.loc "alpha") (.cons (.loc "value") .nil))))
   .nil))) .nil)
   (.cons (.asgn "move" (.meth (.loc "picker") "next" .nil))
   .nil))))))
   (.cons (.ret (.loc "best"))
   .nil))))
noncomputable def b_search : PSs :=
 (.cons (.expr (.call "clear_line" (.cons (.loc "ctx") (.cons (.loc "ply") .nil))))
   (.cons (.ite (.cmp .LtE (.loc "depth") (.int 0)) (.cons (.ret (.call "quiesce" (.cons (.loc "ctx") (.cons (.loc "alpha") (.cons (.loc "beta") (.cons (.loc "ply") (.cons (.attr (.loc "ctx") "qdepth") .nil)))))))
   .nil) .nil)
   (.cons (.expr (.meth (.loc "ctx") "tick" .nil))
   (.cons (.asgn "game" (.attr (.loc "ctx") "game"))
   (.cons (.ite (.bop .And (.cons (.cmp .Gt (.loc "ply") (.int 0)) (.cons (.meth (.loc "game") "is_draw" .nil) .nil))) (.cons (.ret (.glob "DRAW" 0))
   .nil) .nil)
   (.cons (.asgn "low" (.call "mated_in" (.cons (.loc "ply") .nil)))
   (.cons (.asgn "high" (.call "mate_in" (.cons (.bin .Add (.loc "ply") (.int 1)) .nil)))
   (.cons (.ite (.cmp .GtE (.loc "alpha") (.loc "high")) (.cons (.ret (.loc "high"))
   .nil) .nil)
   (.cons (.ite (.cmp .LtE (.loc "beta") (.loc "low")) (.cons (.ret (.loc "low"))
   .nil) .nil)
   (.cons (.asgn "alpha" (.bi .max (.cons (.loc "alpha") (.cons (.loc "low") .nil))))
   (.cons (.asgn "beta" (.bi .min (.cons (.loc "beta") (.cons (.loc "high") .nil))))
   (.cons (.asgn "key" (.meth (.loc "game") "key" .nil))
   (.cons (.asgnT ["table_move","value"] (.call "look_up" (.cons (.loc "ctx") (.cons (.loc "key") (.cons (.loc "alpha") (.cons (.loc "beta") (.cons (.loc "depth") (.cons (.loc "ply") .nil))))))))
   (.cons (.ite (.bop .And (.cons (.cmp .IsNot (.loc "value") .none) (.cons (.not (.loc "is_pv")) .nil))) (.cons (.ret (.loc "value"))
   .nil) .nil)
   (.cons (.ite (.bop .And (.cons (.loc "is_pv") (.cons (.cmp .Eq (.loc "table_move") (.glob "NO_MOVE" 0)) (.cons (.cmp .GtE (.loc "depth") (.glob "IID_DEPTH" 4)) (.cons (.cmp .IsNot (.attr (.loc "ctx") "table") .none) .nil))))) (.cons (.expr (.call "search" (.cons (.loc "ctx") (.cons (.loc "alpha") (.cons (.loc "beta") (.cons (.bin .Sub (.loc "depth") (.int 2)) (.cons (.loc "ply") (.cons (.loc "is_pv") .nil))))))))
   (.cons (.asgnT ["table_move","value"] (.call "look_up" (.cons (.loc "ctx") (.cons (.loc "key") (.cons (.loc "alpha") (.cons (.loc "beta") (.cons (.loc "depth") (.cons (.loc "ply") .nil))))))))
   (.cons (.expr (.call "clear_line" (.cons (.loc "ctx") (.cons (.loc "ply") .nil))))
   .nil))) .nil)
   (.cons (.asgn "moves" (.meth (.loc "game") "moves" .nil))
   (.cons (.ite (.not (.loc "moves")) (.cons (.ite (.meth (.loc "game") "in_check" .nil) (.cons (.ret (.call "mated_in" (.cons (.loc "ply") .nil)))
   .nil) .nil)
   (.cons (.ret (.glob "DRAW" 0))
   .nil)) .nil)
   (.cons (.ret (.call "search_moves" (.cons (.loc "ctx") (.cons (.loc "moves") (.cons (.loc "table_move") (.cons (.loc "key") (.cons (.loc "alpha") (.cons (.loc "beta") (.cons (.loc "depth") (.cons (.loc "ply") (.cons (.loc "is_pv") .nil)))))))))))
   .nil))))))))))))))))))
noncomputable def b_search_moves : PSs :=
 (.cons (.asgn "game" (.attr (.loc "ctx") "game"))
   (.cons (.ite (.cmp .IsNot (.attr (.loc "ctx") "killers") .none) (.cons (.expr (.meth (.attr (.loc "ctx") "killers") "clear" (.cons (.bin .Add (.loc "ply") (.int 2)) .nil)))
   .nil) .nil)
   (.cons (.asgn "side" (.meth (.loc "game") "side" .nil))
   (.cons (.asgn "picker" (.call "Picker" (.cons (.loc "game") (.cons (.loc "moves") (.cons (.loc "table_move") (.cons (.attr (.loc "ctx") "killers") (.cons (.attr (.loc "ctx") "history") (.cons (.loc "ply") .nil))))))))
   (.cons (.asgn "start" (.loc "alpha"))
   (.cons (.asgn "best" (.neg (.glob "INFINITE" 32001)))
   (.cons (.asgn "best_move" (.glob "NO_MOVE" 0))
   (.cons (.asgn "quiets" (.lst .nil))
   (.cons (.asgn "is_first" (.bool true))
   (.cons (.asgn "move" (.meth (.loc "picker") "next" .nil))
   (.cons (.whl (.cmp .NotEq (.loc "move") (.glob "NO_MOVE" 0)) (.cons (.asgn "is_noisy" (.meth (.loc "game") "is_noisy" (.cons (.loc "move") .nil)))
   (.cons (.expr (.call "step_into" (.cons (.loc "ctx") (.cons (.loc "move") .nil))))
   (.cons (.asgn "value" (.call "search_child" (.cons (.loc "ctx") (.cons (.loc "alpha") (.cons (.loc "beta") (.cons (.loc "depth") (.cons (.loc "ply") (.cons (.loc "is_pv") (.cons (.loc "is_first") .nil)))))))))
   (.cons (.expr (.call "step_back" (.cons (.loc "ctx") .nil)))
   (.cons (.asgn "is_first" (.bool false))
   (.cons (.ite (.cmp .Gt (.loc "value") (.loc "best")) (.cons (.asgn "best" (.loc "value"))
   .nil) .nil)
   (.cons (.ite (.cmp .Gt (.loc "value") (.loc "alpha")) (.cons (.asgn "best_move" (.loc "move"))
   (.cons (.ite (.loc "is_pv") (.cons (.expr (.call "set_line" (.cons (.loc "ctx") (.cons (.loc "ply") (.cons (.loc "move") .nil)))))
   .nil) .nil)
   (.cons (.ite (.cmp .GtE (.loc "value") (.loc "beta")) (.cons (.ite (.bop .And (.cons (.not (.loc "is_noisy")) (.cons (.cmp .IsNot (.attr (.loc "ctx") "history") .none) (.cons (.cmp .IsNot (.attr (.loc "ctx") "killers") .none) .nil)))) (.cons (.expr (.call "reward" (.cons (.attr (.loc "ctx") "history") (.cons (.attr (.loc "ctx") "killers") (.cons (.loc "side") (.cons (.loc "ply") (.cons (.loc "depth") (.cons (.loc "move") (.cons (.loc "quiets") .nil)))))))))
   .nil) .nil)
   (.cons .brk
   .nil)) .nil)
   (.cons (.asgn "alpha" (.loc "value"))
   .nil)))) .nil)
   (.cons (.ite (.not (.loc "is_noisy")) (.cons (.expr (.meth (.loc "quiets") "append" (.cons (.loc "move") .nil)))
   .nil) .nil)
   (.cons (.asgn "move" (.meth (.loc "picker") "next" .nil))
   .nil))))))))))
   (.cons (.expr (.call "keep_value" (.cons (.loc "ctx") (.cons (.loc "key") (.cons (.loc "best_move") (.cons (.loc "best") (.cons (.loc "start") (.cons (.loc "beta") (.cons (.loc "depth") (.cons (.loc "ply") .nil))))))))))
   (.cons (.ret (.loc "best"))
   .nil)))))))))))))
noncomputable def b_search_child : PSs :=
 (.cons (.ite (.loc "is_first") (.cons (.ret (.neg (.call "search" (.cons (.loc "ctx") (.cons (.neg (.loc "beta")) (.cons (.neg (.loc "alpha")) (.cons (.bin .Sub (.loc "depth") (.int 1)) (.cons (.bin .Add (.loc "ply") (.int 1)) (.cons (.loc "is_pv") .nil)))))))))
   .nil) .nil)
   (.cons (.asgn "value" (.neg (.call "search" (.cons (.loc "ctx") (.cons (.bin .Sub (.neg (.loc "alpha")) (.int 1)) (.cons (.neg (.loc "alpha")) (.cons (.bin .Sub (.loc "depth") (.int 1)) (.cons (.bin .Add (.loc "ply") (.int 1)) (.cons (.bool false) .nil)))))))))
   (.cons (.ite (.bop .And (.cons (.cmp .Lt (.loc "alpha") (.loc "value")) (.cons (.cmp .Lt (.loc "value") (.loc "beta")) .nil))) (.cons (.asgn "value" (.neg (.call "search" (.cons (.loc "ctx") (.cons (.neg (.loc "beta")) (.cons (.neg (.loc "alpha")) (.cons (.bin .Sub (.loc "depth") (.int 1)) (.cons (.bin .Add (.loc "ply") (.int 1)) (.cons (.loc "is_pv") .nil)))))))))
   .nil) .nil)
   (.cons (.ret (.loc "value"))
   .nil))))
noncomputable def b_look_up : PSs :=
 (.cons (.ite (.cmp .Is (.attr (.loc "ctx") "table") .none) (.cons (.ret (.tup (.cons (.glob "NO_MOVE" 0) (.cons .none .nil))))
   .nil) .nil)
   (.cons (.asgn "found" (.meth (.attr (.loc "ctx") "table") "probe" (.cons (.loc "key") .nil)))
   (.cons (.ite (.cmp .Is (.loc "found") .none) (.cons (.ret (.tup (.cons (.glob "NO_MOVE" 0) (.cons .none .nil))))
   .nil) .nil)
   (.cons (.asgn "value" (.call "from_table" (.cons (.sub (.loc "found") (.int 1)) (.cons (.loc "ply") .nil))))
   (.cons (.ite (.call "cutoff" (.cons (.loc "value") (.cons (.sub (.loc "found") (.int 2)) (.cons (.sub (.loc "found") (.int 3)) (.cons (.loc "depth") (.cons (.attr (.loc "ctx") "is_exact") (.cons (.loc "alpha") (.cons (.loc "beta") .nil)))))))) (.cons (.ret (.tup (.cons (.sub (.loc "found") (.int 0)) (.cons (.loc "value") .nil))))
   .nil) .nil)
   (.cons (.ret (.tup (.cons (.sub (.loc "found") (.int 0)) (.cons .none .nil))))
   .nil))))))
noncomputable def b_keep_value : PSs :=
 (.cons (.ite (.cmp .Is (.attr (.loc "ctx") "table") .none) (.cons .ret0
   .nil) .nil)
   (.cons (.asgn "bound" (.glob "BOUND_EXACT" 3))
   (.cons (.ite (.cmp .GtE (.loc "best") (.loc "beta")) (.cons (.asgn "bound" (.glob "BOUND_LOWER" 2))
   .nil) (.cons (.ite (.cmp .LtE (.loc "best") (.loc "start")) (.cons (.asgn "bound" (.glob "BOUND_UPPER" 1))
   .nil) .nil)
   .nil))
   (.cons (.expr (.meth (.attr (.loc "ctx") "table") "save" (.cons (.loc "key") (.cons (.loc "move") (.cons (.call "to_table" (.cons (.loc "best") (.cons (.loc "ply") .nil))) (.cons (.loc "depth") (.cons (.loc "bound") .nil)))))))
   .nil))))
noncomputable def b__law_pull : PSs :=
 (.cons (.augS (.loc "reel") (.str "at") .Add (.int 1))
   (.cons (.ite (.cmp .LtE (.sub (.loc "reel") (.str "at")) (.bi .len (.cons (.sub (.loc "reel") (.str "numbers")) .nil))) (.cons (.ret (.bin .Mod (.sub (.sub (.loc "reel") (.str "numbers")) (.bin .Sub (.sub (.loc "reel") (.str "at")) (.int 1))) (.loc "many")))
   .nil) .nil)
   (.cons (.asgnS (.loc "reel") (.str "seed") (.bin .Mod (.bin .Add (.bin .Add (.bin .Mult (.sub (.loc "reel") (.str "seed")) (.int 1103)) (.bin .Mult (.int 337) (.sub (.loc "reel") (.str "at")))) (.int 12)) (.int 65537)))
   (.cons (.ret (.bin .Mod (.bin .FloorDiv (.sub (.loc "reel") (.str "seed")) (.int 7)) (.loc "many")))
   .nil))))
noncomputable def b__law_ways : PSs :=
 (.cons (.asgn "ways" (.lst .nil))
   (.cons (.asgn "left" (.int 7))
   (.cons (.for_ "place" (.bi .range (.cons (.loc "size") .nil)) (.cons (.asgn "row" (.lst .nil))
   (.cons (.for_ "turn" (.bi .range (.cons (.bi .min (.cons (.loc "left") (.cons (.sub (.lst (.cons (.int 2) (.cons (.int 1) (.cons (.int 3) (.cons (.int 2) (.cons (.int 0) .nil)))))) (.call "_law_pull" (.cons (.loc "reel") (.cons (.int 5) .nil)))) .nil))) .nil)) (.cons (.expr (.meth (.loc "row") "append" (.cons (.bi .min (.cons (.bin .Add (.bin .Add (.loc "place") (.int 1)) (.call "_law_pull" (.cons (.loc "reel") (.cons (.int 3) .nil)))) (.cons (.bin .Sub (.loc "size") (.int 1)) .nil))) .nil)))
   .nil))
   (.cons (.asgn "row" (.ite (.cmp .Eq (.loc "place") (.bin .Sub (.loc "size") (.int 1))) (.lst .nil) (.loc "row")))
   (.cons (.augN "left" .Sub (.bi .len (.cons (.loc "row") .nil)))
   (.cons (.expr (.meth (.loc "ways") "append" (.cons (.loc "row") .nil)))
   .nil))))))
   (.cons (.ret (.loc "ways"))
   .nil))))
noncomputable def b__law_world : PSs :=
 (.cons (.asgn "size" (.bin .Add (.int 2) (.call "_law_pull" (.cons (.loc "reel") (.cons (.int 6) .nil)))))
   (.cons (.asgn "ways" (.call "_law_ways" (.cons (.loc "reel") (.cons (.loc "size") .nil))))
   (.cons (.asgn "world" (.dict (.cons "ways" (.loc "ways") (.cons "values" (.comp (.bin .Sub (.call "_law_pull" (.cons (.loc "reel") (.cons (.int 61) .nil))) (.int 30)) "place" (.bi .range (.cons (.loc "size") .nil)) .nil) (.cons "checks" (.lst .nil) (.cons "draws" (.lst .nil) (.cons "noisy" (.lst .nil) (.cons "gains" (.lst .nil) .nil))))))))
   (.cons (.for_ "row" (.loc "ways") (.cons (.asgn "marks" (.call "_law_pull" (.cons (.loc "reel") (.cons (.int 10) .nil))))
   (.cons (.expr (.meth (.sub (.loc "world") (.str "checks")) "append" (.cons (.cmp .In (.loc "marks") (.tup (.cons (.int 1) (.cons (.int 2) (.cons (.int 3) .nil))))) .nil)))
   (.cons (.expr (.meth (.sub (.loc "world") (.str "draws")) "append" (.cons (.cmp .Eq (.loc "marks") (.int 4)) .nil)))
   (.cons (.asgn "loud" (.comp (.call "_law_pull" (.cons (.loc "reel") (.cons (.int 6) .nil))) "move" (.loc "row") .nil))
   (.cons (.expr (.meth (.sub (.loc "world") (.str "noisy")) "append" (.cons (.comp (.cmp .Gt (.loc "one") (.int 3)) "one" (.loc "loud") .nil) .nil)))
   (.cons (.expr (.meth (.sub (.loc "world") (.str "gains")) "append" (.cons (.comp (.bin .Sub (.bin .Mult (.int 3) (.loc "one")) (.int 13)) "one" (.loc "loud") .nil) .nil)))
   .nil)))))))
   (.cons (.ret (.loc "world"))
   .nil)))))
noncomputable def b__law_raised : PSs :=
 (.cons (.asgn "merit" (.neg (.loc "merit")))
   (.cons (.ite (.cmp .Lt (.bi .abs (.cons (.loc "merit") .nil)) (.int 30000)) (.cons (.ret (.loc "merit"))
   .nil) .nil)
   (.cons (.ret (.ite (.cmp .Gt (.loc "merit") (.int 0)) (.bin .Sub (.loc "merit") (.int 1)) (.bin .Add (.loc "merit") (.int 1))))
   .nil)))
noncomputable def b__law_quiet_rows : PSs :=
 (.cons (.asgn "size" (.bi .len (.cons (.sub (.loc "world") (.str "ways")) .nil)))
   (.cons (.asgn "rows" (.lst .nil))
   (.cons (.for_ "plies" (.bi .range (.cons (.bin .Add (.loc "most") (.int 1)) .nil)) (.cons (.asgn "row" (.bin .Mult (.lst (.cons (.int 0) .nil)) (.loc "size")))
   (.cons (.for_ "place" (.bi .range (.cons (.bin .Sub (.loc "size") (.int 1)) (.cons (.neg (.int 1)) (.cons (.neg (.int 1)) .nil)))) (.cons (.asgnS (.loc "row") (.loc "place") (.call "_law_quiet" (.cons (.loc "world") (.cons (.loc "rows") (.cons (.loc "place") (.cons (.loc "plies") .nil))))))
   .nil))
   (.cons (.expr (.meth (.loc "rows") "append" (.cons (.loc "row") .nil)))
   .nil))))
   (.cons (.ret (.loc "rows"))
   .nil))))
noncomputable def b__law_quiet : PSs :=
 (.cons (.ite (.bop .And (.cons (.sub (.sub (.loc "world") (.str "draws")) (.loc "place")) (.cons (.cmp .Gt (.loc "place") (.int 0)) .nil))) (.cons (.ret (.int 0))
   .nil) .nil)
   (.cons (.asgn "ways" (.sub (.sub (.loc "world") (.str "ways")) (.loc "place")))
   (.cons (.asgn "still" (.sub (.sub (.loc "world") (.str "values")) (.loc "place")))
   (.cons (.ite (.sub (.sub (.loc "world") (.str "checks")) (.loc "place")) (.cons (.ite (.cmp .Eq (.loc "ways") (.lst .nil)) (.cons (.ret (.neg (.glob "_law_mate" 32000)))
   .nil) .nil)
   (.cons (.ret (.ite (.cmp .Eq (.loc "plies") (.int 0)) (.loc "still") (.bi .max (.cons (.comp (.call "_law_raised" (.cons (.sub (.sub (.loc "rows") (.bin .Sub (.loc "plies") (.int 1))) (.loc "child")) .nil)) "child" (.loc "ways") .nil) .nil))))
   .nil)) .nil)
   (.cons (.ite (.cmp .Eq (.loc "plies") (.int 0)) (.cons (.ret (.loc "still"))
   .nil) .nil)
   (.cons (.asgn "loud" (.comp (.sub (.loc "ways") (.loc "at")) "at" (.bi .range (.cons (.bi .len (.cons (.loc "ways") .nil)) .nil)) (.cons (.sub (.sub (.sub (.loc "world") (.str "noisy")) (.loc "place")) (.loc "at")) .nil)))
   (.cons (.ret (.bi .max (.cons (.bin .Add (.lst (.cons (.loc "still") .nil)) (.comp (.call "_law_raised" (.cons (.sub (.sub (.loc "rows") (.bin .Sub (.loc "plies") (.int 1))) (.loc "child")) .nil)) "child" (.loc "loud") .nil)) .nil)))
   .nil)))))))
noncomputable def b__law_deep_rows : PSs :=
 (.cons (.asgn "rows" (.lst (.cons (.loc "leaf") .nil)))
   (.cons (.for_ "depth" (.bi .range (.cons (.int 1) (.cons (.bin .Add (.loc "most") (.int 1)) .nil))) (.cons (.asgn "row" (.lst .nil))
   (.cons (.for_ "place" (.bi .range (.cons (.bi .len (.cons (.loc "leaf") .nil)) .nil)) (.cons (.asgn "ways" (.sub (.sub (.loc "world") (.str "ways")) (.loc "place")))
   (.cons (.ite (.bop .And (.cons (.sub (.sub (.loc "world") (.str "draws")) (.loc "place")) (.cons (.cmp .Gt (.loc "place") (.int 0)) .nil))) (.cons (.expr (.meth (.loc "row") "append" (.cons (.int 0) .nil)))
   .nil) (.cons (.ite (.cmp .Eq (.loc "ways") (.lst .nil)) (.cons (.expr (.meth (.loc "row") "append" (.cons (.ite (.sub (.sub (.loc "world") (.str "checks")) (.loc "place")) (.neg (.glob "_law_mate" 32000)) (.int 0)) .nil)))
   .nil) (.cons (.expr (.meth (.loc "row") "append" (.cons (.bi .max (.cons (.comp (.call "_law_raised" (.cons (.sub (.sub (.loc "rows") (.bin .Sub (.loc "depth") (.int 1))) (.loc "child")) .nil)) "child" (.loc "ways") .nil) .nil)) .nil)))
   .nil))
   .nil))
   .nil)))
   (.cons (.expr (.meth (.loc "rows") "append" (.cons (.loc "row") .nil)))
   .nil))))
   (.cons (.ret (.loc "rows"))
   .nil)))
noncomputable def b__law_window : PSs :=
 (.cons (.asgn "sort" (.call "_law_pull" (.cons (.loc "reel") (.cons (.int 5) .nil))))
   (.cons (.ite (.cmp .Lt (.loc "sort") (.int 2)) (.cons (.ret (.tup (.cons (.bin .Sub (.neg (.glob "_law_mate" 32000)) (.int 1)) (.cons (.bin .Add (.glob "_law_mate" 32000) (.int 1)) .nil))))
   .nil) .nil)
   (.cons (.ite (.cmp .Eq (.loc "sort") (.int 2)) (.cons (.asgn "low" (.bin .Add (.bin .Sub (.glob "_law_mate" 32000) (.int 8)) (.call "_law_pull" (.cons (.loc "reel") (.cons (.int 9) .nil)))))
   (.cons (.ret (.tup (.cons (.loc "low") (.cons (.bin .Add (.loc "low") (.int 1)) .nil))))
   .nil)) .nil)
   (.cons (.ite (.bop .And (.cons (.cmp .Eq (.loc "sort") (.int 3)) (.cons (.cmp .Eq (.call "_law_pull" (.cons (.loc "reel") (.cons (.int 3) .nil))) (.int 0)) .nil))) (.cons (.ret (.tup (.cons (.bin .Sub (.neg (.glob "_law_mate" 32000)) (.int 1)) (.cons (.bin .Add (.bin .Sub (.int 1) (.glob "_law_mate" 32000)) (.call "_law_pull" (.cons (.loc "reel") (.cons (.int 6) .nil)))) .nil))))
   .nil) .nil)
   (.cons (.asgn "low" (.bin .Add (.bin .Sub (.loc "merit") (.int 6)) (.call "_law_pull" (.cons (.loc "reel") (.cons (.int 12) .nil)))))
   (.cons (.ret (.tup (.cons (.loc "low") (.cons (.bin .Add (.bin .Add (.loc "low") (.int 1)) (.call "_law_pull" (.cons (.loc "reel") (.cons (.int 8) .nil)))) .nil))))
   .nil))))))
noncomputable def b__law_is_told_well : PSs :=
 (.cons (.ite (.cmp .LtE (.loc "told") (.loc "low")) (.cons (.ret (.cmp .LtE (.loc "merit") (.loc "told")))
   .nil) .nil)
   (.cons (.ret (.ite (.cmp .GtE (.loc "told") (.loc "high")) (.cmp .GtE (.loc "merit") (.loc "told")) (.cmp .Eq (.loc "told") (.loc "merit"))))
   .nil))
noncomputable def b__law_leads : PSs :=
 (.cons (.ite (.cmp .Gt (.bi .len (.cons (.loc "trail") .nil)) (.loc "depth")) (.cons (.ret (.bool false))
   .nil) .nil)
   (.cons (.asgn "place" (.int 0))
   (.cons (.for_ "move" (.loc "trail") (.cons (.ite (.bop .Or (.cons (.bop .And (.cons (.cmp .Gt (.loc "place") (.int 0)) (.cons (.sub (.sub (.loc "world") (.str "draws")) (.loc "place")) .nil))) (.cons (.not (.cmp2 .Lt .LtE (.int 0) (.loc "move") (.bi .len (.cons (.sub (.sub (.loc "world") (.str "ways")) (.loc "place")) .nil)))) .nil))) (.cons (.ret (.bool false))
   .nil) .nil)
   (.cons (.asgn "place" (.sub (.sub (.sub (.loc "world") (.str "ways")) (.loc "place")) (.bin .Sub (.loc "move") (.int 1))))
   .nil)))
   (.cons (.asgn "merit" (.sub (.sub (.loc "deep") (.bin .Sub (.loc "depth") (.bi .len (.cons (.loc "trail") .nil)))) (.loc "place")))
   (.cons (.for_ "move" (.loc "trail") (.cons (.asgn "merit" (.call "_law_raised" (.cons (.loc "merit") .nil)))
   .nil))
   (.cons (.ret (.cmp .Eq (.loc "merit") (.loc "told")))
   .nil))))))
noncomputable def b__law_rows_are_true : PSs :=
 (.cons (.for_ "place" (.bi .range (.cons (.bi .len (.cons (.sub (.loc "world") (.str "ways")) .nil)) .nil)) (.cons (.asgn "row" (.meth (.loc "table") "probe" (.cons (.bin .Add (.loc "place") (.int 1)) .nil)))
   (.cons (.ite (.cmp .Is (.loc "row") .none) (.cons .cont
   .nil) .nil)
   (.cons (.asgnT ["move","told","depth","bound"] (.loc "row"))
   (.cons (.asgn "merit" (.sub (.sub (.loc "deep") (.loc "depth")) (.loc "place")))
   (.cons (.ite (.not (.cmp2 .LtE .LtE (.int 0) (.loc "move") (.bi .len (.cons (.sub (.sub (.loc "world") (.str "ways")) (.loc "place")) .nil)))) (.cons (.ret (.bool false))
   .nil) .nil)
   (.cons (.ite (.bop .Or (.cons (.bop .And (.cons (.cmp .Eq (.loc "bound") (.glob "BOUND_EXACT" 3)) (.cons (.cmp .NotEq (.loc "told") (.loc "merit")) .nil))) (.cons (.bop .And (.cons (.cmp .Eq (.loc "bound") (.glob "BOUND_LOWER" 2)) (.cons (.cmp .Gt (.loc "told") (.loc "merit")) .nil))) .nil))) (.cons (.ret (.bool false))
   .nil) .nil)
   (.cons (.ite (.bop .And (.cons (.cmp .NotIn (.loc "bound") (.tup (.cons (.glob "BOUND_EXACT" 3) (.cons (.glob "BOUND_LOWER" 2) .nil)))) (.cons (.cmp .Lt (.loc "told") (.loc "merit")) .nil))) (.cons (.ret (.bool false))
   .nil) .nil)
   .nil))))))))
   (.cons (.ret (.bool true))
   .nil))
noncomputable def b_law : PSs :=
 (.cons (.asgn "reel" (.dict (.cons "numbers" (.slc (.loc "script") 60) (.cons "at" (.int 0) (.cons "seed" (.int 91) .nil)))))
   (.cons (.asgn "world" (.call "_law_world" (.cons (.loc "reel") .nil)))
   (.cons (.asgn "plies" (.call "_law_pull" (.cons (.loc "reel") (.cons (.int 3) .nil))))
   (.cons (.asgn "deep" (.call "_law_deep_rows" (.cons (.loc "world") (.cons (.sub (.call "_law_quiet_rows" (.cons (.loc "world") (.cons (.loc "plies") .nil))) (.loc "plies")) (.cons (.int 5) .nil)))))
   (.cons (.asgn "game" (.call "TreeGame" (.cons (.sub (.loc "world") (.str "ways")) (.cons (.sub (.loc "world") (.str "values")) (.cons (.sub (.loc "world") (.str "checks")) (.cons (.sub (.loc "world") (.str "draws")) (.cons (.sub (.loc "world") (.str "noisy")) (.cons (.sub (.loc "world") (.str "gains")) .nil))))))))
   (.cons (.asgn "table" (.ite (.cmp .NotEq (.call "_law_pull" (.cons (.loc "reel") (.cons (.int 4) .nil))) (.int 3)) (.call "TransTable" (.cons (.bin .Add (.int 1) (.call "_law_pull" (.cons (.loc "reel") (.cons (.int 4) .nil)))) (.cons (.bin .Add (.int 1) (.call "_law_pull" (.cons (.loc "reel") (.cons (.int 2) .nil)))) .nil))) .none))
   (.cons (.asgn "has_past" (.cmp .NotEq (.call "_law_pull" (.cons (.loc "reel") (.cons (.int 3) .nil))) (.int 2)))
   (.cons (.asgn "killers" (.ite (.loc "has_past") (.call "Killers" (.cons (.call "_law_pull" (.cons (.loc "reel") (.cons (.int 7) .nil))) .nil)) .none))
   (.cons (.asgn "ctx" (.call "SearchContext" (.cons (.loc "game") (.cons (.loc "table") (.cons (.loc "killers") (.cons (.ite (.loc "has_past") (.call "History" (.cons (.bin .Add (.int 1) (.call "_law_pull" (.cons (.loc "reel") (.cons (.int 90) .nil)))) .nil)) .none) (.cons (.loc "plies") (.cons (.bool true) (.cons (.int 0) .nil)))))))))
   (.cons (.for_ "turn" (.bi .range (.cons (.int 2) .nil)) (.cons (.asgn "depth" (.bin .Sub (.int 5) (.call "_law_pull" (.cons (.loc "reel") (.cons (.int 6) .nil)))))
   (.cons (.asgnT ["low","high"] (.call "_law_window" (.cons (.loc "reel") (.cons (.sub (.sub (.loc "deep") (.loc "depth")) (.int 0)) .nil))))
   (.cons (.asgn "is_main" (.cmp .NotEq (.call "_law_pull" (.cons (.loc "reel") (.cons (.int 3) .nil))) (.int 2)))
   (.cons (.asgn "told" (.call "search" (.cons (.loc "ctx") (.cons (.loc "low") (.cons (.loc "high") (.cons (.loc "depth") (.cons (.int 0) (.cons (.loc "is_main") .nil))))))))
   (.cons (.ite (.bop .Or (.cons (.not (.call "_law_is_told_well" (.cons (.loc "told") (.cons (.sub (.sub (.loc "deep") (.loc "depth")) (.int 0)) (.cons (.loc "low") (.cons (.loc "high") .nil)))))) (.cons (.cmp .NotEq (.attr (.loc "game") "path") (.lst (.cons (.int 0) .nil))) (.cons (.cmp .NotEq (.attr (.loc "ctx") "made") (.int 0)) .nil)))) (.cons (.ret (.bool false))
   .nil) .nil)
   (.cons (.ite (.bop .And (.cons (.loc "is_main") (.cons (.cmp2 .Lt .Lt (.loc "low") (.loc "told") (.loc "high")) (.cons (.not (.call "_law_leads" (.cons (.loc "world") (.cons (.loc "deep") (.cons (.sub (.attr (.loc "ctx") "lines") (.int 0)) (.cons (.loc "depth") (.cons (.loc "told") .nil))))))) .nil)))) (.cons (.ret (.bool false))
   .nil) .nil)
   (.cons (.ite (.bop .And (.cons (.cmp .IsNot (.loc "table") .none) (.cons (.not (.call "_law_rows_are_true" (.cons (.loc "world") (.cons (.loc "deep") (.cons (.loc "table") .nil))))) .nil))) (.cons (.ret (.bool false))
   .nil) .nil)
   (.cons (.ite (.bop .And (.cons (.cmp .IsNot (.loc "table") .none) (.cons (.cmp .Eq (.call "_law_pull" (.cons (.loc "reel") (.cons (.int 2) .nil))) (.int 1)) .nil))) (.cons (.expr (.meth (.loc "table") "new_search" .nil))
   .nil) .nil)
   .nil)))))))))
   (.cons (.ret (.bool true))
   .nil)))))))))))
noncomputable def b_SearchContext___init__ : PSs :=
 (.cons (.asgnA (.loc "self") "game" (.loc "game"))
   (.cons (.asgnA (.loc "self") "table" (.loc "table"))
   (.cons (.asgnA (.loc "self") "killers" (.loc "killers"))
   (.cons (.asgnA (.loc "self") "history" (.loc "history"))
   (.cons (.asgnA (.loc "self") "qdepth" (.loc "qdepth"))
   (.cons (.asgnA (.loc "self") "is_exact" (.loc "is_exact"))
   (.cons (.asgnA (.loc "self") "max_nodes" (.loc "max_nodes"))
   (.cons (.asgnA (.loc "self") "nodes" (.int 0))
   (.cons (.asgnA (.loc "self") "made" (.int 0))
   (.cons (.asgnA (.loc "self") "lines" (.lst (.cons (.lst .nil) .nil)))
   .nil))))))))))
noncomputable def b_SearchContext_tick : PSs :=
 (.cons (.ite (.bop .And (.cons (.cmp .Gt (.attr (.loc "self") "max_nodes") (.int 0)) (.cons (.cmp .GtE (.attr (.loc "self") "nodes") (.attr (.loc "self") "max_nodes")) .nil))) (.cons .stop
   .nil) .nil)
   (.cons (.augA (.loc "self") "nodes" .Add (.int 1))
   .nil))
noncomputable def b_History___init__ : PSs :=
 (.cons (.ite (.cmp .Lt (.loc "limit") (.int 1)) (.cons .stop
   .nil) .nil)
   (.cons (.asgnA (.loc "self") "limit" (.loc "limit"))
   (.cons (.asgnA (.loc "self") "scores" (.dict .nil))
   .nil)))
noncomputable def b_History_get : PSs :=
 (.cons (.ret (.meth (.attr (.loc "self") "scores") "get" (.cons (.bin .Add (.bin .Mult (.loc "side") (.int 65536)) (.loc "move")) (.cons (.int 0) .nil))))
   .nil)
noncomputable def b_History_update : PSs :=
 (.cons (.asgn "bonus" (.bi .max (.cons (.neg (.attr (.loc "self") "limit")) (.cons (.bi .min (.cons (.attr (.loc "self") "limit") (.cons (.loc "bonus") .nil))) .nil))))
   (.cons (.asgn "at" (.bin .Add (.bin .Mult (.loc "side") (.int 65536)) (.loc "move")))
   (.cons (.asgn "old" (.meth (.attr (.loc "self") "scores") "get" (.cons (.loc "at") (.cons (.int 0) .nil))))
   (.cons (.asgnS (.attr (.loc "self") "scores") (.loc "at") (.bin .Sub (.bin .Add (.loc "old") (.loc "bonus")) (.call "scale_down" (.cons (.loc "old") (.cons (.bi .abs (.cons (.loc "bonus") .nil)) (.cons (.attr (.loc "self") "limit") .nil))))))
   .nil))))
noncomputable def b_History_bonus : PSs :=
 (.cons (.ret (.bi .min (.cons (.attr (.loc "self") "limit") (.cons (.bin .Add (.bin .Mult (.bin .Mult (.int 16) (.loc "depth")) (.loc "depth")) (.bin .Mult (.int 32) (.loc "depth"))) .nil))))
   .nil)
noncomputable def b_Killers___init__ : PSs :=
 (.cons (.asgnA (.loc "self") "plies" (.loc "plies"))
   (.cons (.asgnA (.loc "self") "first" (.bin .Mult (.lst (.cons (.glob "NO_MOVE" 0) .nil)) (.loc "plies")))
   (.cons (.asgnA (.loc "self") "second" (.bin .Mult (.lst (.cons (.glob "NO_MOVE" 0) .nil)) (.loc "plies")))
   .nil)))
noncomputable def b_Killers_add : PSs :=
 (.cons (.ite (.bop .And (.cons (.cmp .Lt (.loc "ply") (.attr (.loc "self") "plies")) (.cons (.cmp .NotEq (.sub (.attr (.loc "self") "first") (.loc "ply")) (.loc "move")) .nil))) (.cons (.asgnS (.attr (.loc "self") "second") (.loc "ply") (.sub (.attr (.loc "self") "first") (.loc "ply")))
   (.cons (.asgnS (.attr (.loc "self") "first") (.loc "ply") (.loc "move"))
   .nil)) .nil)
   .nil)
noncomputable def b_Killers_pair : PSs :=
 (.cons (.ite (.cmp .Lt (.loc "ply") (.attr (.loc "self") "plies")) (.cons (.ret (.tup (.cons (.sub (.attr (.loc "self") "first") (.loc "ply")) (.cons (.sub (.attr (.loc "self") "second") (.loc "ply")) .nil))))
   .nil) .nil)
   (.cons (.ret (.tup (.cons (.glob "NO_MOVE" 0) (.cons (.glob "NO_MOVE" 0) .nil))))
   .nil))
noncomputable def b_Killers_clear : PSs :=
 (.cons (.ite (.cmp .Lt (.loc "ply") (.attr (.loc "self") "plies")) (.cons (.asgnS (.attr (.loc "self") "first") (.loc "ply") (.glob "NO_MOVE" 0))
   (.cons (.asgnS (.attr (.loc "self") "second") (.loc "ply") (.glob "NO_MOVE" 0))
   .nil)) .nil)
   .nil)
noncomputable def b_TransTable___init__ : PSs :=
 (.cons (.ite (.bop .Or (.cons (.cmp .Lt (.loc "clusters") (.int 1)) (.cons (.cmp .Lt (.loc "ways") (.int 1)) .nil))) (.cons .stop
   .nil) .nil)
   (.cons (.asgnA (.loc "self") "clusters" (.loc "clusters"))
   (.cons (.asgnA (.loc "self") "ways" (.loc "ways"))
   (.cons (.asgnA (.loc "self") "age" (.int 0))
   (.cons (.asgnA (.loc "self") "slots" (.bin .Mult (.lst (.cons (.int 0) .nil)) (.bin .Mult (.loc "clusters") (.loc "ways"))))
   .nil)))))
noncomputable def b_TransTable_probe : PSs :=
 (.cons (.asgn "at" (.call "find_slot" (.cons (.attr (.loc "self") "slots") (.cons (.bin .Mult (.bin .Mod (.loc "key") (.attr (.loc "self") "clusters")) (.attr (.loc "self") "ways")) (.cons (.attr (.loc "self") "ways") (.cons (.loc "key") .nil))))))
   (.cons (.ite (.cmp .Lt (.loc "at") (.int 0)) (.cons (.ret .none)
   .nil) .nil)
   (.cons (.asgn "row" (.call "unpack_entry" (.cons (.sub (.attr (.loc "self") "slots") (.loc "at")) .nil)))
   (.cons (.ret (.tup (.cons (.sub (.loc "row") (.int 1)) (.cons (.sub (.loc "row") (.int 2)) (.cons (.sub (.loc "row") (.int 3)) (.cons (.sub (.loc "row") (.int 4)) .nil))))))
   .nil))))
noncomputable def b_TransTable_save : PSs :=
 (.cons (.asgn "entry" (.call "pack_entry" (.cons (.loc "key") (.cons (.loc "move") (.cons (.loc "value") (.cons (.loc "depth") (.cons (.loc "bound") (.cons (.attr (.loc "self") "age") .nil))))))))
   (.cons (.asgn "start" (.bin .Mult (.bin .Mod (.loc "key") (.attr (.loc "self") "clusters")) (.attr (.loc "self") "ways")))
   (.cons (.asgn "at" (.call "find_slot" (.cons (.attr (.loc "self") "slots") (.cons (.loc "start") (.cons (.attr (.loc "self") "ways") (.cons (.loc "key") .nil))))))
   (.cons (.ite (.cmp .Lt (.loc "at") (.int 0)) (.cons (.asgn "at" (.call "victim_slot" (.cons (.attr (.loc "self") "slots") (.cons (.loc "start") (.cons (.attr (.loc "self") "ways") (.cons (.attr (.loc "self") "age") .nil))))))
   (.cons (.asgnS (.attr (.loc "self") "slots") (.loc "at") (.loc "entry"))
   (.cons .ret0
   .nil))) .nil)
   (.cons (.asgn "old" (.sub (.attr (.loc "self") "slots") (.loc "at")))
   (.cons (.ite (.cmp .Eq (.loc "move") (.glob "NO_MOVE" 0)) (.cons (.asgn "entry" (.call "with_move" (.cons (.loc "entry") (.cons (.bin .BitAnd (.loc "old") (.int 65535)) .nil))))
   .nil) .nil)
   (.cons (.ite (.call "pushes_out" (.cons (.loc "old") (.cons (.loc "depth") (.cons (.loc "bound") (.cons (.attr (.loc "self") "age") .nil))))) (.cons (.asgnS (.attr (.loc "self") "slots") (.loc "at") (.loc "entry"))
   .nil) (.cons (.asgnS (.attr (.loc "self") "slots") (.loc "at") (.call "with_move" (.cons (.loc "old") (.cons (.bin .BitAnd (.loc "entry") (.int 65535)) .nil))))
   .nil))
   .nil)))))))
noncomputable def b_TransTable_new_search : PSs :=
 (.cons (.asgnA (.loc "self") "age" (.bin .Mod (.bin .Add (.attr (.loc "self") "age") (.int 1)) (.glob "AGES" 64)))
   .nil)
noncomputable def b_Picker___init__ : PSs :=
 (.cons (.asgnA (.loc "self") "game" (.loc "game"))
   (.cons (.asgnA (.loc "self") "left" (.bi .list (.cons (.loc "moves") .nil)))
   (.cons (.asgnA (.loc "self") "table_move" (.loc "table_move"))
   (.cons (.asgnA (.loc "self") "killers" (.loc "killers"))
   (.cons (.asgnA (.loc "self") "history" (.loc "history"))
   (.cons (.asgnA (.loc "self") "ply" (.loc "ply"))
   (.cons (.asgnA (.loc "self") "stage" (.glob "TABLE_STAGE" 0))
   (.cons (.asgnA (.loc "self") "ready" (.lst .nil))
   (.cons (.asgnA (.loc "self") "losing" (.lst .nil))
   .nil)))))))))
noncomputable def b_Picker_next : PSs :=
 (.cons (.whl (.not (.attr (.loc "self") "ready")) (.cons (.ite (.cmp .Eq (.attr (.loc "self") "stage") (.glob "END_STAGE" 5)) (.cons (.ret (.glob "NO_MOVE" 0))
   .nil) .nil)
   (.cons (.asgnA (.loc "self") "ready" (.meth (.loc "self") "fill" (.cons (.attr (.loc "self") "stage") .nil)))
   (.cons (.augA (.loc "self") "stage" .Add (.int 1))
   .nil))))
   (.cons (.ret (.call "take_best" (.cons (.attr (.loc "self") "ready") .nil)))
   .nil))
noncomputable def b_Picker_fill : PSs :=
 (.cons (.ite (.cmp .Eq (.loc "stage") (.glob "TABLE_STAGE" 0)) (.cons (.ret (.meth (.loc "self") "fill_table" .nil))
   .nil) .nil)
   (.cons (.ite (.cmp .Eq (.loc "stage") (.glob "GOOD_STAGE" 1)) (.cons (.ret (.meth (.loc "self") "fill_good" .nil))
   .nil) .nil)
   (.cons (.ite (.cmp .Eq (.loc "stage") (.glob "KILLER_STAGE" 2)) (.cons (.ret (.meth (.loc "self") "fill_killers" .nil))
   .nil) .nil)
   (.cons (.ite (.cmp .Eq (.loc "stage") (.glob "QUIET_STAGE" 3)) (.cons (.asgn "side" (.meth (.attr (.loc "self") "game") "side" .nil))
   (.cons (.ret (.comp (.tup (.cons (.call "past_score" (.cons (.attr (.loc "self") "history") (.cons (.loc "side") (.cons (.loc "move") .nil)))) (.cons (.loc "move") .nil))) "move" (.attr (.loc "self") "left") .nil))
   .nil)) .nil)
   (.cons (.ret (.attr (.loc "self") "losing"))
   .nil)))))
noncomputable def b_Picker_fill_table : PSs :=
 (.cons (.ite (.cmp .NotIn (.attr (.loc "self") "table_move") (.attr (.loc "self") "left")) (.cons (.ret (.lst .nil))
   .nil) .nil)
   (.cons (.expr (.meth (.attr (.loc "self") "left") "remove" (.cons (.attr (.loc "self") "table_move") .nil)))
   (.cons (.ret (.lst (.cons (.tup (.cons (.int 0) (.cons (.attr (.loc "self") "table_move") .nil))) .nil)))
   .nil)))
noncomputable def b_Picker_fill_good : PSs :=
 (.cons (.asgn "good" (.lst .nil))
   (.cons (.asgn "quiet" (.lst .nil))
   (.cons (.for_ "move" (.attr (.loc "self") "left") (.cons (.ite (.not (.meth (.attr (.loc "self") "game") "is_noisy" (.cons (.loc "move") .nil))) (.cons (.expr (.meth (.loc "quiet") "append" (.cons (.loc "move") .nil)))
   (.cons .cont
   .nil)) .nil)
   (.cons (.asgn "gain" (.meth (.attr (.loc "self") "game") "gain" (.cons (.loc "move") .nil)))
   (.cons (.ite (.cmp .GtE (.loc "gain") (.int 0)) (.cons (.expr (.meth (.loc "good") "append" (.cons (.tup (.cons (.loc "gain") (.cons (.loc "move") .nil))) .nil)))
   .nil) (.cons (.expr (.meth (.attr (.loc "self") "losing") "append" (.cons (.tup (.cons (.loc "gain") (.cons (.loc "move") .nil))) .nil)))
   .nil))
   .nil))))
   (.cons (.asgnA (.loc "self") "left" (.loc "quiet"))
   (.cons (.ret (.loc "good"))
   .nil)))))
noncomputable def b_Picker_fill_killers : PSs :=
 (.cons (.asgn "found" (.lst .nil))
   (.cons (.for_ "move" (.call "killer_pair" (.cons (.attr (.loc "self") "killers") (.cons (.attr (.loc "self") "ply") .nil))) (.cons (.ite (.cmp .In (.loc "move") (.attr (.loc "self") "left")) (.cons (.expr (.meth (.attr (.loc "self") "left") "remove" (.cons (.loc "move") .nil)))
   (.cons (.expr (.meth (.loc "found") "append" (.cons (.tup (.cons (.int 0) (.cons (.loc "move") .nil))) .nil)))
   .nil)) .nil)
   .nil))
   (.cons (.ret (.loc "found"))
   .nil)))
noncomputable def b_TreeGame___init__ : PSs :=
 (.cons (.asgnA (.loc "self") "children" (.loc "children"))
   (.cons (.asgnA (.loc "self") "values" (.loc "values"))
   (.cons (.asgnA (.loc "self") "checks" (.loc "checks"))
   (.cons (.asgnA (.loc "self") "draws" (.loc "draws"))
   (.cons (.asgnA (.loc "self") "noisy_rows" (.loc "noisy"))
   (.cons (.asgnA (.loc "self") "gain_rows" (.loc "gains"))
   (.cons (.asgnA (.loc "self") "path" (.lst (.cons (.int 0) .nil)))
   .nil)))))))
noncomputable def b_TreeGame_moves : PSs :=
 (.cons (.ret (.bi .list (.cons (.bi .range (.cons (.int 1) (.cons (.bin .Add (.bi .len (.cons (.sub (.attr (.loc "self") "children") (.sub (.attr (.loc "self") "path") (.neg (.int 1)))) .nil)) (.int 1)) .nil))) .nil)))
   .nil)
noncomputable def b_TreeGame_noisy : PSs :=
 (.cons (.ret (.comp (.loc "move") "move" (.meth (.loc "self") "moves" .nil) (.cons (.meth (.loc "self") "is_noisy" (.cons (.loc "move") .nil)) .nil)))
   .nil)
noncomputable def b_TreeGame_make : PSs :=
 (.cons (.asgn "kids" (.sub (.attr (.loc "self") "children") (.sub (.attr (.loc "self") "path") (.neg (.int 1)))))
   (.cons (.ite (.bop .Or (.cons (.cmp .Lt (.loc "move") (.int 1)) (.cons (.cmp .Gt (.loc "move") (.bi .len (.cons (.loc "kids") .nil))) .nil))) (.cons .stop
   .nil) .nil)
   (.cons (.expr (.meth (.attr (.loc "self") "path") "append" (.cons (.sub (.loc "kids") (.bin .Sub (.loc "move") (.int 1))) .nil)))
   .nil)))
noncomputable def b_TreeGame_undo : PSs :=
 (.cons (.ite (.cmp .Eq (.bi .len (.cons (.attr (.loc "self") "path") .nil)) (.int 1)) (.cons .stop
   .nil) .nil)
   (.cons (.expr (.meth (.attr (.loc "self") "path") "pop" .nil))
   .nil))
noncomputable def b_TreeGame_value : PSs :=
 (.cons (.ret (.sub (.attr (.loc "self") "values") (.sub (.attr (.loc "self") "path") (.neg (.int 1)))))
   .nil)
noncomputable def b_TreeGame_key : PSs :=
 (.cons (.ret (.bin .Add (.sub (.attr (.loc "self") "path") (.neg (.int 1))) (.int 1)))
   .nil)
noncomputable def b_TreeGame_in_check : PSs :=
 (.cons (.ret (.sub (.attr (.loc "self") "checks") (.sub (.attr (.loc "self") "path") (.neg (.int 1)))))
   .nil)
noncomputable def b_TreeGame_is_draw : PSs :=
 (.cons (.ret (.sub (.attr (.loc "self") "draws") (.sub (.attr (.loc "self") "path") (.neg (.int 1)))))
   .nil)
noncomputable def b_TreeGame_is_noisy : PSs :=
 (.cons (.ret (.sub (.sub (.attr (.loc "self") "noisy_rows") (.sub (.attr (.loc "self") "path") (.neg (.int 1)))) (.bin .Sub (.loc "move") (.int 1))))
   .nil)
noncomputable def b_TreeGame_gain : PSs :=
 (.cons (.ret (.sub (.sub (.attr (.loc "self") "gain_rows") (.sub (.attr (.loc "self") "path") (.neg (.int 1)))) (.bin .Sub (.loc "move") (.int 1))))
   .nil)
noncomputable def b_TreeGame_side : PSs :=
 (.cons (.ret (.bin .BitAnd (.bin .Sub (.bi .len (.cons (.attr (.loc "self") "path") .nil)) (.int 1)) (.int 1)))
   .nil)
theorem str_eq (a b : String) : (Str.ofString a = Str.ofString b) = (a = b) := by
 refine propext ⟨fun h => ?_, fun h => by rw [h]⟩
 rw [Str.ofString_eq_toList, Str.ofString_eq_toList] at h
 have h1 : a.toList.map Char.toNat = b.toList.map Char.toNat := by
   have := congrArg Str.cps h
   simpa using this
 have h2 : a.toList = b.toList := List.map_inj_right (fun x y e => by
   have : x.val.toNat = y.val.toNat := e
   exact Char.ext (UInt32.toNat_inj.mp this)) |>.mp h1
 exact String.toList_inj.mp h2
theorem str_ne {a b : String} (h : ¬ a = b) : ¬ (Str.ofString a = Str.ofString b) := by rw [str_eq]; exact h
theorem CallSat.up {W : Wld} {r : Nat} {f : CF} {args : List V} {σ : AH} {Q : V → AH → Prop} (h : CallSat W r f args σ Q) {r' : Nat} (hr : r ≤ r') : CallSat W r' f args σ Q :=
 fun A s vs R => h A s vs ⟨R.hd, by have := R.depth; lia, by have := R.units; lia⟩
noncomputable def callB (Z : CallP) (Q : V → AH → Prop) (_ : Blk Q) (f : CF) (vs : List V) (σ : AH) : Prop := Z f vs σ Q
noncomputable def iterB (body : Loc → AH → SQ → Prop) (Q : SQ) (_ : Blk body) (_ : Blk Q) (src : V) (whole : List V) (x : Str) (l : List V) (m : Loc) (σ : AH) : Prop := wpIter body src whole x l m σ Q
noncomputable def loopB (test : Loc → AH → (Bool → AH → Prop) → Prop) (body : Loc → AH → SQ → Prop) (Q : SQ) (_ : Blk test) (_ : Blk body) (_ : Blk Q) (m : Loc) (σ : AH) : Prop := ∃ n, wpLoop test body n m σ Q
noncomputable def compB (turn : Loc → AH → (Option V → AH → Prop) → Prop) (Q : List V → AH → Prop) (_ : Blk turn) (_ : Blk Q) (src : V) (whole : List V) (x : Str) (m : Loc) (l : List V) (σ : AH) (acc : List V) : Prop := wpComp turn src whole x m l σ acc Q
section
variable {α : Type} {K : α → Prop} {b : Blk K} {a : α}
theorem o_some : onS K b (some a) = K a := rfl
theorem q_some : onS K b (some a) = K a := propext ⟨id, id⟩
theorem o_int {K : Int → Prop} {b : Blk K} {i : Int} : onI K b (.int i) = K i := rfl
theorem q_int {K : Int → Prop} {b : Blk K} {i : Int} : onI K b (.int i) = K i := propext ⟨id, id⟩
theorem o_tup {K : List V → Prop} {b : Blk K} {l : List V} : onT K b (.tup l) = K l := rfl
theorem q_tup {K : List V → Prop} {b : Blk K} {l : List V} : onT K b (.tup l) = K l := propext ⟨id, id⟩
theorem o_inst {K : Str → Addr → Prop} {b : Blk K} {C d} : onN K b (.inst C d) = K C d := rfl
theorem q_inst {K : Str → Addr → Prop} {b : Blk K} {C d} : onN K b (.inst C d) = K C d := propext ⟨id, id⟩
theorem o_dict {K : List (Str × V) → Prop} {b : Blk K} {l} : onD K b (.dict l) = K l := rfl
theorem q_dict {K : List (Str × V) → Prop} {b : Blk K} {l} : onD K b (.dict l) = K l := propext ⟨id, id⟩
theorem o_fls {K : List V → Prop} {b : Blk K} {l} : onF K b (.flist l) = K l := rfl
theorem o_list {K : List V → Prop} {b : Blk K} {l} : onL K b (.list l) = K l := rfl
theorem q_list {K : List V → Prop} {b : Blk K} {l} : onL K b (.list l) = K l := propext ⟨id, id⟩
section
variable {A B : Prop} {x : Blk A} {y : Blk B} {p : Prop} {c : Bool}
theorem o_true : onC A B x y true = A := rfl
theorem q_true : onC A B x y true = A := propext ⟨id, id⟩
theorem o_false : onC A B x y false = B := rfl
theorem q_false : onC A B x y false = B := propext ⟨id, id⟩
theorem oa_true {A : Prop} {b : Blk A} : onA A b true = A := rfl
theorem o_dec [i : Decidable p] : onC A B x y (@decide p i) = ((p → A) ∧ (¬ p → B)) := by
 cases i with
 | isTrue h => exact propext ⟨fun q => ⟨fun _ => q, fun n => absurd h n⟩, fun q => q.1 h⟩
 | isFalse h => exact propext ⟨fun q => ⟨fun n => absurd n h, fun _ => q⟩, fun q => q.2 h⟩
theorem o_not : onC A B x y (!c) = ((c = false → A) ∧ (c = true → B)) := by cases c <;> simp [onC]
theorem oc_any : onC A B x y c = ((c = true → A) ∧ (c = false → B)) := by cases c <;> simp [onC]
end
theorem l_set {m : Loc} {x y : Str} {v : V} : Loc.set m x v y = pick (cd y == cd x) y x v m := rfl
theorem pk_f {m : Loc} {x y : Str} {v : V} : pick false y x v m = m y := rfl
theorem pk_t {m : Loc} {x y : Str} {v : V} : pick true y x v m = pk2 (sq y x) (some v) (m y) := rfl
theorem pk2_t {α : Type} {a b : α} : pk2 true a b = a := rfl
theorem pk2_f {α : Type} {a b : α} : pk2 false a b = b := rfl
theorem sA_cons {m : Loc} {x : Str} {xs v vs} : setAll m (x :: xs) (v :: vs) = setAll (m.set x v) xs vs := rfl
theorem sA_nil {m : Loc} : setAll m [] [] = m := rfl
theorem gf_cons {x y : Str} {v : V} {r : List (Str × V)} : getF ((y, v) :: r) x = pickF (cd y == cd x) y x (some v) (getF r x) := rfl
theorem gf_t {x y : Str} {v r : Option V} : pickF true y x v r = pk2 (sq y x) v r := rfl
theorem gf_f {x y : Str} {v r : Option V} : pickF false y x v r = r := rfl
theorem gf_nil {x : Str} : getF [] x = Option.none := rfl
theorem sf_cons {x y : Str} {u v : V} {r : List (Str × V)} : setF ((y, u) :: r) x v = pickS (cd y == cd x) y x ((x, v) :: r) ((y, u) :: setF r x v) := rfl
theorem sf_t {x y : Str} {a b : List (Str × V)} : pickS true y x a b = pk2 (sq y x) a b := rfl
theorem sf_f {x y : Str} {a b : List (Str × V)} : pickS false y x a b = b := rfl
theorem sf_nil {x : Str} {v : V} : setF [] x v = [(x, v)] := rfl
end
noncomputable def Kaf (Z : CallP) (r : PSs) (Q : SQ) (f : Fl) (m : Loc) (σ : AH) : Prop := aft (fun m σ => wpSs Z r m σ Q) Q f m σ
noncomputable def hi (p : Prop) : Prop := (fun (_ : CallP → PSs → SQ → SQ) => p) Kaf
noncomputable def Ka (Q : V → AH → Prop) (σ : AH) (v : V) : Prop := hi (Q v σ)
theorem Ka_q {Q : V → AH → Prop} {σ : AH} {v : V} : Ka Q σ v = (Q v σ) := rfl
noncomputable def Kbin2 (op : Operator) (a : V) (Q : V → AH → Prop) (b : V) (σ : AH) : Prop := hi (wpBin op a b σ Q)
theorem Kbin2_q {op : Operator} {a : V} {Q : V → AH → Prop} {b : V} {σ : AH} : Kbin2 op a Q b σ = (wpBin op a b σ Q) := rfl
noncomputable def Kbin (Z : CallP) (op : Operator) (r : PE) (m : Loc) (Q : V → AH → Prop) (a : V) (σ : AH) : Prop := hi (wpE Z r m σ fun b σ => wpBin op a b σ Q)
theorem Kbin_q {Z : CallP} {op : Operator} {r : PE} {m : Loc} {Q : V → AH → Prop} {a : V} {σ : AH} : Kbin Z op r m Q a σ = (wpE Z r m σ (Kbin2 op a Q)) := rfl
noncomputable def Knot2 (Q : V → AH → Prop) (b : Bool) (σ : AH) : Prop := hi (Q (.bool (!b)) σ)
theorem Knot2_q {Q : V → AH → Prop} {b : Bool} {σ : AH} : Knot2 Q b σ = (Q (.bool (!b)) σ) := rfl
noncomputable def Knot (Q : V → AH → Prop) (v : V) (σ : AH) : Prop := hi (wpTruth v σ (Knot2 Q))
theorem Knot_q {Q : V → AH → Prop} {v : V} {σ : AH} : Knot Q v σ = (wpTruth v σ (Knot2 Q)) := rfl
noncomputable def Kneg (Q : V → AH → Prop) (v : V) (σ : AH) : Prop := hi (onI (fun i => Q (.int (-i)) σ) ⟨⟩ v)
theorem Kneg_q {Q : V → AH → Prop} {v : V} {σ : AH} : Kneg Q v σ = (onI (fun i => Q (.int (-i)) σ) ⟨⟩ v) := rfl
noncomputable def Kbl (Q : V → AH → Prop) (c : Bool) (σ : AH) : Prop := hi (Q (.bool c) σ)
theorem Kbl_q {Q : V → AH → Prop} {c : Bool} {σ : AH} : Kbl Q c σ = (Q (.bool c) σ) := rfl
noncomputable def Kcmp2 (op : CmpOp) (a : V) (Q : V → AH → Prop) (b : V) (σ : AH) : Prop := hi (wpCmp op a b σ (Kbl Q))
theorem Kcmp2_q {op : CmpOp} {a : V} {Q : V → AH → Prop} {b : V} {σ : AH} : Kcmp2 op a Q b σ = (wpCmp op a b σ (Kbl Q)) := rfl
noncomputable def Kcmp (Z : CallP) (op : CmpOp) (r : PE) (m : Loc) (Q : V → AH → Prop) (a : V) (σ : AH) : Prop := hi (wpE Z r m σ (Kcmp2 op a Q))
theorem Kcmp_q {Z : CallP} {op : CmpOp} {r : PE} {m : Loc} {Q : V → AH → Prop} {a : V} {σ : AH} : Kcmp Z op r m Q a σ = (wpE Z r m σ (Kcmp2 op a Q)) := rfl
noncomputable def Kite2 (Z : CallP) (b e : PE) (m : Loc) (Q : V → AH → Prop) (c : Bool) (σ : AH) : Prop := hi (onC (wpE Z b m σ Q) (wpE Z e m σ Q) ⟨⟩ ⟨⟩ c)
theorem Kite2_q {Z : CallP} {b e : PE} {m : Loc} {Q : V → AH → Prop} {c : Bool} {σ : AH} : Kite2 Z b e m Q c σ = (onC (wpE Z b m σ Q) (wpE Z e m σ Q) ⟨⟩ ⟨⟩ c) := rfl
noncomputable def Kite (Z : CallP) (b e : PE) (m : Loc) (Q : V → AH → Prop) (v : V) (σ : AH) : Prop := hi (wpTruth v σ (Kite2 Z b e m Q))
theorem Kite_q {Z : CallP} {b e : PE} {m : Loc} {Q : V → AH → Prop} {v : V} {σ : AH} : Kite Z b e m Q v σ = (wpTruth v σ (Kite2 Z b e m Q)) := rfl
noncomputable def Kattr (x : Str) (Q : V → AH → Prop) (v : V) (σ : AH) : Prop := hi (wpAttr v x σ Q)
theorem Kattr_q {x : Str} {Q : V → AH → Prop} {v : V} {σ : AH} : Kattr x Q v σ = (wpAttr v x σ Q) := rfl
noncomputable def Ksub2 (v : V) (Q : V → AH → Prop) (k : V) (σ : AH) : Prop := hi (wpSub v k σ Q)
theorem Ksub2_q {v : V} {Q : V → AH → Prop} {k : V} {σ : AH} : Ksub2 v Q k σ = (wpSub v k σ Q) := rfl
noncomputable def Ksub (Z : CallP) (i : PE) (m : Loc) (Q : V → AH → Prop) (v : V) (σ : AH) : Prop := hi (wpE Z i m σ (Ksub2 v Q))
theorem Ksub_q {Z : CallP} {i : PE} {m : Loc} {Q : V → AH → Prop} {v : V} {σ : AH} : Ksub Z i m Q v σ = (wpE Z i m σ (Ksub2 v Q)) := rfl
noncomputable def Kcall (Z : CallP) (f : Str) (Q : V → AH → Prop) (vs : List V) (σ : AH) : Prop := hi (callB Z Q ⟨⟩ (.fn f) vs σ)
theorem Kcall_q {Z : CallP} {f : Str} {Q : V → AH → Prop} {vs : List V} {σ : AH} : Kcall Z f Q vs σ = (callB Z Q ⟨⟩ (.fn f) vs σ) := rfl
noncomputable def Kbi (b : BI) (Q : V → AH → Prop) (vs : List V) (σ : AH) : Prop := hi (wpBi b vs σ Q)
theorem Kbi_q {b : BI} {Q : V → AH → Prop} {vs : List V} {σ : AH} : Kbi b Q vs σ = (wpBi b vs σ Q) := rfl
noncomputable def Kmeth3 (Z : CallP) (mk : MK) (v : V) (x : Str) (Q : V → AH → Prop) (vs : List V) (σ : AH) : Prop := hi (wpMeth Z mk v x vs σ Q)
theorem Kmeth3_q {Z : CallP} {mk : MK} {v : V} {x : Str} {Q : V → AH → Prop} {vs : List V} {σ : AH} : Kmeth3 Z mk v x Q vs σ = (wpMeth Z mk v x vs σ Q) := rfl
noncomputable def Kmeth2 (Z : CallP) (v : V) (x : Str) (es : PEs) (m : Loc) (σ : AH) (Q : V → AH → Prop) (mk : MK) : Prop := hi (wpEs Z es m σ (Kmeth3 Z mk v x Q))
theorem Kmeth2_q {Z : CallP} {v : V} {x : Str} {es : PEs} {m : Loc} {σ : AH} {Q : V → AH → Prop} {mk : MK} : Kmeth2 Z v x es m σ Q mk = (wpEs Z es m σ (Kmeth3 Z mk v x Q)) := rfl
noncomputable def Kmeth (Z : CallP) (x : Str) (es : PEs) (m : Loc) (Q : V → AH → Prop) (v : V) (σ : AH) : Prop := hi (onS (Kmeth2 Z v x es m σ Q) ⟨⟩ (methKind v x σ))
theorem Kmeth_q {Z : CallP} {x : Str} {es : PEs} {m : Loc} {Q : V → AH → Prop} {v : V} {σ : AH} : Kmeth Z x es m Q v σ = (onS (Kmeth2 Z v x es m σ Q) ⟨⟩ (methKind v x σ)) := rfl
noncomputable def Klst (Q : V → AH → Prop) (vs : List V) (σ : AH) : Prop := hi (sizeOk vs.length ∧ ∀ c, σ c = Option.none → Q (.ref c) (σ.set c (.list vs)))
theorem Klst_q {Q : V → AH → Prop} {vs : List V} {σ : AH} : Klst Q vs σ = (sizeOk vs.length ∧ ∀ c, σ c = Option.none → Q (.ref c) (σ.set c (.list vs))) := rfl
noncomputable def Ktup (Q : V → AH → Prop) (vs : List V) (σ : AH) : Prop := hi (sizeOk vs.length ∧ Q (.tup vs) σ)
theorem Ktup_q {Q : V → AH → Prop} {vs : List V} {σ : AH} : Ktup Q vs σ = (sizeOk vs.length ∧ Q (.tup vs) σ) := rfl
noncomputable def Kdict (Q : V → AH → Prop) (fs : List (Str × V)) (σ : AH) : Prop := hi ((fs.map (·.1)).Nodup ∧ ∀ c, σ c = Option.none → Q (.ref c) (σ.set c (.dict fs)))
theorem Kdict_q {Q : V → AH → Prop} {fs : List (Str × V)} {σ : AH} : Kdict Q fs σ = ((fs.map (·.1)).Nodup ∧ ∀ c, σ c = Option.none → Q (.ref c) (σ.set c (.dict fs))) := rfl
noncomputable def Kslc (n : Nat) (Q : V → AH → Prop) (v : V) (σ : AH) : Prop := hi (wpSlc v n σ Q)
theorem Kslc_q {n : Nat} {Q : V → AH → Prop} {v : V} {σ : AH} : Kslc n Q v σ = (wpSlc v n σ Q) := rfl
noncomputable def Kc0b (Z : CallP) (elt : PE) (x : Str) (m : Loc) (Q : V → AH → Prop) (v : V) (σ : AH) (l : List V) : Prop := hi (compB (fun m σ Q => wpE Z elt m σ fun u σ => Q (some u) σ) (fun us σ => ∀ c, σ c = Option.none → Q (.ref c) (σ.set c (.list us))) ⟨⟩ ⟨⟩ v l x m l σ [])
theorem Kc0b_q {Z : CallP} {elt : PE} {x : Str} {m : Loc} {Q : V → AH → Prop} {v : V} {σ : AH} {l : List V} : Kc0b Z elt x m Q v σ l = (compB (fun m σ Q => wpE Z elt m σ fun u σ => Q (some u) σ) (fun us σ => ∀ c, σ c = Option.none → Q (.ref c) (σ.set c (.list us))) ⟨⟩ ⟨⟩ v l x m l σ []) := rfl
noncomputable def Kc0 (Z : CallP) (elt : PE) (x : Str) (m : Loc) (Q : V → AH → Prop) (v : V) (σ : AH) : Prop := hi (onS (Kc0b Z elt x m Q v σ) ⟨⟩ (iterOf v σ))
theorem Kc0_q {Z : CallP} {elt : PE} {x : Str} {m : Loc} {Q : V → AH → Prop} {v : V} {σ : AH} : Kc0 Z elt x m Q v σ = (onS (Kc0b Z elt x m Q v σ) ⟨⟩ (iterOf v σ)) := rfl
noncomputable def Kc1b (Z : CallP) (elt : PE) (x : Str) (cnd : PE) (m : Loc) (Q : V → AH → Prop) (v : V) (σ : AH) (l : List V) : Prop := hi (compB (fun m σ Q => wpE Z cnd m σ fun t σ => wpTruth t σ fun b σ =>
   onC (wpE Z elt m σ fun u σ => Q (some u) σ) (Q Option.none σ) ⟨⟩ ⟨⟩ b) (fun us σ => ∀ c, σ c = Option.none → Q (.ref c) (σ.set c (.list us))) ⟨⟩ ⟨⟩ v l x m l σ [])
theorem Kc1b_q {Z : CallP} {elt : PE} {x : Str} {cnd : PE} {m : Loc} {Q : V → AH → Prop} {v : V} {σ : AH} {l : List V} : Kc1b Z elt x cnd m Q v σ l = (compB (fun m σ Q => wpE Z cnd m σ fun t σ => wpTruth t σ fun b σ =>
   onC (wpE Z elt m σ fun u σ => Q (some u) σ) (Q Option.none σ) ⟨⟩ ⟨⟩ b) (fun us σ => ∀ c, σ c = Option.none → Q (.ref c) (σ.set c (.list us))) ⟨⟩ ⟨⟩ v l x m l σ []) := rfl
noncomputable def Kc1 (Z : CallP) (elt : PE) (x : Str) (cnd : PE) (m : Loc) (Q : V → AH → Prop) (v : V) (σ : AH) : Prop := hi (onS (Kc1b Z elt x cnd m Q v σ) ⟨⟩ (iterOf v σ))
theorem Kc1_q {Z : CallP} {elt : PE} {x : Str} {cnd : PE} {m : Loc} {Q : V → AH → Prop} {v : V} {σ : AH} : Kc1 Z elt x cnd m Q v σ = (onS (Kc1b Z elt x cnd m Q v σ) ⟨⟩ (iterOf v σ)) := rfl
noncomputable def Kand2 (Z : CallP) (f : PE) (es : PEs) (m : Loc) (Q : V → AH → Prop) (v : V) (t : Bool) (σ : AH) : Prop := hi (onC (wpB Z .And (.cons f es) m σ Q) (Q v σ) ⟨⟩ ⟨⟩ t)
theorem Kand2_q {Z : CallP} {f : PE} {es : PEs} {m : Loc} {Q : V → AH → Prop} {v : V} {t : Bool} {σ : AH} : Kand2 Z f es m Q v t σ = (onC (wpB Z .And (.cons f es) m σ Q) (Q v σ) ⟨⟩ ⟨⟩ t) := rfl
noncomputable def Kand (Z : CallP) (f : PE) (es : PEs) (m : Loc) (Q : V → AH → Prop) (v : V) (σ : AH) : Prop := hi (wpTruth v σ (Kand2 Z f es m Q v))
theorem Kand_q {Z : CallP} {f : PE} {es : PEs} {m : Loc} {Q : V → AH → Prop} {v : V} {σ : AH} : Kand Z f es m Q v σ = (wpTruth v σ (Kand2 Z f es m Q v)) := rfl
noncomputable def Kor2 (Z : CallP) (f : PE) (es : PEs) (m : Loc) (Q : V → AH → Prop) (v : V) (t : Bool) (σ : AH) : Prop := hi (onC (Q v σ) (wpB Z .Or (.cons f es) m σ Q) ⟨⟩ ⟨⟩ t)
theorem Kor2_q {Z : CallP} {f : PE} {es : PEs} {m : Loc} {Q : V → AH → Prop} {v : V} {t : Bool} {σ : AH} : Kor2 Z f es m Q v t σ = (onC (Q v σ) (wpB Z .Or (.cons f es) m σ Q) ⟨⟩ ⟨⟩ t) := rfl
noncomputable def Kor (Z : CallP) (f : PE) (es : PEs) (m : Loc) (Q : V → AH → Prop) (v : V) (σ : AH) : Prop := hi (wpTruth v σ (Kor2 Z f es m Q v))
theorem Kor_q {Z : CallP} {f : PE} {es : PEs} {m : Loc} {Q : V → AH → Prop} {v : V} {σ : AH} : Kor Z f es m Q v σ = (wpTruth v σ (Kor2 Z f es m Q v)) := rfl
noncomputable def Kes2 (v : V) (Q : List V → AH → Prop) (vs : List V) (σ : AH) : Prop := hi (Q (v :: vs) σ)
theorem Kes2_q {v : V} {Q : List V → AH → Prop} {vs : List V} {σ : AH} : Kes2 v Q vs σ = (Q (v :: vs) σ) := rfl
noncomputable def Kes (Z : CallP) (es : PEs) (m : Loc) (Q : List V → AH → Prop) (v : V) (σ : AH) : Prop := hi (wpEs Z es m σ (Kes2 v Q))
theorem Kes_q {Z : CallP} {es : PEs} {m : Loc} {Q : List V → AH → Prop} {v : V} {σ : AH} : Kes Z es m Q v σ = (wpEs Z es m σ (Kes2 v Q)) := rfl
noncomputable def Kks2 (k : Str) (v : V) (Q : List (Str × V) → AH → Prop) (vs : List (Str × V)) (σ : AH) : Prop := hi (Q ((k, v) :: vs) σ)
theorem Kks2_q {k : Str} {v : V} {Q : List (Str × V) → AH → Prop} {vs : List (Str × V)} {σ : AH} : Kks2 k v Q vs σ = (Q ((k, v) :: vs) σ) := rfl
noncomputable def Kks (Z : CallP) (k : Str) (es : PKs) (m : Loc) (Q : List (Str × V) → AH → Prop) (v : V) (σ : AH) : Prop := hi (wpKs Z es m σ (Kks2 k v Q))
theorem Kks_q {Z : CallP} {k : Str} {es : PKs} {m : Loc} {Q : List (Str × V) → AH → Prop} {v : V} {σ : AH} : Kks Z k es m Q v σ = (wpKs Z es m σ (Kks2 k v Q)) := rfl
noncomputable def Ktr (Q : Bool → AH → Prop) (v : V) (σ : AH) : Prop := hi (wpTruth v σ Q)
theorem Ktr_q {Q : Bool → AH → Prop} {v : V} {σ : AH} : Ktr Q v σ = (wpTruth v σ Q) := rfl
noncomputable def Ktl (Q : Bool → AH → Prop) (σ : AH) (v : V) : Prop := hi (wpTruth v σ Q)
theorem Ktl_q {Q : Bool → AH → Prop} {σ : AH} {v : V} : Ktl Q σ v = (wpTruth v σ Q) := rfl
noncomputable def KnotT (Q : Bool → AH → Prop) (b : Bool) (σ : AH) : Prop := hi (Q (!b) σ)
theorem KnotT_q {Q : Bool → AH → Prop} {b : Bool} {σ : AH} : KnotT Q b σ = (Q (!b) σ) := rfl
noncomputable def KcT2 (op : CmpOp) (a : V) (Q : Bool → AH → Prop) (b : V) (σ : AH) : Prop := hi (wpCmp op a b σ Q)
theorem KcT2_q {op : CmpOp} {a : V} {Q : Bool → AH → Prop} {b : V} {σ : AH} : KcT2 op a Q b σ = (wpCmp op a b σ Q) := rfl
noncomputable def KcT (Z : CallP) (op : CmpOp) (r : PE) (m : Loc) (Q : Bool → AH → Prop) (a : V) (σ : AH) : Prop := hi (wpE Z r m σ (KcT2 op a Q))
theorem KcT_q {Z : CallP} {op : CmpOp} {r : PE} {m : Loc} {Q : Bool → AH → Prop} {a : V} {σ : AH} : KcT Z op r m Q a σ = (wpE Z r m σ (KcT2 op a Q)) := rfl
noncomputable def Kd3 (Z : CallP) (o2 : CmpOp) (r : PE) (m : Loc) (Q : Bool → AH → Prop) (b : V) (c : Bool) (σ : AH) : Prop := hi (onC (wpE Z r m σ (KcT2 o2 b Q)) (Q false σ) ⟨⟩ ⟨⟩ c)
theorem Kd3_q {Z : CallP} {o2 : CmpOp} {r : PE} {m : Loc} {Q : Bool → AH → Prop} {b : V} {c : Bool} {σ : AH} : Kd3 Z o2 r m Q b c σ = (onC (wpE Z r m σ (KcT2 o2 b Q)) (Q false σ) ⟨⟩ ⟨⟩ c) := rfl
noncomputable def Kd2 (Z : CallP) (o1 o2 : CmpOp) (r : PE) (m : Loc) (Q : Bool → AH → Prop) (a : V) (b : V) (σ : AH) : Prop := hi (wpCmp o1 a b σ (Kd3 Z o2 r m Q b))
theorem Kd2_q {Z : CallP} {o1 o2 : CmpOp} {r : PE} {m : Loc} {Q : Bool → AH → Prop} {a : V} {b : V} {σ : AH} : Kd2 Z o1 o2 r m Q a b σ = (wpCmp o1 a b σ (Kd3 Z o2 r m Q b)) := rfl
noncomputable def Kd1 (Z : CallP) (o1 o2 : CmpOp) (x r : PE) (m : Loc) (Q : Bool → AH → Prop) (a : V) (σ : AH) : Prop := hi (wpE Z x m σ (Kd2 Z o1 o2 r m Q a))
theorem Kd1_q {Z : CallP} {o1 o2 : CmpOp} {x r : PE} {m : Loc} {Q : Bool → AH → Prop} {a : V} {σ : AH} : Kd1 Z o1 o2 x r m Q a σ = (wpE Z x m σ (Kd2 Z o1 o2 r m Q a)) := rfl
noncomputable def KtsA (Z : CallP) (es : PEs) (m : Loc) (Q : Bool → AH → Prop) (b : Bool) (σ : AH) : Prop := hi (onC (wpT.wpTs Z .And es m σ Q) (Q false σ) ⟨⟩ ⟨⟩ b)
theorem KtsA_q {Z : CallP} {es : PEs} {m : Loc} {Q : Bool → AH → Prop} {b : Bool} {σ : AH} : KtsA Z es m Q b σ = (onC (wpT.wpTs Z .And es m σ Q) (Q false σ) ⟨⟩ ⟨⟩ b) := rfl
noncomputable def KtsO (Z : CallP) (es : PEs) (m : Loc) (Q : Bool → AH → Prop) (b : Bool) (σ : AH) : Prop := hi (onC (Q true σ) (wpT.wpTs Z .Or es m σ Q) ⟨⟩ ⟨⟩ b)
theorem KtsO_q {Z : CallP} {es : PEs} {m : Loc} {Q : Bool → AH → Prop} {b : Bool} {σ : AH} : KtsO Z es m Q b σ = (onC (Q true σ) (wpT.wpTs Z .Or es m σ Q) ⟨⟩ ⟨⟩ b) := rfl
noncomputable def Knx (m : Loc) (Q : SQ) (σ : AH) : Prop := hi (Q .next m σ)
theorem Knx_q {m : Loc} {Q : SQ} {σ : AH} : Knx m Q σ = (Q .next m σ) := rfl
noncomputable def Kas (x : Str) (m : Loc) (Q : SQ) (v : V) (σ : AH) : Prop := hi (Q .next (m.set x v) σ)
theorem Kas_q {x : Str} {m : Loc} {Q : SQ} {v : V} {σ : AH} : Kas x m Q v σ = (Q .next (m.set x v) σ) := rfl
noncomputable def KaA2 (x : Str) (v : V) (m : Loc) (Q : SQ) (ov : V) (σ : AH) : Prop := hi (wpSetAttr ov x v σ (Knx m Q))
theorem KaA2_q {x : Str} {v : V} {m : Loc} {Q : SQ} {ov : V} {σ : AH} : KaA2 x v m Q ov σ = (wpSetAttr ov x v σ (Knx m Q)) := rfl
noncomputable def KaA (Z : CallP) (o : PE) (x : Str) (m : Loc) (Q : SQ) (v : V) (σ : AH) : Prop := hi (wpE Z o m σ (KaA2 x v m Q))
theorem KaA_q {Z : CallP} {o : PE} {x : Str} {m : Loc} {Q : SQ} {v : V} {σ : AH} : KaA Z o x m Q v σ = (wpE Z o m σ (KaA2 x v m Q)) := rfl
noncomputable def KaS3 (ov v : V) (m : Loc) (Q : SQ) (iv : V) (σ : AH) : Prop := hi (wpSetSub ov iv v σ (Knx m Q))
theorem KaS3_q {ov v : V} {m : Loc} {Q : SQ} {iv : V} {σ : AH} : KaS3 ov v m Q iv σ = (wpSetSub ov iv v σ (Knx m Q)) := rfl
noncomputable def KaS2 (Z : CallP) (i : PE) (v : V) (m : Loc) (Q : SQ) (ov : V) (σ : AH) : Prop := hi (wpE Z i m σ (KaS3 ov v m Q))
theorem KaS2_q {Z : CallP} {i : PE} {v : V} {m : Loc} {Q : SQ} {ov : V} {σ : AH} : KaS2 Z i v m Q ov σ = (wpE Z i m σ (KaS3 ov v m Q)) := rfl
noncomputable def KaS (Z : CallP) (o i : PE) (m : Loc) (Q : SQ) (v : V) (σ : AH) : Prop := hi (wpE Z o m σ (KaS2 Z i v m Q))
theorem KaS_q {Z : CallP} {o i : PE} {m : Loc} {Q : SQ} {v : V} {σ : AH} : KaS Z o i m Q v σ = (wpE Z o m σ (KaS2 Z i v m Q)) := rfl
noncomputable def KaT (xs : List Str) (m : Loc) (Q : SQ) (v : V) (σ : AH) : Prop := hi (onT (fun l => asT (fun m => Q .next m σ) ⟨⟩ m xs l) ⟨⟩ v)
theorem KaT_q {xs : List Str} {m : Loc} {Q : SQ} {v : V} {σ : AH} : KaT xs m Q v σ = (onT (fun l => asT (fun m => Q .next m σ) ⟨⟩ m xs l) ⟨⟩ v) := rfl
noncomputable def KgA2 (x : Str) (i : Int) (m : Loc) (Q : SQ) (v : V) (σ : AH) : Prop := hi (onI (fun k => Q .next (m.set x (.int (i + k))) σ) ⟨⟩ v)
theorem KgA2_q {x : Str} {i : Int} {m : Loc} {Q : SQ} {v : V} {σ : AH} : KgA2 x i m Q v σ = (onI (fun k => Q .next (m.set x (.int (i + k))) σ) ⟨⟩ v) := rfl
noncomputable def KgA (Z : CallP) (x : Str) (e : PE) (m : Loc) (Q : SQ) (σ : AH) (u : V) : Prop := hi (onI (fun i => wpE Z e m σ (KgA2 x i m Q)) ⟨⟩ u)
theorem KgA_q {Z : CallP} {x : Str} {e : PE} {m : Loc} {Q : SQ} {σ : AH} {u : V} : KgA Z x e m Q σ u = (onI (fun i => wpE Z e m σ (KgA2 x i m Q)) ⟨⟩ u) := rfl
noncomputable def KhA3 (x : Str) (ov old : V) (m : Loc) (Q : SQ) (v : V) (σ : AH) : Prop := hi (onI (fun i => onI (fun k => wpSetAttr ov x (.int (i + k)) σ (Knx m Q)) ⟨⟩ v) ⟨⟩ old)
theorem KhA3_q {x : Str} {ov old : V} {m : Loc} {Q : SQ} {v : V} {σ : AH} : KhA3 x ov old m Q v σ = (onI (fun i => onI (fun k => wpSetAttr ov x (.int (i + k)) σ (Knx m Q)) ⟨⟩ v) ⟨⟩ old) := rfl
noncomputable def KhA2 (Z : CallP) (x : Str) (e : PE) (ov : V) (m : Loc) (Q : SQ) (old : V) (σ : AH) : Prop := hi (wpE Z e m σ (KhA3 x ov old m Q))
theorem KhA2_q {Z : CallP} {x : Str} {e : PE} {ov : V} {m : Loc} {Q : SQ} {old : V} {σ : AH} : KhA2 Z x e ov m Q old σ = (wpE Z e m σ (KhA3 x ov old m Q)) := rfl
noncomputable def KhA (Z : CallP) (x : Str) (e : PE) (m : Loc) (Q : SQ) (ov : V) (σ : AH) : Prop := hi (wpAttr ov x σ (KhA2 Z x e ov m Q))
theorem KhA_q {Z : CallP} {x : Str} {e : PE} {m : Loc} {Q : SQ} {ov : V} {σ : AH} : KhA Z x e m Q ov σ = (wpAttr ov x σ (KhA2 Z x e ov m Q)) := rfl
noncomputable def KgS2 (x : Str) (i : Int) (m : Loc) (Q : SQ) (v : V) (σ : AH) : Prop := hi (onI (fun k => Q .next (m.set x (.int (i - k))) σ) ⟨⟩ v)
theorem KgS2_q {x : Str} {i : Int} {m : Loc} {Q : SQ} {v : V} {σ : AH} : KgS2 x i m Q v σ = (onI (fun k => Q .next (m.set x (.int (i - k))) σ) ⟨⟩ v) := rfl
noncomputable def KgS (Z : CallP) (x : Str) (e : PE) (m : Loc) (Q : SQ) (σ : AH) (u : V) : Prop := hi (onI (fun i => wpE Z e m σ (KgS2 x i m Q)) ⟨⟩ u)
theorem KgS_q {Z : CallP} {x : Str} {e : PE} {m : Loc} {Q : SQ} {σ : AH} {u : V} : KgS Z x e m Q σ u = (onI (fun i => wpE Z e m σ (KgS2 x i m Q)) ⟨⟩ u) := rfl
noncomputable def KhS3 (x : Str) (ov old : V) (m : Loc) (Q : SQ) (v : V) (σ : AH) : Prop := hi (onI (fun i => onI (fun k => wpSetAttr ov x (.int (i - k)) σ (Knx m Q)) ⟨⟩ v) ⟨⟩ old)
theorem KhS3_q {x : Str} {ov old : V} {m : Loc} {Q : SQ} {v : V} {σ : AH} : KhS3 x ov old m Q v σ = (onI (fun i => onI (fun k => wpSetAttr ov x (.int (i - k)) σ (Knx m Q)) ⟨⟩ v) ⟨⟩ old) := rfl
noncomputable def KhS2 (Z : CallP) (x : Str) (e : PE) (ov : V) (m : Loc) (Q : SQ) (old : V) (σ : AH) : Prop := hi (wpE Z e m σ (KhS3 x ov old m Q))
theorem KhS2_q {Z : CallP} {x : Str} {e : PE} {ov : V} {m : Loc} {Q : SQ} {old : V} {σ : AH} : KhS2 Z x e ov m Q old σ = (wpE Z e m σ (KhS3 x ov old m Q)) := rfl
noncomputable def KhS (Z : CallP) (x : Str) (e : PE) (m : Loc) (Q : SQ) (ov : V) (σ : AH) : Prop := hi (wpAttr ov x σ (KhS2 Z x e ov m Q))
theorem KhS_q {Z : CallP} {x : Str} {e : PE} {m : Loc} {Q : SQ} {ov : V} {σ : AH} : KhS Z x e m Q ov σ = (wpAttr ov x σ (KhS2 Z x e ov m Q)) := rfl
noncomputable def Ki4 (ov iv old : V) (m : Loc) (Q : SQ) (v : V) (σ : AH) : Prop := hi (onI (fun i => onI (fun k => wpSetSub ov iv (.int (i + k)) σ (Knx m Q)) ⟨⟩ v) ⟨⟩ old)
theorem Ki4_q {ov iv old : V} {m : Loc} {Q : SQ} {v : V} {σ : AH} : Ki4 ov iv old m Q v σ = (onI (fun i => onI (fun k => wpSetSub ov iv (.int (i + k)) σ (Knx m Q)) ⟨⟩ v) ⟨⟩ old) := rfl
noncomputable def Ki3 (Z : CallP) (e : PE) (ov iv : V) (m : Loc) (Q : SQ) (old : V) (σ : AH) : Prop := hi (wpE Z e m σ (Ki4 ov iv old m Q))
theorem Ki3_q {Z : CallP} {e : PE} {ov iv : V} {m : Loc} {Q : SQ} {old : V} {σ : AH} : Ki3 Z e ov iv m Q old σ = (wpE Z e m σ (Ki4 ov iv old m Q)) := rfl
noncomputable def Ki2 (Z : CallP) (e : PE) (ov : V) (m : Loc) (Q : SQ) (iv : V) (σ : AH) : Prop := hi (wpSub ov iv σ (Ki3 Z e ov iv m Q))
theorem Ki2_q {Z : CallP} {e : PE} {ov : V} {m : Loc} {Q : SQ} {iv : V} {σ : AH} : Ki2 Z e ov m Q iv σ = (wpSub ov iv σ (Ki3 Z e ov iv m Q)) := rfl
noncomputable def Ki1 (Z : CallP) (j e : PE) (m : Loc) (Q : SQ) (ov : V) (σ : AH) : Prop := hi (wpE Z j m σ (Ki2 Z e ov m Q))
theorem Ki1_q {Z : CallP} {j e : PE} {m : Loc} {Q : SQ} {ov : V} {σ : AH} : Ki1 Z j e m Q ov σ = (wpE Z j m σ (Ki2 Z e ov m Q)) := rfl
noncomputable def Kex (m : Loc) (Q : SQ) (v : V) (σ : AH) : Prop := hi (Q .next m σ)
theorem Kex_q {m : Loc} {Q : SQ} {v : V} {σ : AH} : Kex m Q v σ = (Q .next m σ) := rfl
noncomputable def Krt (m : Loc) (Q : SQ) (v : V) (σ : AH) : Prop := hi (Q (.ret v) m σ)
theorem Krt_q {m : Loc} {Q : SQ} {v : V} {σ : AH} : Krt m Q v σ = (Q (.ret v) m σ) := rfl
noncomputable def Kif (Z : CallP) (b o : PSs) (m : Loc) (Q : SQ) (c : Bool) (σ : AH) : Prop := hi (onC (wpSs Z b m σ Q) (wpSs Z o m σ Q) ⟨⟩ ⟨⟩ c)
theorem Kif_q {Z : CallP} {b o : PSs} {m : Loc} {Q : SQ} {c : Bool} {σ : AH} : Kif Z b o m Q c σ = (onC (wpSs Z b m σ Q) (wpSs Z o m σ Q) ⟨⟩ ⟨⟩ c) := rfl
noncomputable def Kfr2 (Z : CallP) (x : Str) (b : PSs) (m : Loc) (Q : SQ) (v : V) (σ : AH) (l : List V) : Prop := hi (iterB (wpSs Z b) Q ⟨⟩ ⟨⟩ v l x l m σ)
theorem Kfr2_q {Z : CallP} {x : Str} {b : PSs} {m : Loc} {Q : SQ} {v : V} {σ : AH} {l : List V} : Kfr2 Z x b m Q v σ l = (iterB (wpSs Z b) Q ⟨⟩ ⟨⟩ v l x l m σ) := rfl
noncomputable def Kfr (Z : CallP) (x : Str) (b : PSs) (m : Loc) (Q : SQ) (v : V) (σ : AH) : Prop := hi (onS (Kfr2 Z x b m Q v σ) ⟨⟩ (iterOf v σ))
theorem Kfr_q {Z : CallP} {x : Str} {b : PSs} {m : Loc} {Q : SQ} {v : V} {σ : AH} : Kfr Z x b m Q v σ = (onS (Kfr2 Z x b m Q v σ) ⟨⟩ (iterOf v σ)) := rfl
theorem Kaf_next {Z : CallP} {r : PSs} {Q : SQ} {m : Loc} {σ : AH} : Kaf Z r Q .next m σ = wpSs Z r m σ Q := rfl
theorem qaf_next {Z : CallP} {r : PSs} {Q : SQ} {m : Loc} {σ : AH} : Kaf Z r Q .next m σ = wpSs Z r m σ Q := propext ⟨id, id⟩
theorem Kaf_brk {Z : CallP} {r : PSs} {Q : SQ} {m : Loc} {σ : AH} : Kaf Z r Q .brk m σ = Q .brk m σ := rfl
theorem Kaf_cont {Z : CallP} {r : PSs} {Q : SQ} {m : Loc} {σ : AH} : Kaf Z r Q .cont m σ = Q .cont m σ := rfl
theorem Kaf_ret {Z : CallP} {r : PSs} {Q : SQ} {m : Loc} {σ : AH} {v : V} : Kaf Z r Q (.ret v) m σ = Q (.ret v) m σ := rfl
section
variable {Z : CallP} {m : Loc} {σ : AH}
section
variable {Q : V → AH → Prop}
theorem e_none : wpE Z .none m σ Q = Q .none σ := rfl
theorem e_bool {b} : wpE Z (.bool b) m σ Q = Q (.bool b) σ := rfl
theorem e_int {b} : wpE Z (.int b) m σ Q = Q (.int b) σ := rfl
theorem e_str {b} : wpE Z (.str b) m σ Q = Q (.str b) σ := rfl
theorem e_loc {x} : wpE Z (.loc x) m σ Q = onS (Ka Q σ) ⟨⟩ (m x) := rfl
theorem e_glob {x i} : wpE Z (.glob x i) m σ Q = Q (.int i) σ := rfl
theorem e_bin {op l r} : wpE Z (.bin op l r) m σ Q = wpE Z l m σ (Kbin Z op r m Q) := rfl
theorem e_neg {e} : wpE Z (.neg e) m σ Q = wpE Z e m σ (Kneg Q) := rfl
theorem e_not {e} : wpE Z (.not e) m σ Q = wpE Z e m σ (Knot Q) := rfl
theorem e_cmp {op l r} : wpE Z (.cmp op l r) m σ Q = wpE Z l m σ (Kcmp Z op r m Q) := rfl
theorem e_bop {op l} : wpE Z (.bop op l) m σ Q = wpB Z op l m σ Q := rfl
theorem e_ite {t b e} : wpE Z (.ite t b e) m σ Q = wpE Z t m σ (Kite Z b e m Q) := rfl
theorem e_attr {e x} : wpE Z (.attr e x) m σ Q = wpE Z e m σ (Kattr x Q) := rfl
theorem e_sub {e i} : wpE Z (.sub e i) m σ Q = wpE Z e m σ (Ksub Z i m Q) := rfl
theorem e_call {f as} : wpE Z (.call f as) m σ Q = wpEs Z as m σ (Kcall Z f Q) := rfl
theorem e_bi {b as} : wpE Z (.bi b as) m σ Q = wpEs Z as m σ (Kbi b Q) := rfl
theorem e_meth {e x as} : wpE Z (.meth e x as) m σ Q = wpE Z e m σ (Kmeth Z x as m Q) := rfl
theorem e_lst {es} : wpE Z (.lst es) m σ Q = wpEs Z es m σ (Klst Q) := rfl
theorem e_tup {es} : wpE Z (.tup es) m σ Q = wpEs Z es m σ (Ktup Q) := rfl
theorem e_dict0 : wpE Z (.dict .nil) m σ Q = ∀ c, σ c = Option.none → Q (.ref c) (σ.set c (.idict [])) := rfl
theorem e_dict1 {k e es} : wpE Z (.dict (.cons k e es)) m σ Q = wpKs Z (.cons k e es) m σ (Kdict Q) := rfl
theorem e_slc {e n} : wpE Z (.slc e n) m σ Q = wpE Z e m σ (Kslc n Q) := rfl
theorem e_comp0 {elt x it} : wpE Z (.comp elt x it .nil) m σ Q = wpE Z it m σ (Kc0 Z elt x m Q) := rfl
theorem e_comp1 {elt x it cnd} : wpE Z (.comp elt x it (.cons cnd .nil)) m σ Q = wpE Z it m σ (Kc1 Z elt x cnd m Q) := rfl
theorem b_one {op e} : wpB Z op (.cons e .nil) m σ Q = wpE Z e m σ Q := rfl
theorem b_and {e f es} : wpB Z .And (.cons e (.cons f es)) m σ Q = wpE Z e m σ (Kand Z f es m Q) := rfl
theorem b_or {e f es} : wpB Z .Or (.cons e (.cons f es)) m σ Q = wpE Z e m σ (Kor Z f es m Q) := rfl
end
theorem es_nil {Q} : wpEs Z .nil m σ Q = Q [] σ := rfl
theorem es_cons {e es Q} : wpEs Z (.cons e es) m σ Q = wpE Z e m σ (Kes Z es m Q) := rfl
theorem ks_nil {Q} : wpKs Z .nil m σ Q = Q [] σ := rfl
theorem ks_cons {k e es Q} : wpKs Z (.cons k e es) m σ Q = wpE Z e m σ (Kks Z k es m Q) := rfl
section
variable {Q : Bool → AH → Prop}
theorem t_not {e} : wpT Z (.not e) m σ Q = wpT Z e m σ (KnotT Q) := rfl
theorem t_bop {op l} : wpT Z (.bop op l) m σ Q = wpT.wpTs Z op l m σ Q := rfl
theorem t_cmp {op l r} : wpT Z (.cmp op l r) m σ Q = wpE Z l m σ (KcT Z op r m Q) := rfl
theorem t_cmp2 {o1 o2 l x r} : wpT Z (.cmp2 o1 o2 l x r) m σ Q = wpE Z l m σ (Kd1 Z o1 o2 x r m Q) := rfl
theorem t_bool {b} : wpT Z (.bool b) m σ Q = Q b σ := rfl
theorem t_loc {x} : wpT Z (.loc x) m σ Q = onS (Ktl Q σ) ⟨⟩ (m x) := rfl
theorem t_attr {e x} : wpT Z (.attr e x) m σ Q = wpE Z e m σ (Kattr x (Ktr Q)) := rfl
theorem t_sub {e i} : wpT Z (.sub e i) m σ Q = wpE Z e m σ (Ksub Z i m (Ktr Q)) := rfl
theorem t_call {f as} : wpT Z (.call f as) m σ Q = wpEs Z as m σ (Kcall Z f (Ktr Q)) := rfl
theorem t_meth {e x as} : wpT Z (.meth e x as) m σ Q = wpE Z e m σ (Kmeth Z x as m (Ktr Q)) := rfl
theorem ts_nil_and : wpT.wpTs Z .And .nil m σ Q = Q true σ := rfl
theorem ts_nil_or : wpT.wpTs Z .Or .nil m σ Q = Q false σ := rfl
theorem ts_and {e es} : wpT.wpTs Z .And (.cons e es) m σ Q = wpT Z e m σ (KtsA Z es m Q) := rfl
theorem ts_or {e es} : wpT.wpTs Z .Or (.cons e es) m σ Q = wpT Z e m σ (KtsO Z es m Q) := rfl
end
variable {Q : SQ}
theorem s_asgn {x e} : wpS Z (.asgn x e) m σ Q = wpE Z e m σ (Kas x m Q) := rfl
theorem s_asgnA {o x e} : wpS Z (.asgnA o x e) m σ Q = wpE Z e m σ (KaA Z o x m Q) := rfl
theorem s_asgnS {o i e} : wpS Z (.asgnS o i e) m σ Q = wpE Z e m σ (KaS Z o i m Q) := rfl
theorem s_asgnT {xs e} : wpS Z (.asgnT xs e) m σ Q = wpE Z e m σ (KaT xs m Q) := rfl
theorem s_augAdd {x e} : wpS Z (.augN x .Add e) m σ Q = onS (KgA Z x e m Q σ) ⟨⟩ (m x) := rfl
theorem s_augSub {x e} : wpS Z (.augN x .Sub e) m σ Q = onS (KgS Z x e m Q σ) ⟨⟩ (m x) := rfl
theorem s_augAAdd {o x e} : wpS Z (.augA o x .Add e) m σ Q = wpE Z o m σ (KhA Z x e m Q) := rfl
theorem s_augASub {o x e} : wpS Z (.augA o x .Sub e) m σ Q = wpE Z o m σ (KhS Z x e m Q) := rfl
theorem s_augS {o j e} : wpS Z (.augS o j .Add e) m σ Q = wpE Z o m σ (Ki1 Z j e m Q) := rfl
theorem s_expr {e} : wpS Z (.expr e) m σ Q = wpE Z e m σ (Kex m Q) := rfl
theorem s_ret {e} : wpS Z (.ret e) m σ Q = wpE Z e m σ (Krt m Q) := rfl
theorem s_ret0 : wpS Z .ret0 m σ Q = Q (.ret .none) m σ := rfl
theorem s_ite {t b o} : wpS Z (.ite t b o) m σ Q = wpT Z t m σ (Kif Z b o m Q) := rfl
theorem s_whl {t b} : wpS Z (.whl t b) m σ Q = loopB (wpT Z t) (wpSs Z b) Q ⟨⟩ ⟨⟩ ⟨⟩ m σ := rfl
theorem s_for {x it b} : wpS Z (.for_ x it b) m σ Q = wpE Z it m σ (Kfr Z x b m Q) := rfl
theorem s_brk : wpS Z .brk m σ Q = Q .brk m σ := rfl
theorem s_cont : wpS Z .cont m σ Q = Q .cont m σ := rfl
theorem s_pass : wpS Z .pass m σ Q = Q .next m σ := rfl
theorem s_stop : wpS Z .stop m σ Q = False := rfl
theorem ss_nil : wpSs Z .nil m σ Q = Q .next m σ := rfl
theorem ss_cons {s r} : wpSs Z (.cons s r) m σ Q = wpS Z s m σ (Kaf Z r Q) := rfl
theorem aft_next {r : Loc → AH → Prop} : aft r Q .next m σ = r m σ := rfl
theorem aft_brk {r : Loc → AH → Prop} : aft r Q .brk m σ = Q .brk m σ := rfl
theorem aft_cont {r : Loc → AH → Prop} : aft r Q .cont m σ = Q .cont m σ := rfl
theorem aft_ret {r : Loc → AH → Prop} {v} : aft r Q (.ret v) m σ = Q (.ret v) m σ := rfl
theorem body_eq {b : PSs} {Q : V → AH → Prop} : wpBody Z b m σ Q = wpSs Z b m σ (bodyQ Q) := rfl
theorem bq_ret {Q : V → AH → Prop} {v} : bodyQ Q (.ret v) m σ = Q v σ := rfl
theorem bq_next {Q : V → AH → Prop} : bodyQ Q .next m σ = Q .none σ := rfl
end
noncomputable def fr (f : CF) (ps : List String) : CF × List Str := (f, ps.map Str.ofString)
noncomputable def fnList : List (CF × List Str) := [fr (.fn "mated_in") ["ply"],
 fr (.fn "mate_in") ["ply"],
 fr (.fn "to_table") ["value", "ply"],
 fr (.fn "from_table") ["value", "ply"],
 fr (.fn "pack_entry") ["key", "move", "value", "depth", "bound", "age"],
 fr (.fn "unpack_entry") ["entry"],
 fr (.fn "find_slot") ["slots", "start", "ways", "key"],
 fr (.fn "worth") ["entry", "age"],
 fr (.fn "victim_slot") ["slots", "start", "ways", "age"],
 fr (.fn "pushes_out") ["entry", "depth", "bound", "age"],
 fr (.fn "with_move") ["entry", "move"],
 fr (.fn "cutoff") ["value", "depth", "bound", "want", "is_exact", "alpha", "beta"],
 fr (.fn "step_into") ["ctx", "move"],
 fr (.fn "step_back") ["ctx"],
 fr (.fn "clear_line") ["ctx", "ply"],
 fr (.fn "set_line") ["ctx", "ply", "move"],
 fr (.fn "scale_down") ["value", "by", "limit"],
 fr (.fn "reward") ["history", "killers", "side", "ply", "depth", "best", "tried"],
 fr (.fn "killer_pair") ["killers", "ply"],
 fr (.fn "past_score") ["history", "side", "move"],
 fr (.fn "take_best") ["scored"],
 fr (.fn "quiesce") ["ctx", "alpha", "beta", "ply", "qdepth"],
 fr (.fn "quiesce_moves") ["ctx", "moves", "best", "alpha", "beta", "ply", "qdepth"],
 fr (.fn "search") ["ctx", "alpha", "beta", "depth", "ply", "is_pv"],
 fr (.fn "search_moves") ["ctx", "moves", "table_move", "key", "alpha", "beta", "depth", "ply", "is_pv"],
 fr (.fn "search_child") ["ctx", "alpha", "beta", "depth", "ply", "is_pv", "is_first"],
 fr (.fn "look_up") ["ctx", "key", "alpha", "beta", "depth", "ply"],
 fr (.fn "keep_value") ["ctx", "key", "move", "best", "start", "beta", "depth", "ply"],
 fr (.fn "_law_pull") ["reel", "many"],
 fr (.fn "_law_ways") ["reel", "size"],
 fr (.fn "_law_world") ["reel"],
 fr (.fn "_law_raised") ["merit"],
 fr (.fn "_law_quiet_rows") ["world", "most"],
 fr (.fn "_law_quiet") ["world", "rows", "place", "plies"],
 fr (.fn "_law_deep_rows") ["world", "leaf", "most"],
 fr (.fn "_law_window") ["reel", "merit"],
 fr (.fn "_law_is_told_well") ["told", "merit", "low", "high"],
 fr (.fn "_law_leads") ["world", "deep", "trail", "depth", "told"],
 fr (.fn "_law_rows_are_true") ["world", "deep", "table"],
 fr (.fn "law") ["script"],
 fr (.me "SearchContext" "__init__") ["self", "game", "table", "killers", "history", "qdepth", "is_exact", "max_nodes"],
 fr (.me "SearchContext" "tick") ["self"],
 fr (.me "History" "__init__") ["self", "limit"],
 fr (.me "History" "get") ["self", "side", "move"],
 fr (.me "History" "update") ["self", "side", "move", "bonus"],
 fr (.me "History" "bonus") ["self", "depth"],
 fr (.me "Killers" "__init__") ["self", "plies"],
 fr (.me "Killers" "add") ["self", "ply", "move"],
 fr (.me "Killers" "pair") ["self", "ply"],
 fr (.me "Killers" "clear") ["self", "ply"],
 fr (.me "TransTable" "__init__") ["self", "clusters", "ways"],
 fr (.me "TransTable" "probe") ["self", "key"],
 fr (.me "TransTable" "save") ["self", "key", "move", "value", "depth", "bound"],
 fr (.me "TransTable" "new_search") ["self"],
 fr (.me "Picker" "__init__") ["self", "game", "moves", "table_move", "killers", "history", "ply"],
 fr (.me "Picker" "next") ["self"],
 fr (.me "Picker" "fill") ["self", "stage"],
 fr (.me "Picker" "fill_table") ["self"],
 fr (.me "Picker" "fill_good") ["self"],
 fr (.me "Picker" "fill_killers") ["self"],
 fr (.me "TreeGame" "__init__") ["self", "children", "values", "checks", "draws", "noisy", "gains"],
 fr (.me "TreeGame" "moves") ["self"],
 fr (.me "TreeGame" "noisy") ["self"],
 fr (.me "TreeGame" "make") ["self", "move"],
 fr (.me "TreeGame" "undo") ["self"],
 fr (.me "TreeGame" "value") ["self"],
 fr (.me "TreeGame" "key") ["self"],
 fr (.me "TreeGame" "in_check") ["self"],
 fr (.me "TreeGame" "is_draw") ["self"],
 fr (.me "TreeGame" "is_noisy") ["self", "move"],
 fr (.me "TreeGame" "gain") ["self", "move"],
 fr (.me "TreeGame" "side") ["self"]]
noncomputable def fnBodies : List PSs := [b_mated_in, b_mate_in, b_to_table, b_from_table, b_pack_entry, b_unpack_entry, b_find_slot, b_worth, b_victim_slot, b_pushes_out, b_with_move, b_cutoff, b_step_into, b_step_back, b_clear_line, b_set_line, b_scale_down, b_reward, b_killer_pair, b_past_score, b_take_best, b_quiesce, b_quiesce_moves, b_search, b_search_moves, b_search_child, b_look_up, b_keep_value, b__law_pull, b__law_ways, b__law_world, b__law_raised, b__law_quiet_rows, b__law_quiet, b__law_deep_rows, b__law_window, b__law_is_told_well, b__law_leads, b__law_rows_are_true, b_law, b_SearchContext___init__, b_SearchContext_tick, b_History___init__, b_History_get, b_History_update, b_History_bonus, b_Killers___init__, b_Killers_add, b_Killers_pair, b_Killers_clear, b_TransTable___init__, b_TransTable_probe, b_TransTable_save, b_TransTable_new_search, b_Picker___init__, b_Picker_next, b_Picker_fill, b_Picker_fill_table, b_Picker_fill_good, b_Picker_fill_killers, b_TreeGame___init__, b_TreeGame_moves, b_TreeGame_noisy, b_TreeGame_make, b_TreeGame_undo, b_TreeGame_value, b_TreeGame_key, b_TreeGame_in_check, b_TreeGame_is_draw, b_TreeGame_is_noisy, b_TreeGame_gain, b_TreeGame_side]
noncomputable def clsList : List Str := ["SearchContext", "History", "Killers", "TransTable", "Picker", "TreeGame"]
noncomputable def fdChk (K : Frag) (f : CF × List Str) : Option PSs := match (fdAt K (f.1.addr K)).any (plainFd · f.2) with
 | true => fnChk K (f.1.addr K) f.2
 | false => Option.none
noncomputable def stB (K : Frag) : Bool := attAll K && metAll K && fnsAll K && conAll K && bisAll K && clsList.all (clsStat K)
noncomputable def stOk (K : Frag) : List (Option PSs) × Bool := (fnList.map (fdChk K), stB K)
noncomputable def stWant : List (Option PSs) × Bool := (fnBodies.map some, true)
theorem fb_get {K : Frag} (H : stOk K = stWant) {i : Nat} {f : CF} {ps : List Str} {body : PSs} (h1 : fnList[i]? = some (f, ps)) (h2 : fnBodies[i]? = some body) : FnAt K (f.addr K) ps body := by
 have h := congrArg (fun x => x.1[i]?) H
 change (fnList.map (fdChk K))[i]? = (fnBodies.map some)[i]? at h
 rw [List.getElem?_map, List.getElem?_map, h1, h2] at h
 have h : fdChk K (f, ps) = some body := Option.some.inj h
 unfold fdChk at h
 cases hp : (fdAt K (f.addr K)).any (plainFd · ps) with
 | false => rw [hp] at h; cases h
 | true =>
   rw [hp] at h
   refine FnOk.at h fun vals hv => ?_
   cases hf : fdAt K (f.addr K) with
   | none => rw [hf] at hp; cases hp
   | some fd => rw [hf] at hp; exact congrArg some (bind_plain hp vals hv)
theorem st_parts {K : Frag} (H : stOk K = stWant) : attAll K = true ∧ metAll K = true ∧ fnsAll K = true ∧ conAll K = true ∧ bisAll K = true ∧ clsList.all (clsStat K) = true := by
 have h : stB K = true := congrArg Prod.snd H
 unfold stB at h
 simpa only [Bool.and_eq_true, and_assoc] using h
theorem st_con {K : Frag} (H : stOk K = stWant) : ∀ x i, gcon x = some i → ∃ t, nsIn K mainGlobals x = some (some (.int i t)) := by
 intro x i h
 obtain ⟨s, hs, rfl⟩ := tabAt_mem h
 exact con_of (List.all_eq_true.mp (st_parts H).2.2.2.1 _ hs)
theorem st_bis {K : Frag} (H : stOk K = stWant) : ∀ x b, biOf x = some b → nsIn K mainGlobals x = some Option.none := by
 intro x b h
 obtain ⟨s, hs, rfl⟩ := tabAt_mem h
 exact beq_iff_eq.mp (List.all_eq_true.mp (st_parts H).2.2.2.2.1 _ hs)
theorem cls_get {K : Frag} (H : stOk K = stWant) {C : Str} (h : C ∈ clsList) : clsStat K C = true := List.all_eq_true.mp (st_parts H).2.2.2.2.2 _ h
noncomputable def IsK (W : Wld) : Prop := stOk W.K = stWant
section
variable {W : Wld}
theorem fb_mated_in (H : IsK W) : FnAt W.K (CF.addr W.K (.fn "mated_in")) ["ply"] b_mated_in := fb_get (i := 0) H rfl rfl
theorem fb_mate_in (H : IsK W) : FnAt W.K (CF.addr W.K (.fn "mate_in")) ["ply"] b_mate_in := fb_get (i := 1) H rfl rfl
theorem fb_to_table (H : IsK W) : FnAt W.K (CF.addr W.K (.fn "to_table")) ["value", "ply"] b_to_table := fb_get (i := 2) H rfl rfl
theorem fb_from_table (H : IsK W) : FnAt W.K (CF.addr W.K (.fn "from_table")) ["value", "ply"] b_from_table := fb_get (i := 3) H rfl rfl
theorem fb_pack_entry (H : IsK W) : FnAt W.K (CF.addr W.K (.fn "pack_entry")) ["key", "move", "value", "depth", "bound", "age"] b_pack_entry := fb_get (i := 4) H rfl rfl
theorem fb_unpack_entry (H : IsK W) : FnAt W.K (CF.addr W.K (.fn "unpack_entry")) ["entry"] b_unpack_entry := fb_get (i := 5) H rfl rfl
theorem fb_find_slot (H : IsK W) : FnAt W.K (CF.addr W.K (.fn "find_slot")) ["slots", "start", "ways", "key"] b_find_slot := fb_get (i := 6) H rfl rfl
theorem fb_worth (H : IsK W) : FnAt W.K (CF.addr W.K (.fn "worth")) ["entry", "age"] b_worth := fb_get (i := 7) H rfl rfl
theorem fb_victim_slot (H : IsK W) : FnAt W.K (CF.addr W.K (.fn "victim_slot")) ["slots", "start", "ways", "age"] b_victim_slot := fb_get (i := 8) H rfl rfl
theorem fb_pushes_out (H : IsK W) : FnAt W.K (CF.addr W.K (.fn "pushes_out")) ["entry", "depth", "bound", "age"] b_pushes_out := fb_get (i := 9) H rfl rfl
theorem fb_with_move (H : IsK W) : FnAt W.K (CF.addr W.K (.fn "with_move")) ["entry", "move"] b_with_move := fb_get (i := 10) H rfl rfl
theorem fb_cutoff (H : IsK W) : FnAt W.K (CF.addr W.K (.fn "cutoff")) ["value", "depth", "bound", "want", "is_exact", "alpha", "beta"] b_cutoff := fb_get (i := 11) H rfl rfl
theorem fb_step_into (H : IsK W) : FnAt W.K (CF.addr W.K (.fn "step_into")) ["ctx", "move"] b_step_into := fb_get (i := 12) H rfl rfl
theorem fb_step_back (H : IsK W) : FnAt W.K (CF.addr W.K (.fn "step_back")) ["ctx"] b_step_back := fb_get (i := 13) H rfl rfl
theorem fb_clear_line (H : IsK W) : FnAt W.K (CF.addr W.K (.fn "clear_line")) ["ctx", "ply"] b_clear_line := fb_get (i := 14) H rfl rfl
theorem fb_set_line (H : IsK W) : FnAt W.K (CF.addr W.K (.fn "set_line")) ["ctx", "ply", "move"] b_set_line := fb_get (i := 15) H rfl rfl
theorem fb_scale_down (H : IsK W) : FnAt W.K (CF.addr W.K (.fn "scale_down")) ["value", "by", "limit"] b_scale_down := fb_get (i := 16) H rfl rfl
theorem fb_reward (H : IsK W) : FnAt W.K (CF.addr W.K (.fn "reward")) ["history", "killers", "side", "ply", "depth", "best", "tried"] b_reward := fb_get (i := 17) H rfl rfl
theorem fb_killer_pair (H : IsK W) : FnAt W.K (CF.addr W.K (.fn "killer_pair")) ["killers", "ply"] b_killer_pair := fb_get (i := 18) H rfl rfl
theorem fb_past_score (H : IsK W) : FnAt W.K (CF.addr W.K (.fn "past_score")) ["history", "side", "move"] b_past_score := fb_get (i := 19) H rfl rfl
theorem fb_take_best (H : IsK W) : FnAt W.K (CF.addr W.K (.fn "take_best")) ["scored"] b_take_best := fb_get (i := 20) H rfl rfl
theorem fb_quiesce (H : IsK W) : FnAt W.K (CF.addr W.K (.fn "quiesce")) ["ctx", "alpha", "beta", "ply", "qdepth"] b_quiesce := fb_get (i := 21) H rfl rfl
theorem fb_quiesce_moves (H : IsK W) : FnAt W.K (CF.addr W.K (.fn "quiesce_moves")) ["ctx", "moves", "best", "alpha", "beta", "ply", "qdepth"] b_quiesce_moves := fb_get (i := 22) H rfl rfl
theorem fb_search (H : IsK W) : FnAt W.K (CF.addr W.K (.fn "search")) ["ctx", "alpha", "beta", "depth", "ply", "is_pv"] b_search := fb_get (i := 23) H rfl rfl
theorem fb_search_moves (H : IsK W) : FnAt W.K (CF.addr W.K (.fn "search_moves")) ["ctx", "moves", "table_move", "key", "alpha", "beta", "depth", "ply", "is_pv"] b_search_moves := fb_get (i := 24) H rfl rfl
theorem fb_search_child (H : IsK W) : FnAt W.K (CF.addr W.K (.fn "search_child")) ["ctx", "alpha", "beta", "depth", "ply", "is_pv", "is_first"] b_search_child := fb_get (i := 25) H rfl rfl
theorem fb_look_up (H : IsK W) : FnAt W.K (CF.addr W.K (.fn "look_up")) ["ctx", "key", "alpha", "beta", "depth", "ply"] b_look_up := fb_get (i := 26) H rfl rfl
theorem fb_keep_value (H : IsK W) : FnAt W.K (CF.addr W.K (.fn "keep_value")) ["ctx", "key", "move", "best", "start", "beta", "depth", "ply"] b_keep_value := fb_get (i := 27) H rfl rfl
theorem fb__law_pull (H : IsK W) : FnAt W.K (CF.addr W.K (.fn "_law_pull")) ["reel", "many"] b__law_pull := fb_get (i := 28) H rfl rfl
theorem fb__law_ways (H : IsK W) : FnAt W.K (CF.addr W.K (.fn "_law_ways")) ["reel", "size"] b__law_ways := fb_get (i := 29) H rfl rfl
theorem fb__law_world (H : IsK W) : FnAt W.K (CF.addr W.K (.fn "_law_world")) ["reel"] b__law_world := fb_get (i := 30) H rfl rfl
theorem fb__law_raised (H : IsK W) : FnAt W.K (CF.addr W.K (.fn "_law_raised")) ["merit"] b__law_raised := fb_get (i := 31) H rfl rfl
theorem fb__law_quiet_rows (H : IsK W) : FnAt W.K (CF.addr W.K (.fn "_law_quiet_rows")) ["world", "most"] b__law_quiet_rows := fb_get (i := 32) H rfl rfl
theorem fb__law_quiet (H : IsK W) : FnAt W.K (CF.addr W.K (.fn "_law_quiet")) ["world", "rows", "place", "plies"] b__law_quiet := fb_get (i := 33) H rfl rfl
theorem fb__law_deep_rows (H : IsK W) : FnAt W.K (CF.addr W.K (.fn "_law_deep_rows")) ["world", "leaf", "most"] b__law_deep_rows := fb_get (i := 34) H rfl rfl
theorem fb__law_window (H : IsK W) : FnAt W.K (CF.addr W.K (.fn "_law_window")) ["reel", "merit"] b__law_window := fb_get (i := 35) H rfl rfl
theorem fb__law_is_told_well (H : IsK W) : FnAt W.K (CF.addr W.K (.fn "_law_is_told_well")) ["told", "merit", "low", "high"] b__law_is_told_well := fb_get (i := 36) H rfl rfl
theorem fb__law_leads (H : IsK W) : FnAt W.K (CF.addr W.K (.fn "_law_leads")) ["world", "deep", "trail", "depth", "told"] b__law_leads := fb_get (i := 37) H rfl rfl
theorem fb__law_rows_are_true (H : IsK W) : FnAt W.K (CF.addr W.K (.fn "_law_rows_are_true")) ["world", "deep", "table"] b__law_rows_are_true := fb_get (i := 38) H rfl rfl
theorem fb_law (H : IsK W) : FnAt W.K (CF.addr W.K (.fn "law")) ["script"] b_law := fb_get (i := 39) H rfl rfl
theorem fb_SearchContext___init__ (H : IsK W) : FnAt W.K (CF.addr W.K (.me "SearchContext" "__init__")) ["self", "game", "table", "killers", "history", "qdepth", "is_exact", "max_nodes"] b_SearchContext___init__ := fb_get (i := 40) H rfl rfl
theorem fb_SearchContext_tick (H : IsK W) : FnAt W.K (CF.addr W.K (.me "SearchContext" "tick")) ["self"] b_SearchContext_tick := fb_get (i := 41) H rfl rfl
theorem fb_History___init__ (H : IsK W) : FnAt W.K (CF.addr W.K (.me "History" "__init__")) ["self", "limit"] b_History___init__ := fb_get (i := 42) H rfl rfl
theorem fb_History_get (H : IsK W) : FnAt W.K (CF.addr W.K (.me "History" "get")) ["self", "side", "move"] b_History_get := fb_get (i := 43) H rfl rfl
theorem fb_History_update (H : IsK W) : FnAt W.K (CF.addr W.K (.me "History" "update")) ["self", "side", "move", "bonus"] b_History_update := fb_get (i := 44) H rfl rfl
theorem fb_History_bonus (H : IsK W) : FnAt W.K (CF.addr W.K (.me "History" "bonus")) ["self", "depth"] b_History_bonus := fb_get (i := 45) H rfl rfl
theorem fb_Killers___init__ (H : IsK W) : FnAt W.K (CF.addr W.K (.me "Killers" "__init__")) ["self", "plies"] b_Killers___init__ := fb_get (i := 46) H rfl rfl
theorem fb_Killers_add (H : IsK W) : FnAt W.K (CF.addr W.K (.me "Killers" "add")) ["self", "ply", "move"] b_Killers_add := fb_get (i := 47) H rfl rfl
theorem fb_Killers_pair (H : IsK W) : FnAt W.K (CF.addr W.K (.me "Killers" "pair")) ["self", "ply"] b_Killers_pair := fb_get (i := 48) H rfl rfl
theorem fb_Killers_clear (H : IsK W) : FnAt W.K (CF.addr W.K (.me "Killers" "clear")) ["self", "ply"] b_Killers_clear := fb_get (i := 49) H rfl rfl
theorem fb_TransTable___init__ (H : IsK W) : FnAt W.K (CF.addr W.K (.me "TransTable" "__init__")) ["self", "clusters", "ways"] b_TransTable___init__ := fb_get (i := 50) H rfl rfl
theorem fb_TransTable_probe (H : IsK W) : FnAt W.K (CF.addr W.K (.me "TransTable" "probe")) ["self", "key"] b_TransTable_probe := fb_get (i := 51) H rfl rfl
theorem fb_TransTable_save (H : IsK W) : FnAt W.K (CF.addr W.K (.me "TransTable" "save")) ["self", "key", "move", "value", "depth", "bound"] b_TransTable_save := fb_get (i := 52) H rfl rfl
theorem fb_TransTable_new_search (H : IsK W) : FnAt W.K (CF.addr W.K (.me "TransTable" "new_search")) ["self"] b_TransTable_new_search := fb_get (i := 53) H rfl rfl
theorem fb_Picker___init__ (H : IsK W) : FnAt W.K (CF.addr W.K (.me "Picker" "__init__")) ["self", "game", "moves", "table_move", "killers", "history", "ply"] b_Picker___init__ := fb_get (i := 54) H rfl rfl
theorem fb_Picker_next (H : IsK W) : FnAt W.K (CF.addr W.K (.me "Picker" "next")) ["self"] b_Picker_next := fb_get (i := 55) H rfl rfl
theorem fb_Picker_fill (H : IsK W) : FnAt W.K (CF.addr W.K (.me "Picker" "fill")) ["self", "stage"] b_Picker_fill := fb_get (i := 56) H rfl rfl
theorem fb_Picker_fill_table (H : IsK W) : FnAt W.K (CF.addr W.K (.me "Picker" "fill_table")) ["self"] b_Picker_fill_table := fb_get (i := 57) H rfl rfl
theorem fb_Picker_fill_good (H : IsK W) : FnAt W.K (CF.addr W.K (.me "Picker" "fill_good")) ["self"] b_Picker_fill_good := fb_get (i := 58) H rfl rfl
theorem fb_Picker_fill_killers (H : IsK W) : FnAt W.K (CF.addr W.K (.me "Picker" "fill_killers")) ["self"] b_Picker_fill_killers := fb_get (i := 59) H rfl rfl
theorem fb_TreeGame___init__ (H : IsK W) : FnAt W.K (CF.addr W.K (.me "TreeGame" "__init__")) ["self", "children", "values", "checks", "draws", "noisy", "gains"] b_TreeGame___init__ := fb_get (i := 60) H rfl rfl
theorem fb_TreeGame_moves (H : IsK W) : FnAt W.K (CF.addr W.K (.me "TreeGame" "moves")) ["self"] b_TreeGame_moves := fb_get (i := 61) H rfl rfl
theorem fb_TreeGame_noisy (H : IsK W) : FnAt W.K (CF.addr W.K (.me "TreeGame" "noisy")) ["self"] b_TreeGame_noisy := fb_get (i := 62) H rfl rfl
theorem fb_TreeGame_make (H : IsK W) : FnAt W.K (CF.addr W.K (.me "TreeGame" "make")) ["self", "move"] b_TreeGame_make := fb_get (i := 63) H rfl rfl
theorem fb_TreeGame_undo (H : IsK W) : FnAt W.K (CF.addr W.K (.me "TreeGame" "undo")) ["self"] b_TreeGame_undo := fb_get (i := 64) H rfl rfl
theorem fb_TreeGame_value (H : IsK W) : FnAt W.K (CF.addr W.K (.me "TreeGame" "value")) ["self"] b_TreeGame_value := fb_get (i := 65) H rfl rfl
theorem fb_TreeGame_key (H : IsK W) : FnAt W.K (CF.addr W.K (.me "TreeGame" "key")) ["self"] b_TreeGame_key := fb_get (i := 66) H rfl rfl
theorem fb_TreeGame_in_check (H : IsK W) : FnAt W.K (CF.addr W.K (.me "TreeGame" "in_check")) ["self"] b_TreeGame_in_check := fb_get (i := 67) H rfl rfl
theorem fb_TreeGame_is_draw (H : IsK W) : FnAt W.K (CF.addr W.K (.me "TreeGame" "is_draw")) ["self"] b_TreeGame_is_draw := fb_get (i := 68) H rfl rfl
theorem fb_TreeGame_is_noisy (H : IsK W) : FnAt W.K (CF.addr W.K (.me "TreeGame" "is_noisy")) ["self", "move"] b_TreeGame_is_noisy := fb_get (i := 69) H rfl rfl
theorem fb_TreeGame_gain (H : IsK W) : FnAt W.K (CF.addr W.K (.me "TreeGame" "gain")) ["self", "move"] b_TreeGame_gain := fb_get (i := 70) H rfl rfl
theorem fb_TreeGame_side (H : IsK W) : FnAt W.K (CF.addr W.K (.me "TreeGame" "side")) ["self"] b_TreeGame_side := fb_get (i := 71) H rfl rfl
theorem f_cls_SearchContext (H : IsK W) : clsStat W.K "SearchContext" = true := cls_get H (by unfold clsList; simp)
theorem f_cls_History (H : IsK W) : clsStat W.K "History" = true := cls_get H (by unfold clsList; simp)
theorem f_cls_Killers (H : IsK W) : clsStat W.K "Killers" = true := cls_get H (by unfold clsList; simp)
theorem f_cls_TransTable (H : IsK W) : clsStat W.K "TransTable" = true := cls_get H (by unfold clsList; simp)
theorem f_cls_Picker (H : IsK W) : clsStat W.K "Picker" = true := cls_get H (by unfold clsList; simp)
theorem f_cls_TreeGame (H : IsK W) : clsStat W.K "TreeGame" = true := cls_get H (by unfold clsList; simp)
theorem ao_SearchContext_game : attrOk "SearchContext" "game" = true := rfl
theorem ao_SearchContext_table : attrOk "SearchContext" "table" = true := rfl
theorem ao_SearchContext_killers : attrOk "SearchContext" "killers" = true := rfl
theorem ao_SearchContext_history : attrOk "SearchContext" "history" = true := rfl
theorem ao_SearchContext_qdepth : attrOk "SearchContext" "qdepth" = true := rfl
theorem ao_SearchContext_is_exact : attrOk "SearchContext" "is_exact" = true := rfl
theorem ao_SearchContext_max_nodes : attrOk "SearchContext" "max_nodes" = true := rfl
theorem ao_SearchContext_nodes : attrOk "SearchContext" "nodes" = true := rfl
theorem ao_SearchContext_made : attrOk "SearchContext" "made" = true := rfl
theorem ao_SearchContext_lines : attrOk "SearchContext" "lines" = true := rfl
theorem ao_History_limit : attrOk "History" "limit" = true := rfl
theorem ao_History_scores : attrOk "History" "scores" = true := rfl
theorem ao_Killers_plies : attrOk "Killers" "plies" = true := rfl
theorem ao_Killers_first : attrOk "Killers" "first" = true := rfl
theorem ao_Killers_second : attrOk "Killers" "second" = true := rfl
theorem ao_TransTable_clusters : attrOk "TransTable" "clusters" = true := rfl
theorem ao_TransTable_ways : attrOk "TransTable" "ways" = true := rfl
theorem ao_TransTable_age : attrOk "TransTable" "age" = true := rfl
theorem ao_TransTable_slots : attrOk "TransTable" "slots" = true := rfl
theorem ao_Picker_game : attrOk "Picker" "game" = true := rfl
theorem ao_Picker_left : attrOk "Picker" "left" = true := rfl
theorem ao_Picker_table_move : attrOk "Picker" "table_move" = true := rfl
theorem ao_Picker_killers : attrOk "Picker" "killers" = true := rfl
theorem ao_Picker_history : attrOk "Picker" "history" = true := rfl
theorem ao_Picker_ply : attrOk "Picker" "ply" = true := rfl
theorem ao_Picker_stage : attrOk "Picker" "stage" = true := rfl
theorem ao_Picker_ready : attrOk "Picker" "ready" = true := rfl
theorem ao_Picker_losing : attrOk "Picker" "losing" = true := rfl
theorem ao_TreeGame_children : attrOk "TreeGame" "children" = true := rfl
theorem ao_TreeGame_values : attrOk "TreeGame" "values" = true := rfl
theorem ao_TreeGame_checks : attrOk "TreeGame" "checks" = true := rfl
theorem ao_TreeGame_draws : attrOk "TreeGame" "draws" = true := rfl
theorem ao_TreeGame_noisy_rows : attrOk "TreeGame" "noisy_rows" = true := rfl
theorem ao_TreeGame_gain_rows : attrOk "TreeGame" "gain_rows" = true := rfl
theorem ao_TreeGame_path : attrOk "TreeGame" "path" = true := rfl
theorem mo_SearchContext_tick : methOk "SearchContext" "tick" = true := rfl
theorem mo_History_get : methOk "History" "get" = true := rfl
theorem mo_History_update : methOk "History" "update" = true := rfl
theorem mo_History_bonus : methOk "History" "bonus" = true := rfl
theorem mo_Killers_add : methOk "Killers" "add" = true := rfl
theorem mo_Killers_pair : methOk "Killers" "pair" = true := rfl
theorem mo_Killers_clear : methOk "Killers" "clear" = true := rfl
theorem mo_TransTable_probe : methOk "TransTable" "probe" = true := rfl
theorem mo_TransTable_save : methOk "TransTable" "save" = true := rfl
theorem mo_TransTable_new_search : methOk "TransTable" "new_search" = true := rfl
theorem mo_Picker_next : methOk "Picker" "next" = true := rfl
theorem mo_Picker_fill : methOk "Picker" "fill" = true := rfl
theorem mo_Picker_fill_table : methOk "Picker" "fill_table" = true := rfl
theorem mo_Picker_fill_good : methOk "Picker" "fill_good" = true := rfl
theorem mo_Picker_fill_killers : methOk "Picker" "fill_killers" = true := rfl
theorem mo_TreeGame_moves : methOk "TreeGame" "moves" = true := rfl
theorem mo_TreeGame_noisy : methOk "TreeGame" "noisy" = true := rfl
theorem mo_TreeGame_make : methOk "TreeGame" "make" = true := rfl
theorem mo_TreeGame_undo : methOk "TreeGame" "undo" = true := rfl
theorem mo_TreeGame_value : methOk "TreeGame" "value" = true := rfl
theorem mo_TreeGame_key : methOk "TreeGame" "key" = true := rfl
theorem mo_TreeGame_in_check : methOk "TreeGame" "in_check" = true := rfl
theorem mo_TreeGame_is_draw : methOk "TreeGame" "is_draw" = true := rfl
theorem mo_TreeGame_is_noisy : methOk "TreeGame" "is_noisy" = true := rfl
theorem mo_TreeGame_gain : methOk "TreeGame" "gain" = true := rfl
theorem mo_TreeGame_side : methOk "TreeGame" "side" = true := rfl
theorem a_attr {a : Addr} {x : Str} {σ : AH} {Q : V → AH → Prop} : wpAttr (.ref a) x σ Q = onS (fun o => onN (fun C d => onS (fun o2 => onD (fun fs => onS (fun v => onA (Q v σ) ⟨⟩ (attrOk C x)) ⟨⟩ (getF fs x)) ⟨⟩ o2) ⟨⟩ (σ d)) ⟨⟩ o) ⟨⟩ (σ a) := rfl
theorem a_setAttr {a : Addr} {x : Str} {v : V} {σ : AH} {Q : AH → Prop} : wpSetAttr (.ref a) x v σ Q = onS (fun o => onN (fun C d => onS (fun o2 => onD (fun fs => onA (fs.length ≤ 900 ∧ Q (σ.set d (.dict (setF fs x v)))) ⟨⟩ (attrOk C x)) ⟨⟩ o2) ⟨⟩ (σ d)) ⟨⟩ o) ⟨⟩ (σ a) := rfl
theorem ra {a d : Addr} {C x : Str} {fs : List (Str × V)} {v : V} {σ : AH} {Q : V → AH → Prop} (h1 : σ a = some (.inst C d)) (h2 : σ d = some (.dict fs)) (h3 : getF fs x = some v) (h4 : attrOk C x = true) : wpAttr (.ref a) x σ Q = Q v σ := by
 rw [a_attr, h1, o_some, o_inst, h2, o_some, o_dict, h3, o_some, h4, oa_true]
theorem rsa {a d : Addr} {C x : Str} {fs : List (Str × V)} {v : V} {σ : AH} {Q : AH → Prop} (h1 : σ a = some (.inst C d)) (h2 : σ d = some (.dict fs)) (h4 : attrOk C x = true) : wpSetAttr (.ref a) x v σ Q = (fs.length ≤ 900 ∧ Q (σ.set d (.dict (setF fs x v)))) := by
 rw [a_setAttr, h1, o_some, o_inst, h2, o_some, o_dict, h4, oa_true]
theorem rsS {a d : Addr} {C x : Str} {fs : List (Str × V)} {v : V} {σ : AH} {Q : AH → Prop} (h1 : σ a = some (.inst C d)) (n : a ≠ d) (h4 : attrOk C x = true) : wpSetAttr (.ref a) x v (σ.set d (.dict fs)) Q = (fs.length ≤ 900 ∧ Q (σ.set d (.dict (setF fs x v)))) := by
 rw [rsa ((if_neg n).trans h1) (if_pos rfl) h4]
 congr 2; funext b; unfold AH.set; split <;> rfl
theorem a_sub {a : Addr} {i : Int} {σ : AH} {Q : V → AH → Prop} : wpSub (.ref a) (.int i) σ Q = onS (fun o => onL (fun l => onS (fun k => onS (fun v => smallI i ∧ sizeOk l.length ∧ Q v σ) ⟨⟩ l[k]?) ⟨⟩ (pyIdx i l.length)) ⟨⟩ o) ⟨⟩ (σ a) := rfl
theorem a_subF {a : Addr} {x : Str} {σ : AH} {Q : V → AH → Prop} : wpSub (.ref a) (.str x) σ Q = onS (fun o => onD (fun fs => onS (fun v => Q v σ) ⟨⟩ (getF fs x)) ⟨⟩ o) ⟨⟩ (σ a) := rfl
theorem a_slc {a : Addr} {n : Nat} {σ : AH} {Q : V → AH → Prop} : wpSlc (.ref a) n σ Q = onS (fun o => onF (fun l => sizeOk l.length ∧ ∀ c, σ c = Option.none → Q (.ref c) (σ.set c (.list (l.take n)))) ⟨⟩ o) ⟨⟩ (σ a) := rfl
theorem a_subT {l : List V} {i : Int} {σ : AH} {Q : V → AH → Prop} {k : Nat} {v : V} (hi : pyIdx i l.length = some k) (hv : l[k]? = some v) (h : smallI i) : wpSub (.tup l) (.int i) σ Q = Q v σ := by
 show onS _ ⟨⟩ (pyIdx i l.length) = _
 rw [hi]
 show onS _ ⟨⟩ (l[k]?) = _
 rw [hv]
 exact propext ⟨fun q => q.2, fun q => ⟨h, q⟩⟩
section
variable {σ : AH} {Q : V → AH → Prop} {u v w x y : V} {l : List V}
theorem pI {k n : Nat} (h : k < n) : pyIdx (k : Int) n = some k := by
 unfold pyIdx; rw [if_pos (by omega), if_pos (by omega), Int.toNat_natCast]
theorem a_sT0 : wpSub (.tup (v :: l)) (.int 0) σ Q = Q v σ := a_subT (k := 0) (pI (k := 0) (by simp)) rfl (by unfold smallI; omega)
theorem a_sT1 : wpSub (.tup (u :: v :: l)) (.int 1) σ Q = Q v σ := a_subT (k := 1) (pI (k := 1) (by simp)) rfl (by unfold smallI; omega)
theorem a_sT2 : wpSub (.tup (u :: w :: v :: l)) (.int 2) σ Q = Q v σ := a_subT (k := 2) (pI (k := 2) (by simp)) rfl (by unfold smallI; omega)
theorem a_sT3 : wpSub (.tup (u :: w :: x :: v :: l)) (.int 3) σ Q = Q v σ := a_subT (k := 3) (pI (k := 3) (by simp)) rfl (by unfold smallI; omega)
theorem a_sT4 : wpSub (.tup (u :: w :: x :: y :: v :: l)) (.int 4) σ Q = Q v σ := a_subT (k := 4) (pI (k := 4) (by simp)) rfl (by unfold smallI; omega)
end
theorem a_setSub {a : Addr} {i : Int} {v : V} {σ : AH} {Q : AH → Prop} {l : List V} (h : σ a = some (.list l)) : wpSetSub (.ref a) (.int i) v σ Q = (0 ≤ i ∧ i < l.length ∧ sizeOk l.length ∧ Q (σ.set a (.list (l.set i.toNat v)))) := by
 show onS _ ⟨⟩ _ = _; rw [h]; rfl
theorem a_setSubI {a : Addr} {i : Int} {v : V} {σ : AH} {Q : AH → Prop} {l : List (Int × V)} (h : σ a = some (.idict l)) : wpSetSub (.ref a) (.int i) v σ Q = (l.length ≤ 1000000 ∧ Q (σ.set a (.idict (setI l i v)))) := by
 show onS _ ⟨⟩ _ = _; rw [h]; rfl
theorem a_setSubF {a : Addr} {x : Str} {v : V} {σ : AH} {Q : AH → Prop} {fs : List (Str × V)} (h : σ a = some (.dict fs)) : wpSetSub (.ref a) (.str x) v σ Q = (fs.length ≤ 900 ∧ Q (σ.set a (.dict (setF fs x v)))) := by
 show onS _ ⟨⟩ _ = _; rw [h]; rfl
theorem a_inst {a : Addr} {x : Str} {σ : AH} {C : Str} {d : Addr} {fs : List (Str × V)} (h : σ a = some (.inst C d)) (h2 : σ d = some (.dict fs)) (hm : methOk C x = true) (hn : getF fs x = Option.none) : methKind (.ref a) x σ = some (.inst C) := by
 show (σ a).bind _ = _; rw [h]
 show (σ d).bind _ = _; rw [h2]
 show (if methOk C x && (getF fs x).isNone then _ else _) = _
 rw [hm, hn]; rfl
theorem a_list {a : Addr} {x : Str} {σ : AH} {l : List V} (h : σ a = some (.list l)) (hx : x = "append" ∨ x = "pop" ∨ x = "remove") : methKind (.ref a) x σ = some .list := by
 show (σ a).bind _ = _; rw [h]
 exact if_pos (decide_eq_true hx)
theorem a_idict {a : Addr} {σ : AH} {l : List (Int × V)} (h : σ a = some (.idict l)) : methKind (.ref a) "get" σ = some .idict := by
 show (σ a).bind _ = _; rw [h]
 exact if_pos (e := (Option.none : Option MK)) (decide_eq_true (rfl : Str.ofString "get" = Str.ofString "get"))
theorem m_inst {Z : CallP} {C : Str} {v : V} {x : Str} {vs : List V} {σ : AH} {Q} : wpMeth Z (.inst C) v x vs σ Q = callB Z Q ⟨⟩ (.me C x) (v :: vs) σ := rfl
theorem m_lst {Z : CallP} {a : Addr} {x : Str} {vs : List V} {σ : AH} {Q} {l : List V} (h : σ a = some (.list l)) : wpMeth Z .list (.ref a) x vs σ Q = (sizeOk l.length ∧ (if x = "append" then wpApp a l σ Q vs else if x = "pop" then wpPop a l σ Q vs else if x = "remove" then wpRem a l σ Q vs else False)) := by
 show onS _ ⟨⟩ _ = _; rw [h]; rfl
theorem m_app {Z : CallP} {a : Addr} {v : V} {σ : AH} {Q} {l : List V} (h : σ a = some (.list l)) : wpMeth Z .list (.ref a) "append" [v] σ Q = (sizeOk l.length ∧ Q .none (σ.set a (.list (l ++ [v])))) := by
 rw [m_lst h, if_pos rfl]; rfl
theorem m_pop {Z : CallP} {a : Addr} {σ : AH} {Q} {l : List V} (h : σ a = some (.list l)) : wpMeth Z .list (.ref a) "pop" [] σ Q = (sizeOk l.length ∧ onS (fun v => Q v (σ.set a (.list l.dropLast))) ⟨⟩ l.getLast?) := by
 rw [m_lst h, if_neg (str_ne (by decide)), if_pos rfl]; rfl
theorem m_popAt {Z : CallP} {a : Addr} {i : Int} {σ : AH} {Q} {l : List V} (h : σ a = some (.list l)) : wpMeth Z .list (.ref a) "pop" [.int i] σ Q = (sizeOk l.length ∧ onS (fun k => onS (fun v => smallI i ∧ Q v (σ.set a (.list (l.eraseIdx k)))) ⟨⟩ l[k]?) ⟨⟩ (pyIdx i l.length)) := by
 rw [m_lst h, if_neg (str_ne (by decide)), if_pos rfl]; rfl
theorem m_remove {Z : CallP} {a : Addr} {i : Int} {σ : AH} {Q} {l : List V} {xs : List Int} (h : σ a = some (.list l)) (hx : asInts l = some xs) : wpMeth Z .list (.ref a) "remove" [.int i] σ Q = (sizeOk l.length ∧ xs.contains i = true ∧ Q .none (σ.set a (.list ((xs.erase i).map .int)))) := by
 rw [m_lst h, if_neg (str_ne (by decide)), if_neg (str_ne (by decide)), if_pos rfl]
 show (_ ∧ onS _ ⟨⟩ (asInts l)) = _
 rw [hx]; rfl
theorem m_get {Z : CallP} {a : Addr} {k : Int} {v : V} {σ : AH} {Q} {l : List (Int × V)} (h : σ a = some (.idict l)) : wpMeth Z .idict (.ref a) "get" [.int k, v] σ Q = Q ((getI l k).getD v) σ := by
 show onS _ ⟨⟩ _ = _; rw [h]; rfl
theorem a_truth {a : Addr} {σ : AH} {Q : Bool → AH → Prop} {l : List V} (h : σ a = some (.list l)) : wpTruth (.ref a) σ Q = (sizeOk l.length ∧ Q (!l.isEmpty) σ) := by
 show onS _ ⟨⟩ _ = _; rw [h]; rfl
theorem a_len {a : Addr} {σ : AH} {Q : V → AH → Prop} {l : List V} (h : σ a = some (.list l)) : wpBi .len [.ref a] σ Q = (sizeOk l.length ∧ Q (.int l.length) σ) := by
 show onS _ ⟨⟩ _ = _; rw [h]; rfl
theorem intsAt_eq {a : Addr} {σ : AH} {K : List Int → Prop} {l : List V} {xs : List Int} (h : σ a = some (.list l)) (hx : asInts l = some xs) : intsAt σ a K = K xs := by
 show onS _ ⟨⟩ _ = _; rw [h]
 show onS _ ⟨⟩ (asInts l) = _; rw [hx]; rfl
theorem a_in {a : Addr} {i : Int} {σ : AH} {Q : Bool → AH → Prop} {l : List V} {xs : List Int} (h : σ a = some (.list l)) (hx : asInts l = some xs) : wpCmp .In (.int i) (.ref a) σ Q = Q (xs.contains i) σ := intsAt_eq h hx
theorem a_notin {a : Addr} {i : Int} {σ : AH} {Q : Bool → AH → Prop} {l : List V} {xs : List Int} (h : σ a = some (.list l)) (hx : asInts l = some xs) : wpCmp .NotIn (.int i) (.ref a) σ Q = Q (!xs.contains i) σ := intsAt_eq h hx
theorem a_listOf {a : Addr} {σ : AH} {Q : V → AH → Prop} {l : List V} (h : σ a = some (.list l)) : wpBi .list [.ref a] σ Q = (sizeOk l.length ∧ ∀ c, σ c = Option.none → Q (.ref c) (σ.set c (.list l))) := by
 show onS _ ⟨⟩ _ = _; rw [h]; rfl
theorem a_iter {a : Addr} {σ : AH} {l : List V} (h : σ a = some (.list l)) : iterOf (.ref a) σ = some l := by
 show (σ a).bind _ = _; rw [h]; rfl
theorem a_max {a : Addr} {σ : AH} {Q : V → AH → Prop} {l : List V} {x : Int} {xs : List Int} (h : σ a = some (.list l)) (hx : asInts l = some (x :: xs)) : wpBi .max [.ref a] σ Q = (sizeOk l.length ∧ Q (.int (xs.foldl max x)) σ) := by
 show onS _ ⟨⟩ _ = _; rw [h]
 show onS _ ⟨⟩ (asInts l) = _; rw [hx]; rfl
theorem a_cat {a b : Addr} {σ : AH} {Q : V → AH → Prop} {l k : List V} (h : σ a = some (.list l)) (h2 : σ b = some (.list k)) : wpBin .Add (.ref a) (.ref b) σ Q = (sizeOk (l.length + k.length) ∧ ∀ c, σ c = Option.none → Q (.ref c) (σ.set c (.list (l ++ k)))) := by
 show onS _ ⟨⟩ (σ a) = _; rw [h]
 show onS _ ⟨⟩ (σ b) = _; rw [h2]; rfl
theorem a_rep {a : Addr} {n : Int} {σ : AH} {Q : V → AH → Prop} {v : V} (h : σ a = some (.list [v])) : wpBin .Mult (.ref a) (.int n) σ Q = (0 ≤ n ∧ n ≤ 1000000 ∧ ∀ c, σ c = Option.none → Q (.ref c) (σ.set c (.list (List.replicate n.toNat v)))) := by
 show onS _ ⟨⟩ (σ a) = _; rw [h]; rfl
theorem a_eqL {a b : Addr} {σ : AH} {Q : Bool → AH → Prop} {l k : List V} {xs ys : List Int} (h : σ a = some (.list l)) (h2 : σ b = some (.list k)) (hx : asInts l = some xs) (hy : asInts k = some ys) : wpCmp .Eq (.ref a) (.ref b) σ Q = Q (decide (xs = ys)) σ :=
 (intsAt_eq h hx).trans (intsAt_eq h2 hy)
theorem a_neL {a b : Addr} {σ : AH} {Q : Bool → AH → Prop} {l k : List V} {xs ys : List Int} (h : σ a = some (.list l)) (h2 : σ b = some (.list k)) (hx : asInts l = some xs) (hy : asInts k = some ys) : wpCmp .NotEq (.ref a) (.ref b) σ Q = Q (decide (xs ≠ ys)) σ :=
 (intsAt_eq h hx).trans (intsAt_eq h2 hy)
theorem set_at {σ : AH} {a : Addr} {o : AO} : (σ.set a o) a = some o := if_pos rfl
theorem set_ne {σ : AH} {a b : Addr} {o : AO} (h : b ≠ a) : (σ.set a o) b = σ b := if_neg h
theorem set_old {σ : AH} {a b : Addr} {o o' : AO} (h : σ b = some o') (n : σ a = Option.none) : (σ.set a o) b = some o' := by
 rw [set_ne (fun e => by rw [e, n] at h; cases h)]; exact h
theorem c_eq {a b : Int} {σ : AH} {Q : Bool → AH → Prop} : wpCmp .Eq (.int a) (.int b) σ Q = Q (decide (a = b)) σ := rfl
theorem c_ne {a b : Int} {σ : AH} {Q : Bool → AH → Prop} : wpCmp .NotEq (.int a) (.int b) σ Q = Q (decide (a ≠ b)) σ := rfl
theorem c_lt {a b : Int} {σ : AH} {Q : Bool → AH → Prop} : wpCmp .Lt (.int a) (.int b) σ Q = Q (decide (a < b)) σ := rfl
theorem c_le {a b : Int} {σ : AH} {Q : Bool → AH → Prop} : wpCmp .LtE (.int a) (.int b) σ Q = Q (decide (a ≤ b)) σ := rfl
theorem c_gt {a b : Int} {σ : AH} {Q : Bool → AH → Prop} : wpCmp .Gt (.int a) (.int b) σ Q = Q (decide (b < a)) σ := rfl
theorem c_ge {a b : Int} {σ : AH} {Q : Bool → AH → Prop} : wpCmp .GtE (.int a) (.int b) σ Q = Q (decide (b ≤ a)) σ := rfl
theorem c_is_none {σ : AH} {Q : Bool → AH → Prop} : wpCmp .Is .none .none σ Q = Q true σ := rfl
theorem c_is_int {i : Int} {σ : AH} {Q : Bool → AH → Prop} : wpCmp .Is (.int i) .none σ Q = Q false σ := rfl
theorem c_is_ref {i : Addr} {σ : AH} {Q : Bool → AH → Prop} : wpCmp .Is (.ref i) .none σ Q = Q false σ := rfl
theorem c_is_tup {i : List V} {σ : AH} {Q : Bool → AH → Prop} : wpCmp .Is (.tup i) .none σ Q = Q false σ := rfl
theorem c_isnot_none {σ : AH} {Q : Bool → AH → Prop} : wpCmp .IsNot .none .none σ Q = Q false σ := rfl
theorem c_isnot_int {i : Int} {σ : AH} {Q : Bool → AH → Prop} : wpCmp .IsNot (.int i) .none σ Q = Q true σ := rfl
theorem c_isnot_ref {i : Addr} {σ : AH} {Q : Bool → AH → Prop} : wpCmp .IsNot (.ref i) .none σ Q = Q true σ := rfl
theorem n_add {a b : Int} {σ : AH} {Q : V → AH → Prop} : wpBin .Add (.int a) (.int b) σ Q = Q (.int (a + b)) σ := rfl
theorem n_sub {a b : Int} {σ : AH} {Q : V → AH → Prop} : wpBin .Sub (.int a) (.int b) σ Q = Q (.int (a - b)) σ := rfl
theorem n_mul {a b : Int} {σ : AH} {Q : V → AH → Prop} : wpBin .Mult (.int a) (.int b) σ Q = (smallI a ∧ smallI b ∧ Q (.int (a * b)) σ) := rfl
theorem n_div {a b : Int} {σ : AH} {Q : V → AH → Prop} : wpBin .FloorDiv (.int a) (.int b) σ Q = (smallI a ∧ smallI b ∧ b ≠ 0 ∧ Q (.int (a.fdiv b)) σ) := rfl
theorem n_mod {a b : Int} {σ : AH} {Q : V → AH → Prop} : wpBin .Mod (.int a) (.int b) σ Q = (b ≠ 0 ∧ Q (.int (a.fmod b)) σ) := rfl
theorem n_shl {a b : Int} {σ : AH} {Q : V → AH → Prop} : wpBin .LShift (.int a) (.int b) σ Q = (smallI a ∧ 0 ≤ b ∧ b ≤ 64 ∧ Q (.int (a * 2 ^ b.toNat)) σ) := rfl
theorem n_shr {a b : Int} {σ : AH} {Q : V → AH → Prop} : wpBin .RShift (.int a) (.int b) σ Q = (0 ≤ b ∧ Q (.int (a.fdiv (2 ^ b.toNat))) σ) := rfl
theorem n_and {a b : Int} {σ : AH} {Q : V → AH → Prop} : wpBin .BitAnd (.int a) (.int b) σ Q = Q (.int (Builtin.bitAnd a b)) σ := rfl
theorem n_or {a b : Int} {σ : AH} {Q : V → AH → Prop} : wpBin .BitOr (.int a) (.int b) σ Q = Q (.int (Builtin.bitOr a b)) σ := rfl
theorem tr_bool {b : Bool} {σ : AH} {Q : Bool → AH → Prop} : wpTruth (.bool b) σ Q = Q b σ := rfl
theorem tr_none {σ : AH} {Q : Bool → AH → Prop} : wpTruth .none σ Q = Q false σ := rfl
theorem i_min {a b : Int} {σ : AH} {Q : V → AH → Prop} : wpBi .min [.int a, .int b] σ Q = Q (.int (min a b)) σ := rfl
theorem i_max {a b : Int} {σ : AH} {Q : V → AH → Prop} : wpBi .max [.int a, .int b] σ Q = Q (.int (max a b)) σ := rfl
theorem i_abs {a : Int} {σ : AH} {Q : V → AH → Prop} : wpBi .abs [.int a] σ Q = Q (.int (a.natAbs : Int)) σ := rfl
theorem i_rng1 {b : Int} {σ : AH} {Q : V → AH → Prop} : wpBi .range [.int b] σ Q = (smallI b ∧ Q (.rng 0 b 1) σ) := rfl
theorem i_rng2 {a b : Int} {σ : AH} {Q : V → AH → Prop} : wpBi .range [.int a, .int b] σ Q = (smallI a ∧ smallI b ∧ Q (.rng a b 1) σ) := rfl
theorem i_rng3 {a b c : Int} {σ : AH} {Q : V → AH → Prop} : wpBi .range [.int a, .int b, .int c] σ Q = (smallI a ∧ smallI b ∧ c = -1 ∧ Q (.rng a b c) σ) := rfl
theorem i_listR {a b d : Int} {σ : AH} {Q : V → AH → Prop} : wpBi .list [.rng a b d] σ Q = (smallI a ∧ smallI b ∧ d = 1 ∧ sizeOk (rngSize a b d) ∧ ∀ c, σ c = Option.none → Q (.ref c) (σ.set c (.list ((rngItems a b d).map .int)))) := rfl
theorem it_rng {a b c : Int} {σ : AH} : iterOf (.rng a b c) σ = some ((rngItems a b c).map .int) := rfl
theorem it_tup {l : List V} {σ : AH} : iterOf (.tup l) σ = some l := rfl
theorem c_in {i : Int} {l : List V} {σ : AH} {Q : Bool → AH → Prop} {xs : List Int} (h : asInts l = some xs) : wpCmp .In (.int i) (.tup l) σ Q = Q (xs.contains i) σ := by
 show onS _ ⟨⟩ (asInts l) = _; rw [h]; rfl
theorem c_notin {i : Int} {l : List V} {σ : AH} {Q : Bool → AH → Prop} {xs : List Int} (h : asInts l = some xs) : wpCmp .NotIn (.int i) (.tup l) σ Q = Q (!xs.contains i) σ := by
 show onS _ ⟨⟩ (asInts l) = _; rw [h]; rfl
theorem smallOf {i : Int} (h1 : -1000000000000000000 ≤ i) (h2 : i ≤ 1000000000000000000) : smallI i := by
 unfold smallI; omega
theorem N0 : cd "AGES" = 654 := rfl
theorem S0 : sq "AGES" "AGES" = true := rfl
theorem N1 : cd "BOUND_EXACT" = 2175 := rfl
theorem S1 : sq "BOUND_EXACT" "BOUND_EXACT" = true := rfl
theorem N2 : cd "BOUND_LOWER" = 1390 := rfl
theorem S2 : sq "BOUND_LOWER" "BOUND_LOWER" = true := rfl
theorem N3 : cd "BOUND_NONE" = 261 := rfl
theorem S3 : sq "BOUND_NONE" "BOUND_NONE" = true := rfl
theorem N4 : cd "BOUND_UPPER" = 1848 := rfl
theorem S4 : sq "BOUND_UPPER" "BOUND_UPPER" = true := rfl
theorem N5 : cd "DEPTH_LEAST" = 36 := rfl
theorem S5 : sq "DEPTH_LEAST" "DEPTH_LEAST" = true := rfl
theorem N6 : cd "DEPTH_MOST" = 762 := rfl
theorem S6 : sq "DEPTH_MOST" "DEPTH_MOST" = true := rfl
theorem N7 : cd "DRAW" = 488 := rfl
theorem S7 : sq "DRAW" "DRAW" = true := rfl
theorem N8 : cd "END_STAGE" = 2128 := rfl
theorem S8 : sq "END_STAGE" "END_STAGE" = true := rfl
theorem N9 : cd "GOOD_STAGE" = 835 := rfl
theorem S9 : sq "GOOD_STAGE" "GOOD_STAGE" = true := rfl
theorem N10 : cd "History" = 35 := rfl
theorem S10 : sq "History" "History" = true := rfl
theorem N11 : cd "IID_DEPTH" = 1988 := rfl
theorem S11 : sq "IID_DEPTH" "IID_DEPTH" = true := rfl
theorem N12 : cd "INFINITE" = 199 := rfl
theorem S12 : sq "INFINITE" "INFINITE" = true := rfl
theorem N13 : cd "KEY_AT" = 1558 := rfl
theorem S13 : sq "KEY_AT" "KEY_AT" = true := rfl
theorem N14 : cd "KILLER_STAGE" = 1424 := rfl
theorem S14 : sq "KILLER_STAGE" "KILLER_STAGE" = true := rfl
theorem N15 : cd "Killers" = 237 := rfl
theorem S15 : sq "Killers" "Killers" = true := rfl
theorem N16 : cd "MATE" = 561 := rfl
theorem S16 : sq "MATE" "MATE" = true := rfl
theorem N17 : cd "MATE_LEAST" = 433 := rfl
theorem S17 : sq "MATE_LEAST" "MATE_LEAST" = true := rfl
theorem N18 : cd "NO_MOVE" = 754 := rfl
theorem S18 : sq "NO_MOVE" "NO_MOVE" = true := rfl
theorem N19 : cd "Picker" = 1392 := rfl
theorem S19 : sq "Picker" "Picker" = true := rfl
theorem N20 : cd "QUIET_STAGE" = 2050 := rfl
theorem S20 : sq "QUIET_STAGE" "QUIET_STAGE" = true := rfl
theorem N21 : cd "SearchContext" = 1220 := rfl
theorem S21 : sq "SearchContext" "SearchContext" = true := rfl
theorem N22 : cd "TABLE_STAGE" = 568 := rfl
theorem S22 : sq "TABLE_STAGE" "TABLE_STAGE" = true := rfl
theorem N23 : cd "TransTable" = 389 := rfl
theorem S23 : sq "TransTable" "TransTable" = true := rfl
theorem N24 : cd "TreeGame" = 1684 := rfl
theorem S24 : sq "TreeGame" "TreeGame" = true := rfl
theorem N25 : cd "VALUE_MOST" = 455 := rfl
theorem S25 : sq "VALUE_MOST" "VALUE_MOST" = true := rfl
theorem N26 : cd "__init__" = 312 := rfl
theorem S26 : sq "__init__" "__init__" = true := rfl
theorem N27 : cd "_law_deep_rows" = 198 := rfl
theorem S27 : sq "_law_deep_rows" "_law_deep_rows" = true := rfl
theorem N28 : cd "_law_is_told_well" = 1041 := rfl
theorem S28 : sq "_law_is_told_well" "_law_is_told_well" = true := rfl
theorem N29 : cd "_law_leads" = 1451 := rfl
theorem S29 : sq "_law_leads" "_law_leads" = true := rfl
theorem N30 : cd "_law_mate" = 1813 := rfl
theorem S30 : sq "_law_mate" "_law_mate" = true := rfl
theorem N31 : cd "_law_pull" = 195 := rfl
theorem S31 : sq "_law_pull" "_law_pull" = true := rfl
theorem N32 : cd "_law_quiet" = 662 := rfl
theorem S32 : sq "_law_quiet" "_law_quiet" = true := rfl
theorem N33 : cd "_law_quiet_rows" = 481 := rfl
theorem S33 : sq "_law_quiet_rows" "_law_quiet_rows" = true := rfl
theorem N34 : cd "_law_raised" = 817 := rfl
theorem S34 : sq "_law_raised" "_law_raised" = true := rfl
theorem N35 : cd "_law_rows_are_true" = 989 := rfl
theorem S35 : sq "_law_rows_are_true" "_law_rows_are_true" = true := rfl
theorem N36 : cd "_law_ways" = 1277 := rfl
theorem S36 : sq "_law_ways" "_law_ways" = true := rfl
theorem N37 : cd "_law_window" = 19 := rfl
theorem S37 : sq "_law_window" "_law_window" = true := rfl
theorem N38 : cd "_law_world" = 327 := rfl
theorem S38 : sq "_law_world" "_law_world" = true := rfl
theorem N39 : cd "add" = 278 := rfl
theorem S39 : sq "add" "add" = true := rfl
theorem N40 : cd "age" = 672 := rfl
theorem S40 : sq "age" "age" = true := rfl
theorem N41 : cd "alpha" = 1749 := rfl
theorem S41 : sq "alpha" "alpha" = true := rfl
theorem N42 : cd "append" = 1133 := rfl
theorem S42 : sq "append" "append" = true := rfl
theorem N43 : cd "at" = 279 := rfl
theorem S43 : sq "at" "at" = true := rfl
theorem N44 : cd "best" = 471 := rfl
theorem S44 : sq "best" "best" = true := rfl
theorem N45 : cd "best_move" = 2200 := rfl
theorem S45 : sq "best_move" "best_move" = true := rfl
theorem N46 : cd "beta" = 583 := rfl
theorem S46 : sq "beta" "beta" = true := rfl
theorem N47 : cd "bonus" = 72 := rfl
theorem S47 : sq "bonus" "bonus" = true := rfl
theorem N48 : cd "bound" = 447 := rfl
theorem S48 : sq "bound" "bound" = true := rfl
theorem N49 : cd "by" = 415 := rfl
theorem S49 : sq "by" "by" = true := rfl
theorem N50 : cd "checks" = 2006 := rfl
theorem S50 : sq "checks" "checks" = true := rfl
theorem N51 : cd "child" = 42 := rfl
theorem S51 : sq "child" "child" = true := rfl
theorem N52 : cd "children" = 1362 := rfl
theorem S52 : sq "children" "children" = true := rfl
theorem N53 : cd "clear" = 1695 := rfl
theorem S53 : sq "clear" "clear" = true := rfl
theorem N54 : cd "clear_line" = 729 := rfl
theorem S54 : sq "clear_line" "clear_line" = true := rfl
theorem N55 : cd "clusters" = 811 := rfl
theorem S55 : sq "clusters" "clusters" = true := rfl
theorem N56 : cd "ctx" = 156 := rfl
theorem S56 : sq "ctx" "ctx" = true := rfl
theorem N57 : cd "cutoff" = 708 := rfl
theorem S57 : sq "cutoff" "cutoff" = true := rfl
theorem N58 : cd "deep" = 220 := rfl
theorem S58 : sq "deep" "deep" = true := rfl
theorem N59 : cd "depth" = 1144 := rfl
theorem S59 : sq "depth" "depth" = true := rfl
theorem N60 : cd "draws" = 86 := rfl
theorem S60 : sq "draws" "draws" = true := rfl
theorem N61 : cd "entry" = 118 := rfl
theorem S61 : sq "entry" "entry" = true := rfl
theorem N62 : cd "fill" = 529 := rfl
theorem S62 : sq "fill" "fill" = true := rfl
theorem N63 : cd "fill_good" = 684 := rfl
theorem S63 : sq "fill_good" "fill_good" = true := rfl
theorem N64 : cd "fill_killers" = 482 := rfl
theorem S64 : sq "fill_killers" "fill_killers" = true := rfl
theorem N65 : cd "fill_table" = 259 := rfl
theorem S65 : sq "fill_table" "fill_table" = true := rfl
theorem N66 : cd "find_slot" = 608 := rfl
theorem S66 : sq "find_slot" "find_slot" = true := rfl
theorem N67 : cd "first" = 1923 := rfl
theorem S67 : sq "first" "first" = true := rfl
theorem N68 : cd "found" = 371 := rfl
theorem S68 : sq "found" "found" = true := rfl
theorem N69 : cd "from_table" = 1247 := rfl
theorem S69 : sq "from_table" "from_table" = true := rfl
theorem N70 : cd "gain" = 1886 := rfl
theorem S70 : sq "gain" "gain" = true := rfl
theorem N71 : cd "gain_rows" = 2135 := rfl
theorem S71 : sq "gain_rows" "gain_rows" = true := rfl
theorem N72 : cd "gains" = 401 := rfl
theorem S72 : sq "gains" "gains" = true := rfl
theorem N73 : cd "game" = 116 := rfl
theorem S73 : sq "game" "game" = true := rfl
theorem N74 : cd "get" = 566 := rfl
theorem S74 : sq "get" "get" = true := rfl
theorem N75 : cd "good" = 706 := rfl
theorem S75 : sq "good" "good" = true := rfl
theorem N76 : cd "has_past" = 1112 := rfl
theorem S76 : sq "has_past" "has_past" = true := rfl
theorem N77 : cd "high" = 1457 := rfl
theorem S77 : sq "high" "high" = true := rfl
theorem N78 : cd "history" = 1742 := rfl
theorem S78 : sq "history" "history" = true := rfl
theorem N79 : cd "in_check" = 1011 := rfl
theorem S79 : sq "in_check" "in_check" = true := rfl
theorem N80 : cd "is_draw" = 776 := rfl
theorem S80 : sq "is_draw" "is_draw" = true := rfl
theorem N81 : cd "is_exact" = 1069 := rfl
theorem S81 : sq "is_exact" "is_exact" = true := rfl
theorem N82 : cd "is_first" = 783 := rfl
theorem S82 : sq "is_first" "is_first" = true := rfl
theorem N83 : cd "is_main" = 1702 := rfl
theorem S83 : sq "is_main" "is_main" = true := rfl
theorem N84 : cd "is_noisy" = 1758 := rfl
theorem S84 : sq "is_noisy" "is_noisy" = true := rfl
theorem N85 : cd "is_pv" = 966 := rfl
theorem S85 : sq "is_pv" "is_pv" = true := rfl
theorem N86 : cd "keep_value" = 1073 := rfl
theorem S86 : sq "keep_value" "keep_value" = true := rfl
theorem N87 : cd "key" = 665 := rfl
theorem S87 : sq "key" "key" = true := rfl
theorem N88 : cd "kids" = 28 := rfl
theorem S88 : sq "kids" "kids" = true := rfl
theorem N89 : cd "killer_pair" = 1057 := rfl
theorem S89 : sq "killer_pair" "killer_pair" = true := rfl
theorem N90 : cd "killers" = 1944 := rfl
theorem S90 : sq "killers" "killers" = true := rfl
theorem N91 : cd "law" = 1305 := rfl
theorem S91 : sq "law" "law" = true := rfl
theorem N92 : cd "leaf" = 1464 := rfl
theorem S92 : sq "leaf" "leaf" = true := rfl
theorem N93 : cd "left" = 2133 := rfl
theorem S93 : sq "left" "left" = true := rfl
theorem N94 : cd "limit" = 1524 := rfl
theorem S94 : sq "limit" "limit" = true := rfl
theorem N95 : cd "lines" = 2165 := rfl
theorem S95 : sq "lines" "lines" = true := rfl
theorem N96 : cd "look_up" = 1957 := rfl
theorem S96 : sq "look_up" "look_up" = true := rfl
theorem N97 : cd "losing" = 243 := rfl
theorem S97 : sq "losing" "losing" = true := rfl
theorem N98 : cd "loud" = 2032 := rfl
theorem S98 : sq "loud" "loud" = true := rfl
theorem N99 : cd "low" = 854 := rfl
theorem S99 : sq "low" "low" = true := rfl
theorem N100 : cd "made" = 1413 := rfl
theorem S100 : sq "made" "made" = true := rfl
theorem N101 : cd "make" = 45 := rfl
theorem S101 : sq "make" "make" = true := rfl
theorem N102 : cd "many" = 458 := rfl
theorem S102 : sq "many" "many" = true := rfl
theorem N103 : cd "marks" = 1248 := rfl
theorem S103 : sq "marks" "marks" = true := rfl
theorem N104 : cd "mate_in" = 1364 := rfl
theorem S104 : sq "mate_in" "mate_in" = true := rfl
theorem N105 : cd "mated_in" = 214 := rfl
theorem S105 : sq "mated_in" "mated_in" = true := rfl
theorem N106 : cd "max_nodes" = 1094 := rfl
theorem S106 : sq "max_nodes" "max_nodes" = true := rfl
theorem N107 : cd "merit" = 1876 := rfl
theorem S107 : sq "merit" "merit" = true := rfl
theorem N108 : cd "most" = 1437 := rfl
theorem S108 : sq "most" "most" = true := rfl
theorem N109 : cd "move" = 1815 := rfl
theorem S109 : sq "move" "move" = true := rfl
theorem N110 : cd "moves" = 240 := rfl
theorem S110 : sq "moves" "moves" = true := rfl
theorem N111 : cd "new_search" = 6 := rfl
theorem S111 : sq "new_search" "new_search" = true := rfl
theorem N112 : cd "next" = 1508 := rfl
theorem S112 : sq "next" "next" = true := rfl
theorem N113 : cd "nodes" = 2083 := rfl
theorem S113 : sq "nodes" "nodes" = true := rfl
theorem N114 : cd "noisy" = 613 := rfl
theorem S114 : sq "noisy" "noisy" = true := rfl
theorem N115 : cd "noisy_rows" = 1337 := rfl
theorem S115 : sq "noisy_rows" "noisy_rows" = true := rfl
theorem N116 : cd "numbers" = 485 := rfl
theorem S116 : sq "numbers" "numbers" = true := rfl
theorem N117 : cd "old" = 1655 := rfl
theorem S117 : sq "old" "old" = true := rfl
theorem N118 : cd "one" = 1918 := rfl
theorem S118 : sq "one" "one" = true := rfl
theorem N119 : cd "pack_entry" = 153 := rfl
theorem S119 : sq "pack_entry" "pack_entry" = true := rfl
theorem N120 : cd "pair" = 1034 := rfl
theorem S120 : sq "pair" "pair" = true := rfl
theorem N121 : cd "past_score" = 556 := rfl
theorem S121 : sq "past_score" "past_score" = true := rfl
theorem N122 : cd "path" = 180 := rfl
theorem S122 : sq "path" "path" = true := rfl
theorem N123 : cd "picker" = 1719 := rfl
theorem S123 : sq "picker" "picker" = true := rfl
theorem N124 : cd "place" = 1603 := rfl
theorem S124 : sq "place" "place" = true := rfl
theorem N125 : cd "plies" = 2067 := rfl
theorem S125 : sq "plies" "plies" = true := rfl
theorem N126 : cd "ply" = 557 := rfl
theorem S126 : sq "ply" "ply" = true := rfl
theorem N127 : cd "pop" = 941 := rfl
theorem S127 : sq "pop" "pop" = true := rfl
theorem N128 : cd "probe" = 1992 := rfl
theorem S128 : sq "probe" "probe" = true := rfl
theorem N129 : cd "pushes_out" = 4 := rfl
theorem S129 : sq "pushes_out" "pushes_out" = true := rfl
theorem N130 : cd "qdepth" = 1842 := rfl
theorem S130 : sq "qdepth" "qdepth" = true := rfl
theorem N131 : cd "quiesce" = 2237 := rfl
theorem S131 : sq "quiesce" "quiesce" = true := rfl
theorem N132 : cd "quiesce_moves" = 211 := rfl
theorem S132 : sq "quiesce_moves" "quiesce_moves" = true := rfl
theorem N133 : cd "quiet" = 1193 := rfl
theorem S133 : sq "quiet" "quiet" = true := rfl
theorem N134 : cd "quiets" = 1018 := rfl
theorem S134 : sq "quiets" "quiets" = true := rfl
theorem N135 : cd "ready" = 1874 := rfl
theorem S135 : sq "ready" "ready" = true := rfl
theorem N136 : cd "reel" = 2185 := rfl
theorem S136 : sq "reel" "reel" = true := rfl
theorem N137 : cd "remove" = 205 := rfl
theorem S137 : sq "remove" "remove" = true := rfl
theorem N138 : cd "reward" = 431 := rfl
theorem S138 : sq "reward" "reward" = true := rfl
theorem N139 : cd "row" = 995 := rfl
theorem S139 : sq "row" "row" = true := rfl
theorem N140 : cd "rows" = 215 := rfl
theorem S140 : sq "rows" "rows" = true := rfl
theorem N141 : cd "save" = 1677 := rfl
theorem S141 : sq "save" "save" = true := rfl
theorem N142 : cd "scale_down" = 1701 := rfl
theorem S142 : sq "scale_down" "scale_down" = true := rfl
theorem N143 : cd "scored" = 611 := rfl
theorem S143 : sq "scored" "scored" = true := rfl
theorem N144 : cd "scores" = 626 := rfl
theorem S144 : sq "scores" "scores" = true := rfl
theorem N145 : cd "script" = 1952 := rfl
theorem S145 : sq "script" "script" = true := rfl
theorem N146 : cd "search" = 631 := rfl
theorem S146 : sq "search" "search" = true := rfl
theorem N147 : cd "search_child" = 1887 := rfl
theorem S147 : sq "search_child" "search_child" = true := rfl
theorem N148 : cd "search_moves" = 2085 := rfl
theorem S148 : sq "search_moves" "search_moves" = true := rfl
theorem N149 : cd "second" = 157 := rfl
theorem S149 : sq "second" "second" = true := rfl
theorem N150 : cd "seed" = 1828 := rfl
theorem S150 : sq "seed" "seed" = true := rfl
theorem N151 : cd "self" = 462 := rfl
theorem S151 : sq "self" "self" = true := rfl
theorem N152 : cd "set_line" = 2142 := rfl
theorem S152 : sq "set_line" "set_line" = true := rfl
theorem N153 : cd "side" = 1792 := rfl
theorem S153 : sq "side" "side" = true := rfl
theorem N154 : cd "size" = 104 := rfl
theorem S154 : sq "size" "size" = true := rfl
theorem N155 : cd "slots" = 1831 := rfl
theorem S155 : sq "slots" "slots" = true := rfl
theorem N156 : cd "sort" = 1497 := rfl
theorem S156 : sq "sort" "sort" = true := rfl
theorem N157 : cd "stage" = 1563 := rfl
theorem S157 : sq "stage" "stage" = true := rfl
theorem N158 : cd "start" = 734 := rfl
theorem S158 : sq "start" "start" = true := rfl
theorem N159 : cd "step_back" = 1646 := rfl
theorem S159 : sq "step_back" "step_back" = true := rfl
theorem N160 : cd "step_into" = 597 := rfl
theorem S160 : sq "step_into" "step_into" = true := rfl
theorem N161 : cd "still" = 128 := rfl
theorem S161 : sq "still" "still" = true := rfl
theorem N162 : cd "table" = 856 := rfl
theorem S162 : sq "table" "table" = true := rfl
theorem N163 : cd "table_move" = 1350 := rfl
theorem S163 : sq "table_move" "table_move" = true := rfl
theorem N164 : cd "take_best" = 1172 := rfl
theorem S164 : sq "take_best" "take_best" = true := rfl
theorem N165 : cd "tick" = 1318 := rfl
theorem S165 : sq "tick" "tick" = true := rfl
theorem N166 : cd "to_table" = 1323 := rfl
theorem S166 : sq "to_table" "to_table" = true := rfl
theorem N167 : cd "told" = 346 := rfl
theorem S167 : sq "told" "told" = true := rfl
theorem N168 : cd "trail" = 226 := rfl
theorem S168 : sq "trail" "trail" = true := rfl
theorem N169 : cd "tried" = 2167 := rfl
theorem S169 : sq "tried" "tried" = true := rfl
theorem N170 : cd "turn" = 1283 := rfl
theorem S170 : sq "turn" "turn" = true := rfl
theorem N171 : cd "undo" = 79 := rfl
theorem S171 : sq "undo" "undo" = true := rfl
theorem N172 : cd "unpack_entry" = 390 := rfl
theorem S172 : sq "unpack_entry" "unpack_entry" = true := rfl
theorem N173 : cd "update" = 1934 := rfl
theorem S173 : sq "update" "update" = true := rfl
theorem N174 : cd "value" = 2232 := rfl
theorem S174 : sq "value" "value" = true := rfl
theorem N175 : cd "values" = 27 := rfl
theorem S175 : sq "values" "values" = true := rfl
theorem N176 : cd "victim_slot" = 1738 := rfl
theorem S176 : sq "victim_slot" "victim_slot" = true := rfl
theorem N177 : cd "want" = 1533 := rfl
theorem S177 : sq "want" "want" = true := rfl
theorem N178 : cd "ways" = 688 := rfl
theorem S178 : sq "ways" "ways" = true := rfl
theorem N179 : cd "with_move" = 604 := rfl
theorem S179 : sq "with_move" "with_move" = true := rfl
theorem N180 : cd "world" = 858 := rfl
theorem S180 : sq "world" "world" = true := rfl
theorem N181 : cd "worth" = 1910 := rfl
theorem S181 : sq "worth" "worth" = true := rfl
end
local macro_rules
 | `(tactic| exists $ts,*) => do
   let f (s : String) : Array Lean.Term := (s.splitOn " ").toArray.map fun x => Lean.mkIdent x.toName
   let t := ts.getElems
   let p := f "N0 N1 N2 N3 N4 N5 N6 N7 N8 N9 N10 N11 N12 N13 N14 N15 N16 N17 N18 N19 N20 N21 N22 N23 N24 N25 N26 N27 N28 N29 N30 N31 N32 N33 N34 N35 N36 N37 N38 N39 N40 N41 N42 N43 N44 N45 N46 N47 N48 N49 N50 N51 N52 N53 N54 N55 N56 N57 N58 N59 N60 N61 N62 N63 N64 N65 N66 N67 N68 N69 N70 N71 N72 N73 N74 N75 N76 N77 N78 N79 N80 N81 N82 N83 N84 N85 N86 N87 N88 N89 N90 N91 N92 N93 N94 N95 N96 N97 N98 N99 N100 N101 N102 N103 N104 N105 N106 N107 N108 N109 N110 N111 N112 N113 N114 N115 N116 N117 N118 N119 N120 N121 N122 N123 N124 N125 N126 N127 N128 N129 N130 N131 N132 N133 N134 N135 N136 N137 N138 N139 N140 N141 N142 N143 N144 N145 N146 N147 N148 N149 N150 N151 N152 N153 N154 N155 N156 N157 N158 N159 N160 N161 N162 N163 N164 N165 N166 N167 N168 N169 N170 N171 N172 N173 N174 N175 N176 N177 N178 N179 N180 N181 S0 S1 S2 S3 S4 S5 S6 S7 S8 S9 S10 S11 S12 S13 S14 S15 S16 S17 S18 S19 S20 S21 S22 S23 S24 S25 S26 S27 S28 S29 S30 S31 S32 S33 S34 S35 S36 S37 S38 S39 S40 S41 S42 S43 S44 S45 S46 S47 S48 S49 S50 S51 S52 S53 S54 S55 S56 S57 S58 S59 S60 S61 S62 S63 S64 S65 S66 S67 S68 S69 S70 S71 S72 S73 S74 S75 S76 S77 S78 S79 S80 S81 S82 S83 S84 S85 S86 S87 S88 S89 S90 S91 S92 S93 S94 S95 S96 S97 S98 S99 S100 S101 S102 S103 S104 S105 S106 S107 S108 S109 S110 S111 S112 S113 S114 S115 S116 S117 S118 S119 S120 S121 S122 S123 S124 S125 S126 S127 S128 S129 S130 S131 S132 S133 S134 S135 S136 S137 S138 S139 S140 S141 S142 S143 S144 S145 S146 S147 S148 S149 S150 S151 S152 S153 S154 S155 S156 S157 S158 S159 S160 S161 S162 S163 S164 S165 S166 S167 S168 S169 S170 S171 S172 S173 S174 S175 S176 S177 S178 S179 S180 S181 o_fls oa_true o_dec o_not l_set pk_f pk_t pk2_t pk2_f sA_cons sA_nil gf_cons gf_t gf_f gf_nil sf_cons sf_t sf_f sf_nil Ka_q Kbin2_q Kbin_q Knot2_q Knot_q Kneg_q Kbl_q Kcmp2_q Kcmp_q Kite2_q Kite_q Kattr_q Ksub2_q Ksub_q Kcall_q Kbi_q Kmeth3_q Kmeth2_q Kmeth_q Klst_q Ktup_q Kdict_q Kslc_q Kc0b_q Kc0_q Kc1b_q Kc1_q Kand2_q Kand_q Kor2_q Kor_q Kes2_q Kes_q Kks2_q Kks_q Ktr_q Ktl_q KnotT_q KcT2_q KcT_q Kd3_q Kd2_q Kd1_q KtsA_q KtsO_q Knx_q Kas_q KaA2_q KaA_q KaS3_q KaS2_q KaS_q KaT_q KgA2_q KgA_q KhA3_q KhA2_q KhA_q KgS2_q KgS_q KhS3_q KhS2_q KhS_q Ki4_q Ki3_q Ki2_q Ki1_q Kex_q Krt_q Kif_q Kfr2_q Kfr_q Kaf_brk Kaf_cont Kaf_ret e_none e_bool e_int e_str e_loc e_glob e_bin e_neg e_not e_cmp e_bop e_ite e_attr e_sub e_call e_bi e_meth e_lst e_tup e_dict0 e_dict1 e_slc e_comp0 e_comp1 b_one b_and b_or es_nil es_cons ks_nil ks_cons t_not t_bop t_cmp t_cmp2 t_bool t_loc t_attr t_sub t_call t_meth ts_nil_and ts_nil_or ts_and ts_or s_asgn s_asgnA s_asgnS s_asgnT s_augAdd s_augSub s_augAAdd s_augASub s_augS s_expr s_ret s_ret0 s_ite s_whl s_for s_brk s_cont s_pass s_stop ss_nil ss_cons aft_next aft_brk aft_cont aft_ret body_eq bq_ret bq_next asT_cons asT_nil c_eq c_ne c_lt c_le c_gt c_ge c_is_none c_is_int c_is_ref c_is_tup c_isnot_none c_isnot_int c_isnot_ref n_add n_sub n_mul n_div n_mod n_shl n_shr n_and n_or tr_bool tr_none i_min i_max i_abs i_rng1 i_rng2 i_rng3 i_listR it_rng it_tup ao_SearchContext_game ao_SearchContext_table ao_SearchContext_killers ao_SearchContext_history ao_SearchContext_qdepth ao_SearchContext_is_exact ao_SearchContext_max_nodes ao_SearchContext_nodes ao_SearchContext_made ao_SearchContext_lines ao_History_limit ao_History_scores ao_Killers_plies ao_Killers_first ao_Killers_second ao_TransTable_clusters ao_TransTable_ways ao_TransTable_age ao_TransTable_slots ao_Picker_game ao_Picker_left ao_Picker_table_move ao_Picker_killers ao_Picker_history ao_Picker_ply ao_Picker_stage ao_Picker_ready ao_Picker_losing ao_TreeGame_children ao_TreeGame_values ao_TreeGame_checks ao_TreeGame_draws ao_TreeGame_noisy_rows ao_TreeGame_gain_rows ao_TreeGame_path a_subF a_sT0 a_sT1 a_sT2 a_sT3 a_sT4 m_inst" ++ f (if t.any fun t => t.raw.getId == `ck then "q_some q_int q_tup q_inst q_dict q_list q_true q_false qaf_next" else "o_some o_int o_tup o_inst o_dict o_list o_true o_false Kaf_next")
   let a := p ++ t.filter fun t => t.raw[0].getId != `os && t.raw.getId != `ck
   let b := f "str_eq String.reduceEq Nat.reduceBEq if_true if_false reduceIte decide_eq_true_eq decide_eq_false_iff_not Option.some.injEq exists_eq_left' exists_eq_left exists_and_left and_assoc V.int.injEq V.tup.injEq V.bool.injEq AO.list.injEq AO.inst.injEq AO.dict.injEq true_and and_true Bool.false_eq_true false_implies true_implies forall_const Bool.not_eq_true Bool.not_eq_false Bool.not_eq_eq_eq_not Bool.not_true Bool.not_false List.length_cons List.length_nil reduceCtorEq false_imp_iff implies_true ne_eq Int.reduceNeg Int.reduceToNat not_false_eq_true oc_any" ++ t.filter fun t => t.raw[0].getId == `os
   `(tactic| simp -failIfUnchanged -dsimp only [$[↓$a:term],*, $[$b:term],*])
section
variable {W : Wld} {r : Nat} {σ : AH} {Q : V → AH → Prop}
theorem os {α : Type} {K : α → Prop} {b : Blk K} {o : Option α} {a : α} (h : o = some a) : onS K b o = K a := by subst h; exact o_some
theorem rk {m n r : Nat} (h : n ≤ r) (h' : Nat.ble m n = true) : m ≤ r := Nat.le_trans (Nat.le_of_ble_eq_true h') h
theorem call_up {n : Nat} {f : CF} {args : List V} (hr : n + 1 ≤ r) (h : ∀ r', n ≤ r' → CallSat W (r' + 1) f args σ Q) : CallSat W r f args σ Q := by
 obtain ⟨j, rfl⟩ : ∃ j, r = j + 1 := ⟨r - 1, by lia⟩
 exact h j (by lia)
theorem k_mated_in (H : IsK W) {p : Int} (hr : 1 ≤ r) (h : Q (.int (p - 32000)) σ) : CallSat W r (.fn "mated_in") [.int p] σ Q := by
 refine call_up hr fun r hr => call_def (fb_mated_in H) rfl ?_
 unfold b_mated_in
 exists true_and
 exact h
theorem k_mate_in (H : IsK W) {p : Int} (hr : 1 ≤ r) (h : Q (.int (32000 - p)) σ) : CallSat W r (.fn "mate_in") [.int p] σ Q := by
 refine call_up hr fun r hr => call_def (fb_mate_in H) rfl ?_
 unfold b_mate_in
 exists true_and
 exact h
noncomputable def toT (v p : Int) : Int := if 31754 ≤ v then v + p else if v ≤ -31754 then v - p else v
noncomputable def fromT (v p : Int) : Int := if 31754 ≤ v then v - p else if v ≤ -31754 then v + p else v
theorem k_to_table (H : IsK W) {v p : Int} (hr : 1 ≤ r) (h : Q (.int (toT v p)) σ) : CallSat W r (.fn "to_table") [.int v, .int p] σ Q := by
 refine call_up hr fun r hr => call_def (fb_to_table H) rfl ?_
 unfold b_to_table
 exists true_and
 unfold toT at h
 refine ⟨fun c => ?_, fun c => ⟨fun d => ?_, fun d => ?_⟩⟩
 · rw [if_pos c] at h; exact h
 · rw [if_neg c, if_pos d] at h; exact h
 · rw [if_neg c, if_neg d] at h; exact h
theorem k_from_table (H : IsK W) {v p : Int} (hr : 1 ≤ r) (h : Q (.int (fromT v p)) σ) : CallSat W r (.fn "from_table") [.int v, .int p] σ Q := by
 refine call_up hr fun r hr => call_def (fb_from_table H) rfl ?_
 unfold b_from_table
 exists true_and
 unfold fromT at h
 refine ⟨fun c => ?_, fun c => ⟨fun d => ?_, fun d => ?_⟩⟩
 · rw [if_pos c] at h; exact h
 · rw [if_neg c, if_pos d] at h; exact h
 · rw [if_neg c, if_neg d] at h; exact h
theorem and_zero_shift (a c k : Nat) (h : a < 2 ^ k) : a &&& (c * 2 ^ k) = 0 := by
 apply Nat.eq_of_testBit_eq
 intro i
 rw [Nat.testBit_and, Nat.zero_testBit, Nat.testBit_mul_two_pow]
 by_cases hi : k ≤ i
 · rw [Nat.testBit_lt_two_pow (Nat.lt_of_lt_of_le h (Nat.pow_le_pow_right (by lia) hi))]; rfl
 · simp [hi]
theorem bitOr_add (a c : Int) (k : Nat) (ha : 0 ≤ a) (hk : a < 2 ^ k) (hc : 0 ≤ c) : Builtin.bitOr a (c * 2 ^ k) = a + c * 2 ^ k := by
 have h2 : (0:Int) ≤ c * 2 ^ k := Int.mul_nonneg hc (Int.le_of_lt (Int.pow_pos (by decide)))
 rw [bitOr_and, bitAnd_pp ha h2]
 have e1 : (c * 2 ^ k).toNat = c.toNat * 2 ^ k := by
   obtain ⟨n, rfl⟩ := Int.eq_ofNat_of_zero_le hc
   norm_cast
 rw [e1, and_zero_shift]
 · simp
 · obtain ⟨n, rfl⟩ := Int.eq_ofNat_of_zero_le ha
   norm_cast at hk
theorem bitAnd_mod (a : Int) (k : Nat) (ha : 0 ≤ a) : Builtin.bitAnd a (2 ^ k - 1) = a % 2 ^ k := by
 have h2 : (0:Int) ≤ 2 ^ k - 1 := by
   have : (1:Int) ≤ 2 ^ k := by exact_mod_cast Nat.one_le_two_pow
   lia
 rw [bitAnd_pp ha h2]
 obtain ⟨n, rfl⟩ := Int.eq_ofNat_of_zero_le ha
 have e1 : ((2:Int) ^ k - 1).toNat = 2 ^ k - 1 := by
   have : ((2:Int) ^ k - 1) = ((2 ^ k - 1 : Nat) : Int) := by
     have := Nat.one_le_two_pow (n := k)
     push_cast [this]; rfl
   rw [this]; rfl
 rw [e1]
 show (((n &&& (2 ^ k - 1) : Nat)) : Int) = _
 rw [Nat.and_two_pow_sub_one_eq_mod]
 norm_cast
end
noncomputable def eKey (e : Int) : Int := e / 281474976710656
noncomputable def eMove (e : Int) : Int := e % 65536
noncomputable def eVal (e : Int) : Int := e / 65536 % 65536 - 32768
noncomputable def eDep (e : Int) : Int := e / 4294967296 % 256 - 8
noncomputable def eBnd (e : Int) : Int := e / 1099511627776 % 4
noncomputable def eAge (e : Int) : Int := e / 4398046511104 % 64
noncomputable def pk (key move value depth bound age : Int) : Int := move + (value + 32768) * 65536 + (depth + 8) * 4294967296 + bound * 1099511627776 + age * 4398046511104 + key * 281474976710656
theorem bAnd (a : Int) (k : Nat) (n : Int) (ha : 0 ≤ a) (hn : n = 2 ^ k - 1) : Builtin.bitAnd a n = a % 2 ^ k := by rw [hn]; exact bitAnd_mod a k ha
theorem fdiv_pos (a b : Int) (ha : 0 ≤ a) (hb : 0 ≤ b) : a.fdiv b = a / b := Int.fdiv_eq_ediv_of_nonneg a hb
theorem fmod_pos (a b : Int) (hb : 0 ≤ b) : a.fmod b = a % b := Int.fmod_eq_emod_of_nonneg a hb
theorem f_age {e : Int} (he : 0 ≤ e) : Builtin.bitAnd (e.fdiv (2 ^ 42)) 63 = eAge e := by
 rw [fdiv_pos _ _ he (by decide), bAnd _ 6 _ (by lia) (by decide)]; unfold eAge; lia
theorem f_bnd {e : Int} (he : 0 ≤ e) : Builtin.bitAnd (e.fdiv (2 ^ 40)) 3 = eBnd e := by
 rw [fdiv_pos _ _ he (by decide), bAnd _ 2 _ (by lia) (by decide)]; unfold eBnd; lia
theorem f_dep {e : Int} (he : 0 ≤ e) : Builtin.bitAnd (e.fdiv (2 ^ 32)) 255 + -8 = eDep e := by
 rw [fdiv_pos _ _ he (by decide), bAnd _ 8 _ (by lia) (by decide)]; unfold eDep; lia
theorem f_val {e : Int} (he : 0 ≤ e) : Builtin.bitAnd (e.fdiv (2 ^ 16)) 65535 - 32767 - 1 = eVal e := by
 rw [fdiv_pos _ _ he (by decide), bAnd _ 16 _ (by lia) (by decide)]; unfold eVal; lia
theorem f_move {e : Int} (he : 0 ≤ e) : Builtin.bitAnd e 65535 = eMove e := by
 rw [bAnd _ 16 _ he (by decide)]; unfold eMove; lia
theorem f_key {e : Int} (he : 0 ≤ e) : e.fdiv (2 ^ 48) = eKey e := by
 rw [fdiv_pos _ _ he (by decide)]; unfold eKey; lia
theorem pyIdx_nat {i : Int} {n : Nat} (h0 : 0 ≤ i) (h1 : i < n) : pyIdx i n = some i.toNat := by
 unfold pyIdx; rw [if_pos h0, if_pos h1]
theorem pyIdx_last {n : Nat} (h : 0 < n) : pyIdx (-1) n = some (n - 1) := by
 unfold pyIdx; rw [if_neg (by lia), if_pos (by lia)]; congr 1; lia
theorem iter_inv {body : Loc → AH → SQ → Prop} {src : V} {whole : List V} {x : Str} {Q : SQ} (I : List V → Loc → AH → Prop)
   (hok : ∀ rest m σ, I rest m σ → iterOk src whole σ) (fin : ∀ m σ, I [] m σ → Q .next m σ)
   (step : ∀ v rest m σ, I (v :: rest) m σ → ∀ K : SQ, (∀ m' σ', I rest m' σ' → K .next m' σ') → (∀ m' σ', I rest m' σ' → K .cont m' σ') → (∀ m' σ', Q .next m' σ' → K .brk m' σ') → (∀ u m' σ', Q (.ret u) m' σ' → K (.ret u) m' σ') → body (m.set x v) σ K) :
   ∀ {l : List V} {m : Loc} {σ : AH}, I l m σ → wpIter body src whole x l m σ Q
 | [], m, σ, h => ⟨hok _ _ _ h, fin _ _ h⟩
 | v :: rest, m, σ, h => ⟨hok _ _ _ h, step v rest m σ h _ (fun m' σ' h' => iter_inv I hok fin step h') (fun m' σ' h' => iter_inv I hok fin step h') (fun _ _ h' => h') (fun _ _ _ h' => h')⟩
theorem rngFrom_one : ∀ (n : Nat) (a i : Int), i ∈ rngFrom 1 n a → a ≤ i ∧ i < a + n
 | 0, _, _, h => by cases h
 | n + 1, a, i, h => by
   unfold rngFrom at h
   rcases List.mem_cons.mp h with rfl | h
   · exact ⟨Int.le_refl _, by lia⟩
   · have := rngFrom_one n _ _ h; lia
theorem rng_mem {a b i : Int} (h : i ∈ rngItems a b 1) : a ≤ i ∧ i < b := by
 unfold rngItems at h
 have := rngFrom_one _ _ _ h
 unfold rngSize at this
 rw [if_pos (by decide)] at this
 lia
section
variable {W : Wld} {r : Nat} {σ : AH} {Q : V → AH → Prop}
theorem k_pack (H : IsK W) {key move value depth bound age : Int} (hr : 1 ≤ r) (h1 : 0 ≤ key) (h1' : key < 1000) (h2 : 0 ≤ move) (h2' : move < 65536) (h3 : -32767 ≤ value) (h3' : value ≤ 32767) (h4 : -8 ≤ depth) (h4' : depth ≤ 247) (h5 : 0 ≤ bound) (h5' : bound ≤ 3) (h6 : 0 ≤ age) (h6' : age < 64)
   (h : Q (.int (pk key move value depth bound age)) σ) : CallSat W r (.fn "pack_entry") [.int key, .int move, .int value, .int depth, .int bound, .int age] σ Q := by
 refine call_up hr fun r hr => call_def (fb_pack_entry H) rfl ?_
 unfold b_pack_entry
 exists a_sub
 have e1 : Builtin.bitOr (Builtin.bitOr move ((value + 32767 + 1) * 2 ^ 16)) ((depth - -8) * 2 ^ 32) = move + (value + 32768) * 65536 + (depth + 8) * 4294967296 := by
   rw [bitOr_add move _ 16 h2 (by lia) (by lia), bitOr_add _ _ 32 (by lia) (by lia) (by lia)]; lia
 have e2 : Builtin.bitOr (Builtin.bitOr (Builtin.bitOr (move + (value + 32768) * 65536 + (depth + 8) * 4294967296) (bound * 2 ^ 40)) (age * 2 ^ 42)) (key * 2 ^ 48) = pk key move value depth bound age := by
   rw [bitOr_add _ _ 40 (by lia) (by lia) (by lia), bitOr_add _ _ 42 (by lia) (by lia) (by lia), bitOr_add _ _ 48 (by lia) (by lia) (by lia)]; unfold pk; lia
 rw [e1, e2]
 (try simp only [smallI, sizeOk]); repeat' (first | assumption | lia | exact h | apply And.intro | (intro _))
theorem k_unpack (H : IsK W) {e : Int} (hr : 1 ≤ r) (he : 0 ≤ e) (h : Q (.tup [.int (eKey e), .int (eMove e), .int (eVal e), .int (eDep e), .int (eBnd e), .int (eAge e)]) σ) : CallSat W r (.fn "unpack_entry") [.int e] σ Q := by
 refine call_up hr fun r hr => call_def (fb_unpack_entry H) rfl ?_
 unfold b_unpack_entry
 exists a_sub
 rw [f_age he, f_bnd he, f_dep he, f_val he, f_move he, f_key he]
 (try simp only [smallI, sizeOk]); repeat' (first | assumption | lia | exact h | apply And.intro | (intro _))
theorem k_with_move (H : IsK W) {e mv : Int} (hr : 1 ≤ r) (he : 0 ≤ e) (h : Q (.int (e - eMove e + mv)) σ) : CallSat W r (.fn "with_move") [.int e, .int mv] σ Q := by
 refine call_up hr fun r hr => call_def (fb_with_move H) rfl ?_
 unfold b_with_move
 exists a_sub
 rw [f_move he]
 (try simp only [smallI, sizeOk]); repeat' (first | assumption | lia | exact h | apply And.intro | (intro _))
theorem k_worth (H : IsK W) {e age : Int} (hr : 2 ≤ r) (he : 0 ≤ e) (h : ∀ i, Q (.int i) σ) : CallSat W r (.fn "worth") [.int e, .int age] σ Q := by
 refine call_up hr fun r hr => call_def (fb_worth H) rfl ?_
 unfold b_worth
 exists a_sub
 refine k_unpack H hr he ?_
 exists a_sub
 rw [f_age he, fmod_pos _ _ (by decide)]
 simp only [smallI]
 exact ⟨by lia, by lia, by lia, by lia, h _⟩
theorem k_pushes_out (H : IsK W) {e depth bound age : Int} (hr : 2 ≤ r) (he : 0 ≤ e) (h : ∀ b, Q (.bool b) σ) : CallSat W r (.fn "pushes_out") [.int e, .int depth, .int bound, .int age] σ Q := by
 refine call_up hr fun r hr => call_def (fb_pushes_out H) rfl ?_
 unfold b_pushes_out
 exists a_sub
 rw [f_age he]
 have tail : CallSat W r (.fn "unpack_entry") [.int e] σ fun v σ => wpSub v (.int 3) σ fun v σ => wpBin .Sub v (.int 4) σ fun b σ => wpCmp .Gt (.int depth) b σ fun c σ => Q (.bool c) σ := by
   refine k_unpack H hr he ?_
   exists a_sub
   exact h _
 exact ⟨fun _ => h _, fun _ => ⟨by lia, fun _ => h _, fun _ => tail⟩⟩
theorem k_cutoff (H : IsK W) {value depth bound want alpha beta : Int} (hr : 1 ≤ r)
   (h : Q (.bool (decide (depth = want ∧ (bound = 3 ∨ (bound = 2 ∧ beta ≤ value) ∨ (bound = 1 ∧ value ≤ alpha))))) σ) : CallSat W r (.fn "cutoff") [.int value, .int depth, .int bound, .int want, .bool true, .int alpha, .int beta] σ Q := by
 refine call_up hr fun r hr => call_def (fb_cutoff H) rfl ?_
 unfold b_cutoff
 exists a_sub
 have key : ∀ b : Bool, b = decide (depth = want ∧ (bound = 3 ∨ (bound = 2 ∧ beta ≤ value) ∨ (bound = 1 ∧ value ≤ alpha))) → Q (.bool b) σ := fun b hb => by rw [hb]; exact h
 refine ⟨fun c => key _ ?_, fun c => ⟨fun d => ?_, fun d => ⟨fun e => key _ ?_, fun e => ⟨fun f => key _ ?_, fun f => ⟨fun g => key _ ?_, fun g => key _ ?_⟩⟩⟩⟩⟩
 · simp [c]
 · lia
 · simp only [Decidable.not_not] at c; simp [c, e]
 · simp only [Decidable.not_not] at c; simp [c, f]
 · simp only [Decidable.not_not] at c; simp [c, g]
 · simp [e, f, g]
theorem smallI.neg {i : Int} (h : smallI i) : smallI (-i) := ⟨Int.neg_le_neg h.2, Int.neg_le_of_neg_le h.1⟩
theorem k_scale_down (H : IsK W) {v b l : Int} (hr : 1 ≤ r) (h1 : smallI v) (h2 : smallI b) (h3 : smallI (v * b)) (h4 : smallI l) (hl : 0 < l)
   (h : Q (.int (if v < 0 then -((-v * b).fdiv l) else (v * b).fdiv l)) σ) : CallSat W r (.fn "scale_down") [.int v, .int b, .int l] σ Q := by
 refine call_up hr fun r hr => call_def (fb_scale_down H) rfl ?_
 unfold b_scale_down
 exists a_sub
 have e : -v * b = -(v * b) := Int.neg_mul ..
 rw [e] at h ⊢
 refine ⟨fun c => ?_, fun c => ?_⟩
 · rw [if_pos c] at h
   exact ⟨h1.neg, h2, h3.neg, h4, Int.ne_of_gt hl, h⟩
 · rw [if_neg c] at h
   exact ⟨h1, h2, h3, h4, Int.ne_of_gt hl, h⟩
theorem k_find_slot (H : IsK W) {a : Addr} {ls : List Int} {start ways key : Int} (hr : 1 ≤ r) (hσ : σ a = some (.list (ls.map .int))) (hsz : ls.length ≤ 1000) (hs : 0 ≤ start) (hw : 0 ≤ ways) (hb : start + ways ≤ ls.length) (hpos : ∀ e ∈ ls, 0 ≤ e)
   (h1 : Q (.int (-1)) σ) (h2 : ∀ (n : Nat) (e : Int), ls[n]? = some e → e ≠ 0 → eKey e = key → Q (.int n) σ) : CallSat W r (.fn "find_slot") [.ref a, .int start, .int ways, .int key] σ Q := by
 refine call_up hr fun r hr => call_def (fb_find_slot H) rfl ?_
 unfold b_find_slot
 exists a_sub
 simp only [smallI]
 refine ⟨by lia, by lia, ?_⟩
 refine iter_inv (fun rest m' σ' => σ' = σ ∧ m' "slots" = some (.ref a) ∧ m' "key" = some (.int key) ∧ ∃ is : List Int, rest = is.map .int ∧ ∀ i ∈ is, start ≤ i ∧ i < start + ways) ?_ ?_ ?_ ?_
 · rintro rest m' σ' ⟨rfl, _⟩
   exact ⟨smallOf (by lia) (by lia), smallOf (by lia) (by lia), .inl rfl⟩
 · rintro m' σ' ⟨rfl, _⟩
   exists a_sub
   exact h1
 · rintro v rest m' σ' oy0; revert oy0; refine aE2 fun oy1 oy2 => ?_; obtain rfl := oy1; revert oy2; refine aE3 fun g1 g2 => xE1 fun is => aE2 fun e hm => ?_; rintro K k1 k2 k3 k4
   cases is with
   | nil => cases e
   | cons i is =>
     cases e
     obtain ⟨b1, b2⟩ := hm i (.head _)
     have hi : i.toNat < ls.length := by lia
     have hp : 0 ≤ ls[i.toNat] := hpos _ (List.getElem_mem hi)
     have nx : ∀ m'' : Loc, m'' "slots" = some (.ref a) → m'' "key" = some (.int key) → K .next m'' σ' := fun m'' q1 q2 => k1 _ _ ⟨rfl, q1, q2, is, rfl, fun j hj => hm j (.tail _ hj)⟩
     exists a_sub, g1, g2, hσ, List.length_map, pyIdx_nat (show 0 ≤ i by lia) (show i < (ls.length : Int) by lia), List.getElem?_map, List.getElem?_eq_getElem hi, Option.map_some
     rw [f_key hp]
     refine ⟨smallOf (by lia) (by lia), by unfold sizeOk; lia, fun c => ⟨smallOf (by lia) (by lia), by unfold sizeOk; lia, by lia, fun d => ?_, fun d => ?_⟩, fun c => ?_⟩
     · refine k4 _ _ _ ?_
       exists a_sub
       have := h2 i.toNat _ (List.getElem?_eq_getElem hi) c d
       rwa [Int.toNat_of_nonneg (by lia)] at this
     · refine nx _ ?_ ?_ <;> exists a_sub, g1, g2
     · refine nx _ ?_ ?_ <;> exists a_sub, g1, g2
 · refine ⟨rfl, ?_, ?_, rngItems start (start + ways) 1, rfl, fun i hi => rng_mem hi⟩ <;> exists a_sub
theorem k_victim_slot (H : IsK W) {a : Addr} {ls : List Int} {start ways age : Int} (hr : 3 ≤ r) (hσ : σ a = some (.list (ls.map .int))) (hsz : ls.length ≤ 1000) (hs : 0 ≤ start) (hw : 1 ≤ ways) (hb : start + ways ≤ ls.length) (hpos : ∀ e ∈ ls, 0 ≤ e)
   (h : ∀ (n : Nat), start ≤ n → n < start + ways → Q (.int n) σ) : CallSat W r (.fn "victim_slot") [.ref a, .int start, .int ways, .int age] σ Q := by
 refine call_up hr fun r hr => call_def (fb_victim_slot H) rfl ?_
 unfold b_victim_slot
 exists a_sub
 have back : ∀ j : Int, start ≤ j → j < start + ways → Q (.int j) σ := fun j q1 q2 => by
   have := h j.toNat (by lia) (by lia)
   rwa [Int.toNat_of_nonneg (by lia)] at this
 simp only [smallI]
 refine ⟨by lia, by lia, ?_⟩
 refine iter_inv (fun rest m' σ' => σ' = σ ∧ m' "slots" = some (.ref a) ∧ m' "age" = some (.int age) ∧ (∃ j : Int, m' "found" = some (.int j) ∧ start ≤ j ∧ j < start + ways) ∧ ∃ is : List Int, rest = is.map .int ∧ ∀ i ∈ is, start ≤ i ∧ i < start + ways) ?_ ?_ ?_ ?_
 · rintro rest m' σ' ⟨rfl, _⟩
   exact ⟨smallOf (by lia) (by lia), smallOf (by lia) (by lia), .inl rfl⟩
 · rintro m' σ' oy0; revert oy0; refine aE2 fun oy1 oy2 => ?_; obtain rfl := oy1; revert oy2; refine aE4 fun _ _ oy3 oy4 => ?_; revert oy3; refine xE1 fun j => aE3 fun g q1 q2 => ?_
   exists a_sub, g
   exact back j q1 q2
 · rintro v rest m' σ' oy5; revert oy5; refine aE2 fun oy6 oy7 => ?_; obtain rfl := oy6; revert oy7; refine aE4 fun g1 g2 oy8 oy9 => ?_; revert oy8; refine xE1 fun j => aE3 fun g q1 q2 => ?_; revert oy9; refine xE1 fun is => aE2 fun e hm => ?_; rintro K k1 k2 k3 k4
   cases is with
   | nil => cases e
   | cons i is =>
     cases e
     obtain ⟨b1, b2⟩ := hm i (.head _)
     have hi : i.toNat < ls.length := by lia
     have hj : j.toNat < ls.length := by lia
     have hp : 0 ≤ ls[i.toNat] := hpos _ (List.getElem_mem hi)
     have hp' : 0 ≤ ls[j.toNat] := hpos _ (List.getElem_mem hj)
     have nx : ∀ (m'' : Loc) (j : Int), m'' "slots" = some (.ref a) → m'' "age" = some (.int age) → m'' "found" = some (.int j) → start ≤ j → j < start + ways → K .next m'' σ' := fun m'' j q1 q2 q3 q4 q5 => k1 _ _ ⟨rfl, q1, q2, ⟨j, q3, q4, q5⟩, is, rfl, fun j hj => hm j (.tail _ hj)⟩
     exists a_sub, g1, g2, g, hσ, List.length_map, pyIdx_nat (show 0 ≤ i by lia) (show i < (ls.length : Int) by lia), pyIdx_nat (show 0 ≤ j by lia) (show j < (ls.length : Int) by lia), List.getElem?_map, List.getElem?_eq_getElem hi, List.getElem?_eq_getElem hj, Option.map_some
     have sz : sizeOk ls.length := by unfold sizeOk; lia
     have si : smallI i := smallOf (by lia) (by lia)
     have sj : smallI j := smallOf (by lia) (by lia)
     refine ⟨si, sz, fun c => ?_, fun c => ⟨si, sz, ?_⟩⟩
     · refine k4 _ _ _ ?_
       exists a_sub
       exact back i b1 b2
     · refine k_worth H hr hp fun x => ?_
       exists a_sub, g1, g2, g, hσ, List.length_map, pyIdx_nat (show 0 ≤ j by lia) (show j < (ls.length : Int) by lia), List.getElem?_map, List.getElem?_eq_getElem hj, Option.map_some
       refine ⟨sj, sz, ?_⟩
       refine k_worth H hr hp' fun y => ?_
       exists a_sub
       refine ⟨fun _ => nx _ i ?_ ?_ ?_ b1 b2, fun _ => nx _ j ?_ ?_ ?_ q1 q2⟩ <;> exists a_sub, g1, g2, g
 · refine ⟨rfl, ?_, ?_, ⟨start, ?_, by lia, by lia⟩, rngItems start (start + ways) 1, rfl, fun i hi => rng_mem hi⟩ <;> exists a_sub
theorem eraseIdx_map' {α β : Type} (f : α → β) : ∀ (l : List α) (n : Nat), (l.eraseIdx n).map f = (l.map f).eraseIdx n
 | [], _ => rfl
 | a :: l, 0 => rfl
 | a :: l, n + 1 => by simp [eraseIdx_map' f l n]
noncomputable def tupV (p : Int × Int) : V := .tup [.int p.1, .int p.2]
theorem k_take_best (H : IsK W) {a : Addr} {ls : List (Int × Int)} (hr : 1 ≤ r) (hσ : σ a = some (.list (ls.map tupV))) (hsz : ls.length ≤ 1000) (hne : 0 < ls.length)
   (h : ∀ (n : Nat) (p : Int × Int), ls[n]? = some p → Q (.int p.2) (σ.set a (.list ((ls.eraseIdx n).map tupV)))) : CallSat W r (.fn "take_best") [.ref a] σ Q := by
 refine call_up hr fun r hr => call_def (fb_take_best H) rfl ?_
 unfold b_take_best
 exists a_sub, a_len hσ, List.length_map
 have sz : sizeOk ls.length := by unfold sizeOk; lia
 refine ⟨sz, smallOf (by lia) (by lia), smallOf (by lia) (by lia), ?_⟩
 refine iter_inv (fun rest m' σ' => σ' = σ ∧ m' "scored" = some (.ref a) ∧ (∃ j : Int, m' "best" = some (.int j) ∧ 0 ≤ j ∧ j < ls.length) ∧ ∃ is : List Int, rest = is.map .int ∧ ∀ i ∈ is, 1 ≤ i ∧ i < ls.length) ?_ ?_ ?_ ?_
 · rintro rest m' σ' ⟨rfl, _⟩
   exact ⟨smallOf (by lia) (by lia), smallOf (by lia) (by lia), .inl rfl⟩
 · rintro m' σ' oy0; revert oy0; refine aE2 fun oy1 oy2 => ?_; obtain rfl := oy1; revert oy2; refine aE3 fun g1 oy3 oy4 => ?_; revert oy3; refine xE1 fun j => aE3 fun g q1 q2 => ?_
   have hj : j.toNat < ls.length := by lia
   exists a_sub, g, g1, a_list hσ (.inr (.inl rfl)), m_popAt hσ, List.length_map, pyIdx_nat (show 0 ≤ j by lia) (show j < (ls.length : Int) by lia), List.getElem?_map, List.getElem?_eq_getElem hj, Option.map_some
   refine ⟨sz, smallOf (by lia) (by lia), ?_⟩
   unfold tupV
   exists a_sub
   have := h j.toNat _ (List.getElem?_eq_getElem hj)
   unfold tupV at this
   rwa [eraseIdx_map'] at this
 · rintro v rest m' σ' oy5; revert oy5; refine aE2 fun oy6 oy7 => ?_; obtain rfl := oy6; revert oy7; refine aE3 fun g1 oy8 oy9 => ?_; revert oy8; refine xE1 fun j => aE3 fun g q1 q2 => ?_; revert oy9; refine xE1 fun is => aE2 fun e hm => ?_; rintro K k1 k2 k3 k4
   cases is with
   | nil => cases e
   | cons i is =>
     cases e
     obtain ⟨b1, b2⟩ := hm i (.head _)
     have hi : i.toNat < ls.length := by lia
     have hj : j.toNat < ls.length := by lia
     have nx : ∀ (m'' : Loc) (j : Int), m'' "scored" = some (.ref a) → m'' "best" = some (.int j) → 0 ≤ j → j < ls.length → K .next m'' σ' := fun m'' j q1 q3 q4 q5 => k1 _ _ ⟨rfl, q1, ⟨j, q3, q4, q5⟩, is, rfl, fun j hj => hm j (.tail _ hj)⟩
     exists a_sub, g1, g, hσ, List.length_map, pyIdx_nat (show 0 ≤ i by lia) (show i < (ls.length : Int) by lia), pyIdx_nat (show 0 ≤ j by lia) (show j < (ls.length : Int) by lia), List.getElem?_map, List.getElem?_eq_getElem hi, List.getElem?_eq_getElem hj, Option.map_some
     have si : smallI i := smallOf (by lia) (by lia)
     have sj : smallI j := smallOf (by lia) (by lia)
     have s0 : smallI 0 := smallOf (by lia) (by lia)
     refine ⟨si, sz, ?_⟩
     unfold tupV
     exists a_sub, g1, g
     exists a_sub, g1, g, hσ, List.length_map, pyIdx_nat (show 0 ≤ j by lia) (show j < (ls.length : Int) by lia), List.getElem?_map, List.getElem?_eq_getElem hj, Option.map_some
     refine ⟨sj, sz, ?_⟩
     unfold tupV
     exists a_sub, g1, g
     refine ⟨fun _ => nx _ i ?_ ?_ (by lia) b2, fun _ => nx _ j ?_ ?_ q1 q2⟩ <;> exists a_sub, g1, g
 · refine ⟨rfl, ?_, ⟨0, ?_, by lia, by lia⟩, rngItems 1 ls.length 1, rfl, fun i hi => rng_mem hi⟩ <;> exists a_sub
end
structure Wd where
 n : Nat
 ways : Nat → List Nat
 val : Nat → Int
 chk : Nat → Bool
 drw : Nat → Bool
 nsy : Nat → List Bool
 gain : Nat → List Int
structure Wd.Ok (w : Wd) : Prop where
 lo : 2 ≤ w.n
 hi : w.n ≤ 7
 up : ∀ i, i < w.n → ∀ c ∈ w.ways i, i < c ∧ c < w.n
 few : ∀ i, (w.ways i).length ≤ 7
 nsl : ∀ i, i < w.n → (w.nsy i).length = (w.ways i).length
 gnl : ∀ i, i < w.n → (w.gain i).length = (w.ways i).length
 sml : ∀ i, i < w.n → -30 ≤ w.val i ∧ w.val i ≤ 30
structure EA where
 (game gd path ch va ck dr no ga ctx ctxd lines tab td slots kil kd first second his hd scores : Addr)
 (hasT hasK : Bool)
 (chR noR gaR : Nat → Addr)
 (clus wys age kplies lim qd : Int)
set_option genCtorIdx true in
inductive Mu where | path | ctxd | lines | slots | first | second | scores
noncomputable def EA.mu (e : EA) : Mu → Option Addr
 | .path => some e.path
 | .ctxd => some e.ctxd
 | .lines => some e.lines
 | .slots => if e.hasT then some e.slots else Option.none
 | .first => if e.hasK then some e.first else Option.none
 | .second => if e.hasK then some e.second else Option.none
 | .scores => if e.hasK then some e.scores else Option.none
noncomputable def EA.D (e : EA) (a : Addr) : Prop := ∃ k, e.mu k = some a
noncomputable def At (D : Addr → Prop) (σ : AH) (a : Addr) (o : AO) : Prop := σ a = some o ∧ ¬ D a
noncomputable def Keep (D : Addr → Prop) (σ σ' : AH) : Prop := ∀ a o, ¬ D a → σ a = some o → σ' a = some o
theorem Keep.refl {D : Addr → Prop} {σ : AH} : Keep D σ σ := fun _ _ _ e => e
theorem Keep.trans {D : Addr → Prop} {a b c : AH} (x : Keep D a b) (y : Keep D b c) : Keep D a c := fun p o d e => y p o d (x p o d e)
theorem Keep.mono {D D' : Addr → Prop} {a b : AH} (x : Keep D a b) (h : ∀ p, D p → D' p) : Keep D' a b := fun p o d e => x p o (fun q => d (h p q)) e
theorem Keep.set {D : Addr → Prop} {σ : AH} {a : Addr} {o : AO} (h : D a) : Keep D σ (σ.set a o) := fun p q d e => by rw [set_ne (fun z => d (by rw [z]; exact h))]; exact e
theorem Keep.new {D : Addr → Prop} {σ : AH} {a : Addr} {o : AO} (h : σ a = Option.none) : Keep D σ (σ.set a o) := fun p q _ e => set_old e h
theorem At.keep {D : Addr → Prop} {σ σ' : AH} {a : Addr} {o : AO} (x : At D σ a o) (k : Keep D σ σ') : At D σ' a o := ⟨k a o x.2 x.1, x.2⟩
noncomputable def natsV (l : List Nat) : List V := l.map fun n : Nat => V.int (n : Int)
noncomputable def gameF (e : EA) : List (Str × V) := [("children", .ref e.ch), ("values", .ref e.va), ("checks", .ref e.ck), ("draws", .ref e.dr), ("noisy_rows", .ref e.no), ("gain_rows", .ref e.ga), ("path", .ref e.path)]
noncomputable def ctxF (e : EA) (nodes made : Int) : List (Str × V) := [("game", .ref e.game), ("table", if e.hasT then .ref e.tab else .none), ("killers", if e.hasK then .ref e.kil else .none), ("history", if e.hasK then .ref e.his else .none),
 ("qdepth", .int e.qd), ("is_exact", .bool true), ("max_nodes", .int 0), ("nodes", .int nodes), ("made", .int made), ("lines", .ref e.lines)]
noncomputable def tabF (e : EA) : List (Str × V) := [("clusters", .int e.clus), ("ways", .int e.wys), ("age", .int e.age), ("slots", .ref e.slots)]
noncomputable def kilF (e : EA) : List (Str × V) := [("plies", .int e.kplies), ("first", .ref e.first), ("second", .ref e.second)]
noncomputable def hisF (e : EA) : List (Str × V) := [("limit", .int e.lim), ("scores", .ref e.scores)]
section
variable {σ : AH} {Q : V → AH → Prop} {e : EA} {n m : Int}
theorem fc_game (h1 : σ e.ctx = some (.inst "SearchContext" e.ctxd)) (h2 : σ e.ctxd = some (.dict (ctxF e n m))) : wpAttr (.ref e.ctx) "game" σ Q = Q (.ref e.game) σ := ra h1 h2 (by exists ctxF) ao_SearchContext_game
theorem fc_table (h1 : σ e.ctx = some (.inst "SearchContext" e.ctxd)) (h2 : σ e.ctxd = some (.dict (ctxF e n m))) : wpAttr (.ref e.ctx) "table" σ Q = Q (if e.hasT = true then .ref e.tab else .none) σ := ra h1 h2 (by exists ctxF) ao_SearchContext_table
theorem fc_killers (h1 : σ e.ctx = some (.inst "SearchContext" e.ctxd)) (h2 : σ e.ctxd = some (.dict (ctxF e n m))) : wpAttr (.ref e.ctx) "killers" σ Q = Q (if e.hasK = true then .ref e.kil else .none) σ := ra h1 h2 (by exists ctxF) ao_SearchContext_killers
theorem fc_history (h1 : σ e.ctx = some (.inst "SearchContext" e.ctxd)) (h2 : σ e.ctxd = some (.dict (ctxF e n m))) : wpAttr (.ref e.ctx) "history" σ Q = Q (if e.hasK = true then .ref e.his else .none) σ := ra h1 h2 (by exists ctxF) ao_SearchContext_history
theorem fc_qdepth (h1 : σ e.ctx = some (.inst "SearchContext" e.ctxd)) (h2 : σ e.ctxd = some (.dict (ctxF e n m))) : wpAttr (.ref e.ctx) "qdepth" σ Q = Q (.int e.qd) σ := ra h1 h2 (by exists ctxF) ao_SearchContext_qdepth
theorem fc_is_exact (h1 : σ e.ctx = some (.inst "SearchContext" e.ctxd)) (h2 : σ e.ctxd = some (.dict (ctxF e n m))) : wpAttr (.ref e.ctx) "is_exact" σ Q = Q (.bool true) σ := ra h1 h2 (by exists ctxF) ao_SearchContext_is_exact
theorem fc_max_nodes (h1 : σ e.ctx = some (.inst "SearchContext" e.ctxd)) (h2 : σ e.ctxd = some (.dict (ctxF e n m))) : wpAttr (.ref e.ctx) "max_nodes" σ Q = Q (.int 0) σ := ra h1 h2 (by exists ctxF) ao_SearchContext_max_nodes
theorem fc_nodes (h1 : σ e.ctx = some (.inst "SearchContext" e.ctxd)) (h2 : σ e.ctxd = some (.dict (ctxF e n m))) : wpAttr (.ref e.ctx) "nodes" σ Q = Q (.int n) σ := ra h1 h2 (by exists ctxF) ao_SearchContext_nodes
theorem fc_made (h1 : σ e.ctx = some (.inst "SearchContext" e.ctxd)) (h2 : σ e.ctxd = some (.dict (ctxF e n m))) : wpAttr (.ref e.ctx) "made" σ Q = Q (.int m) σ := ra h1 h2 (by exists ctxF) ao_SearchContext_made
theorem fc_lines (h1 : σ e.ctx = some (.inst "SearchContext" e.ctxd)) (h2 : σ e.ctxd = some (.dict (ctxF e n m))) : wpAttr (.ref e.ctx) "lines" σ Q = Q (.ref e.lines) σ := ra h1 h2 (by exists ctxF) ao_SearchContext_lines
theorem fg_children (h1 : σ e.game = some (.inst "TreeGame" e.gd)) (h2 : σ e.gd = some (.dict (gameF e))) : wpAttr (.ref e.game) "children" σ Q = Q (.ref e.ch) σ := ra h1 h2 (by exists gameF) ao_TreeGame_children
theorem fg_values (h1 : σ e.game = some (.inst "TreeGame" e.gd)) (h2 : σ e.gd = some (.dict (gameF e))) : wpAttr (.ref e.game) "values" σ Q = Q (.ref e.va) σ := ra h1 h2 (by exists gameF) ao_TreeGame_values
theorem fg_checks (h1 : σ e.game = some (.inst "TreeGame" e.gd)) (h2 : σ e.gd = some (.dict (gameF e))) : wpAttr (.ref e.game) "checks" σ Q = Q (.ref e.ck) σ := ra h1 h2 (by exists gameF) ao_TreeGame_checks
theorem fg_draws (h1 : σ e.game = some (.inst "TreeGame" e.gd)) (h2 : σ e.gd = some (.dict (gameF e))) : wpAttr (.ref e.game) "draws" σ Q = Q (.ref e.dr) σ := ra h1 h2 (by exists gameF) ao_TreeGame_draws
theorem fg_noisy_rows (h1 : σ e.game = some (.inst "TreeGame" e.gd)) (h2 : σ e.gd = some (.dict (gameF e))) : wpAttr (.ref e.game) "noisy_rows" σ Q = Q (.ref e.no) σ := ra h1 h2 (by exists gameF) ao_TreeGame_noisy_rows
theorem fg_gain_rows (h1 : σ e.game = some (.inst "TreeGame" e.gd)) (h2 : σ e.gd = some (.dict (gameF e))) : wpAttr (.ref e.game) "gain_rows" σ Q = Q (.ref e.ga) σ := ra h1 h2 (by exists gameF) ao_TreeGame_gain_rows
theorem fg_path (h1 : σ e.game = some (.inst "TreeGame" e.gd)) (h2 : σ e.gd = some (.dict (gameF e))) : wpAttr (.ref e.game) "path" σ Q = Q (.ref e.path) σ := ra h1 h2 (by exists gameF) ao_TreeGame_path
theorem ft_clusters (h1 : σ e.tab = some (.inst "TransTable" e.td)) (h2 : σ e.td = some (.dict (tabF e))) : wpAttr (.ref e.tab) "clusters" σ Q = Q (.int e.clus) σ := ra h1 h2 (by exists tabF) ao_TransTable_clusters
theorem ft_ways (h1 : σ e.tab = some (.inst "TransTable" e.td)) (h2 : σ e.td = some (.dict (tabF e))) : wpAttr (.ref e.tab) "ways" σ Q = Q (.int e.wys) σ := ra h1 h2 (by exists tabF) ao_TransTable_ways
theorem ft_age (h1 : σ e.tab = some (.inst "TransTable" e.td)) (h2 : σ e.td = some (.dict (tabF e))) : wpAttr (.ref e.tab) "age" σ Q = Q (.int e.age) σ := ra h1 h2 (by exists tabF) ao_TransTable_age
theorem ft_slots (h1 : σ e.tab = some (.inst "TransTable" e.td)) (h2 : σ e.td = some (.dict (tabF e))) : wpAttr (.ref e.tab) "slots" σ Q = Q (.ref e.slots) σ := ra h1 h2 (by exists tabF) ao_TransTable_slots
theorem fk_plies (h1 : σ e.kil = some (.inst "Killers" e.kd)) (h2 : σ e.kd = some (.dict (kilF e))) : wpAttr (.ref e.kil) "plies" σ Q = Q (.int e.kplies) σ := ra h1 h2 (by exists kilF) ao_Killers_plies
theorem fk_first (h1 : σ e.kil = some (.inst "Killers" e.kd)) (h2 : σ e.kd = some (.dict (kilF e))) : wpAttr (.ref e.kil) "first" σ Q = Q (.ref e.first) σ := ra h1 h2 (by exists kilF) ao_Killers_first
theorem fk_second (h1 : σ e.kil = some (.inst "Killers" e.kd)) (h2 : σ e.kd = some (.dict (kilF e))) : wpAttr (.ref e.kil) "second" σ Q = Q (.ref e.second) σ := ra h1 h2 (by exists kilF) ao_Killers_second
theorem fh_limit (h1 : σ e.his = some (.inst "History" e.hd)) (h2 : σ e.hd = some (.dict (hisF e))) : wpAttr (.ref e.his) "limit" σ Q = Q (.int e.lim) σ := ra h1 h2 (by exists hisF) ao_History_limit
theorem fh_scores (h1 : σ e.his = some (.inst "History" e.hd)) (h2 : σ e.hd = some (.dict (hisF e))) : wpAttr (.ref e.his) "scores" σ Q = Q (.ref e.scores) σ := ra h1 h2 (by exists hisF) ao_History_scores
end
noncomputable def Lst (D : Addr → Prop) (σ : AH) (a : Addr) (n : Nat) (f : Nat → V) : Prop := ∃ l, At D σ a (.list l) ∧ l.length = n ∧ ∀ i, i < n → l[i]? = some (f i)
theorem Lst.keep {D : Addr → Prop} {σ σ' : AH} {a : Addr} {n f} (x : Lst D σ a n f) (k : Keep D σ σ') : Lst D σ' a n f := let ⟨l, p, q⟩ := x; ⟨l, p.keep k, q⟩
structure Base (σ : AH) (e : EA) (w : Wd) : Prop where
 game : At e.D σ e.game (.inst "TreeGame" e.gd)
 gd : At e.D σ e.gd (.dict (gameF e))
 ch : Lst e.D σ e.ch w.n fun i => .ref (e.chR i)
 chR : ∀ i, i < w.n → At e.D σ (e.chR i) (.list (natsV (w.ways i)))
 va : Lst e.D σ e.va w.n fun i => .int (w.val i)
 ck : Lst e.D σ e.ck w.n fun i => .bool (w.chk i)
 dr : Lst e.D σ e.dr w.n fun i => .bool (w.drw i)
 no : Lst e.D σ e.no w.n fun i => .ref (e.noR i)
 noR : ∀ i, i < w.n → At e.D σ (e.noR i) (.list ((w.nsy i).map .bool))
 ga : Lst e.D σ e.ga w.n fun i => .ref (e.gaR i)
 gaR : ∀ i, i < w.n → At e.D σ (e.gaR i) (.list ((w.gain i).map .int))
 ctx : At e.D σ e.ctx (.inst "SearchContext" e.ctxd)
 tab : e.hasT = true → At e.D σ e.tab (.inst "TransTable" e.td) ∧ At e.D σ e.td (.dict (tabF e))
 kil : e.hasK = true → At e.D σ e.kil (.inst "Killers" e.kd) ∧ At e.D σ e.kd (.dict (kilF e))
 his : e.hasK = true → At e.D σ e.his (.inst "History" e.hd) ∧ At e.D σ e.hd (.dict (hisF e))
 inj : ∀ k k' a, e.mu k = some a → e.mu k' = some a → k = k'
theorem Base.keep {σ σ' : AH} {e : EA} {w : Wd} (B : Base σ e w) (k : Keep e.D σ σ') : Base σ' e w :=
 ⟨B.game.keep k, B.gd.keep k, B.ch.keep k, fun i h => (B.chR i h).keep k, B.va.keep k, B.ck.keep k, B.dr.keep k, B.no.keep k, fun i h => (B.noR i h).keep k, B.ga.keep k, fun i h => (B.gaR i h).keep k, B.ctx.keep k,
  fun h => ⟨(B.tab h).1.keep k, (B.tab h).2.keep k⟩, fun h => ⟨(B.kil h).1.keep k, (B.kil h).2.keep k⟩, fun h => ⟨(B.his h).1.keep k, (B.his h).2.keep k⟩, B.inj⟩
structure Sv where
 p : List Nat
 nodes : Int
 made : Int
 lns : List Addr
 slots : List Int
 fst : List Int
 snd : List Int
 scs : List (Int × Int)
noncomputable def EA.cont (e : EA) (v : Sv) : Mu → AO
 | .path => .list (natsV v.p)
 | .ctxd => .dict (ctxF e v.nodes v.made)
 | .lines => .list (v.lns.map .ref)
 | .slots => .list (v.slots.map .int)
 | .first => .list (v.fst.map .int)
 | .second => .list (v.snd.map .int)
 | .scores => .idict (v.scs.map fun x => (x.1, .int x.2))
noncomputable def St (σ : AH) (e : EA) (v : Sv) : Prop := ∀ k a, e.mu k = some a → σ a = some (e.cont v k)
theorem St.upd {σ : AH} {e : EA} {w : Wd} {v v' : Sv} {k : Mu} {a : Addr} {o : AO} (S : St σ e v) (B : Base σ e w) (hk : e.mu k = some a) (ho : e.cont v' k = o) (hv : ∀ k', k' ≠ k → e.cont v' k' = e.cont v k') : St (σ.set a o) e v' := by
 intro k' a' h
 by_cases hk' : k' = k
 · subst hk'
   rw [hk] at h; cases h
   rw [set_at, ho]
 · rw [set_ne (fun z => hk' (B.inj k' k a' h (by rw [z]; exact hk))), hv k' hk']
   exact S k' a' h
theorem St.new {σ : AH} {e : EA} {v : Sv} {a : Addr} {o : AO} (S : St σ e v) (h : σ a = Option.none) : St (σ.set a o) e v := fun k b hb => set_old (S k b hb) h
theorem St.notD {σ : AH} {e : EA} {v : Sv} {a : Addr} (S : St σ e v) (h : σ a = Option.none) : ¬ e.D a := fun ⟨k, hk⟩ => by
 have := S k a hk; rw [h] at this; cases this
theorem St.path {σ : AH} {e : EA} {v : Sv} (S : St σ e v) : σ e.path = some (.list (natsV v.p)) := S .path _ rfl
theorem St.ctxd {σ : AH} {e : EA} {v : Sv} (S : St σ e v) : σ e.ctxd = some (.dict (ctxF e v.nodes v.made)) := S .ctxd _ rfl
theorem St.lines {σ : AH} {e : EA} {v : Sv} (S : St σ e v) : σ e.lines = some (.list (v.lns.map .ref)) := S .lines _ rfl
theorem St.slots {σ : AH} {e : EA} {v : Sv} (S : St σ e v) (h : e.hasT = true) : σ e.slots = some (.list (v.slots.map .int)) := S .slots _ (by simp [EA.mu, h])
theorem St.first {σ : AH} {e : EA} {v : Sv} (S : St σ e v) (h : e.hasK = true) : σ e.first = some (.list (v.fst.map .int)) := S .first _ (by simp [EA.mu, h])
theorem St.second {σ : AH} {e : EA} {v : Sv} (S : St σ e v) (h : e.hasK = true) : σ e.second = some (.list (v.snd.map .int)) := S .second _ (by simp [EA.mu, h])
theorem St.scores {σ : AH} {e : EA} {v : Sv} (S : St σ e v) (h : e.hasK = true) : σ e.scores = some (.idict (v.scs.map fun x => (x.1, .int x.2))) := S .scores _ (by simp [EA.mu, h])
theorem r_at {σ : AH} {Q : V → AH → Prop} {a : Addr} {l : List V} {i : Int} {k : Nat} {v : V} (h : σ a = some (.list l)) (hk : pyIdx i l.length = some k) (h1 : l[k]? = some v) (hi : smallI i) (hz : sizeOk l.length) : wpSub (.ref a) (.int i) σ Q = Q v σ := by
 rw [a_sub, h, o_some, o_list, hk, o_some, h1, o_some]
 exact propext ⟨fun q => q.2.2, fun q => ⟨hi, hz, q⟩⟩
theorem r_sub {σ : AH} {Q : V → AH → Prop} {a : Addr} {l : List V} {i : Int} {v : V} (h : σ a = some (.list l)) (h0 : 0 ≤ i) (h1 : l[i.toNat]? = some v) (hz : l.length ≤ 1000) : wpSub (.ref a) (.int i) σ Q = Q v σ := by
 have hl : i.toNat < l.length := by
   rcases Nat.lt_or_ge i.toNat l.length with q | q
   · exact q
   · rw [List.getElem?_eq_none q] at h1; cases h1
 exact r_at h (pyIdx_nat h0 (by lia)) h1 (smallOf (by lia) (by lia)) (by unfold sizeOk; lia)
theorem r_last {σ : AH} {Q : V → AH → Prop} {a : Addr} {q : List Nat} {pl : Nat} (h : σ a = some (.list (natsV (q ++ [pl])))) (hz : q.length ≤ 900) : wpSub (.ref a) (.int (-1)) σ Q = Q (.int pl) σ := by
 have hl : (natsV (q ++ [pl])).length = q.length + 1 := by simp [natsV]
 have hg : (natsV (q ++ [pl]))[q.length + 1 - 1]? = some (.int pl) := by simp [natsV]
 exact r_at h (by rw [hl]; exact pyIdx_last (by lia)) hg (smallOf (by lia) (by lia)) (by unfold sizeOk; lia)
theorem r_lst {D : Addr → Prop} {σ : AH} {Q : V → AH → Prop} {a : Addr} {n : Nat} {f : Nat → V} {i : Nat} (h : Lst D σ a n f) (hi : i < n) (hn : n ≤ 900) : wpSub (.ref a) (.int i) σ Q = Q (f i) σ := by
 revert h; refine xE1 fun l => aE3 fun h1 h2 h3 => ?_
 exact r_sub h1.1 (by lia) (by simpa using h3 i hi) (by lia)
theorem r_lstM {D : Addr → Prop} {σ : AH} {Q : V → AH → Prop} {a : Addr} {n : Nat} {f : Nat → V} {i : Nat} (h : Lst D σ a n f) (hi : i < n) (hn : n ≤ 900) : wpSub (.ref a) (.int i) σ Q = Q (f i) σ := r_lst h hi hn
section
variable {W : Wld} {r : Nat} {σ : AH} {Q : V → AH → Prop} {e : EA} {w : Wd} {v : Sv} {q : List Nat} {pl : Nat}
theorem g_moves (H : IsK W) (hr : 1 ≤ r) (hw : w.Ok) (B : Base σ e w) (S : St σ e v) (hp : v.p = q ++ [pl]) (hq : q.length ≤ 100) (hpl : pl < w.n)
   (h : ∀ c, σ c = Option.none → Q (.ref c) (σ.set c (.list ((rngItems 1 ((w.ways pl).length + 1) 1).map .int)))) : CallSat W r (.me "TreeGame" "moves") [.ref e.game] σ Q := by
 have hP := S.path; rw [hp] at hP
 have := hw.hi
 have hf := hw.few pl
 refine call_up hr fun r hr => call_def (fb_TreeGame_moves H) rfl ?_
 unfold b_TreeGame_moves
 exists fg_children B.game.1 B.gd.1, fg_values B.game.1 B.gd.1, fg_checks B.game.1 B.gd.1, fg_draws B.game.1 B.gd.1, fg_noisy_rows B.game.1 B.gd.1, fg_gain_rows B.game.1 B.gd.1, fg_path B.game.1 B.gd.1, os (B.game.1), os (B.gd.1), gameF, r_last hP (by lia), r_lst B.ch hpl (by lia), a_len (B.chR pl hpl).1
 have e1 : (natsV (w.ways pl)).length = (w.ways pl).length := by simp [natsV]
 rw [e1]
 have s1 : rngSize 1 (((w.ways pl).length : Int) + 1) 1 = (w.ways pl).length := by unfold rngSize; rw [if_pos (by decide)]; lia
 rw [s1]
 (try simp only [smallI, sizeOk]); repeat' (first | assumption | lia | exact h | apply And.intro | (intro _))
theorem g_value (H : IsK W) (hr : 1 ≤ r) (hw : w.Ok) (B : Base σ e w) (S : St σ e v) (hp : v.p = q ++ [pl]) (hq : q.length ≤ 100) (hpl : pl < w.n)
   (h : Q (.int (w.val pl)) σ) : CallSat W r (.me "TreeGame" "value") [.ref e.game] σ Q := by
 have hP := S.path; rw [hp] at hP
 have := hw.hi
 refine call_up hr fun r hr => call_def (fb_TreeGame_value H) rfl ?_
 unfold b_TreeGame_value
 exists fg_children B.game.1 B.gd.1, fg_values B.game.1 B.gd.1, fg_checks B.game.1 B.gd.1, fg_draws B.game.1 B.gd.1, fg_noisy_rows B.game.1 B.gd.1, fg_gain_rows B.game.1 B.gd.1, fg_path B.game.1 B.gd.1, os (B.game.1), os (B.gd.1), gameF, r_last hP (by lia), r_lst B.va hpl (by lia)
 (try simp only [smallI, sizeOk]); repeat' (first | assumption | lia | exact h | apply And.intro | (intro _))
theorem g_key (H : IsK W) (hr : 1 ≤ r) (hw : w.Ok) (B : Base σ e w) (S : St σ e v) (hp : v.p = q ++ [pl]) (hq : q.length ≤ 100)
   (h : Q (.int ((pl : Int) + 1)) σ) : CallSat W r (.me "TreeGame" "key") [.ref e.game] σ Q := by
 have hP := S.path; rw [hp] at hP
 refine call_up hr fun r hr => call_def (fb_TreeGame_key H) rfl ?_
 unfold b_TreeGame_key
 exists fg_children B.game.1 B.gd.1, fg_values B.game.1 B.gd.1, fg_checks B.game.1 B.gd.1, fg_draws B.game.1 B.gd.1, fg_noisy_rows B.game.1 B.gd.1, fg_gain_rows B.game.1 B.gd.1, fg_path B.game.1 B.gd.1, os (B.game.1), os (B.gd.1), gameF, r_last hP (by lia)
 (try simp only [smallI, sizeOk]); repeat' (first | assumption | lia | exact h | apply And.intro | (intro _))
theorem g_in_check (H : IsK W) (hr : 1 ≤ r) (hw : w.Ok) (B : Base σ e w) (S : St σ e v) (hp : v.p = q ++ [pl]) (hq : q.length ≤ 100) (hpl : pl < w.n)
   (h : Q (.bool (w.chk pl)) σ) : CallSat W r (.me "TreeGame" "in_check") [.ref e.game] σ Q := by
 have hP := S.path; rw [hp] at hP
 have := hw.hi
 refine call_up hr fun r hr => call_def (fb_TreeGame_in_check H) rfl ?_
 unfold b_TreeGame_in_check
 exists fg_children B.game.1 B.gd.1, fg_values B.game.1 B.gd.1, fg_checks B.game.1 B.gd.1, fg_draws B.game.1 B.gd.1, fg_noisy_rows B.game.1 B.gd.1, fg_gain_rows B.game.1 B.gd.1, fg_path B.game.1 B.gd.1, os (B.game.1), os (B.gd.1), gameF, r_last hP (by lia), r_lst B.ck hpl (by lia)
 (try simp only [smallI, sizeOk]); repeat' (first | assumption | lia | exact h | apply And.intro | (intro _))
theorem g_is_draw (H : IsK W) (hr : 1 ≤ r) (hw : w.Ok) (B : Base σ e w) (S : St σ e v) (hp : v.p = q ++ [pl]) (hq : q.length ≤ 100) (hpl : pl < w.n)
   (h : Q (.bool (w.drw pl)) σ) : CallSat W r (.me "TreeGame" "is_draw") [.ref e.game] σ Q := by
 have hP := S.path; rw [hp] at hP
 have := hw.hi
 refine call_up hr fun r hr => call_def (fb_TreeGame_is_draw H) rfl ?_
 unfold b_TreeGame_is_draw
 exists fg_children B.game.1 B.gd.1, fg_values B.game.1 B.gd.1, fg_checks B.game.1 B.gd.1, fg_draws B.game.1 B.gd.1, fg_noisy_rows B.game.1 B.gd.1, fg_gain_rows B.game.1 B.gd.1, fg_path B.game.1 B.gd.1, os (B.game.1), os (B.gd.1), gameF, r_last hP (by lia), r_lst B.dr hpl (by lia)
 (try simp only [smallI, sizeOk]); repeat' (first | assumption | lia | exact h | apply And.intro | (intro _))
theorem g_is_noisy (H : IsK W) (hr : 1 ≤ r) (hw : w.Ok) (B : Base σ e w) (S : St σ e v) (hp : v.p = q ++ [pl]) (hq : q.length ≤ 100) (hpl : pl < w.n) {mv : Int} (h1 : 1 ≤ mv) (h2 : mv ≤ (w.ways pl).length)
   (h : ∀ b, (w.nsy pl)[(mv - 1).toNat]? = some b → Q (.bool b) σ) : CallSat W r (.me "TreeGame" "is_noisy") [.ref e.game, .int mv] σ Q := by
 have hP := S.path; rw [hp] at hP
 have := hw.hi
 have hf := hw.few pl
 have hl := hw.nsl pl hpl
 have hi : (mv - 1).toNat < (w.nsy pl).length := by lia
 have hg : ((w.nsy pl).map V.bool)[(mv - 1).toNat]? = some (.bool (w.nsy pl)[(mv - 1).toNat]) := by rw [List.getElem?_map, List.getElem?_eq_getElem hi]; rfl
 refine call_up hr fun r hr => call_def (fb_TreeGame_is_noisy H) rfl ?_
 unfold b_TreeGame_is_noisy
 exists fg_children B.game.1 B.gd.1, fg_values B.game.1 B.gd.1, fg_checks B.game.1 B.gd.1, fg_draws B.game.1 B.gd.1, fg_noisy_rows B.game.1 B.gd.1, fg_gain_rows B.game.1 B.gd.1, fg_path B.game.1 B.gd.1, os (B.game.1), os (B.gd.1), gameF, r_last hP (by lia), r_lst B.no hpl (by lia), r_sub (B.noR pl hpl).1 (show 0 ≤ mv - 1 by lia) hg (by simp; lia)
 exact h _ (List.getElem?_eq_getElem hi)
theorem g_gain (H : IsK W) (hr : 1 ≤ r) (hw : w.Ok) (B : Base σ e w) (S : St σ e v) (hp : v.p = q ++ [pl]) (hq : q.length ≤ 100) (hpl : pl < w.n) {mv : Int} (h1 : 1 ≤ mv) (h2 : mv ≤ (w.ways pl).length)
   (h : ∀ i, Q (.int i) σ) : CallSat W r (.me "TreeGame" "gain") [.ref e.game, .int mv] σ Q := by
 have hP := S.path; rw [hp] at hP
 have := hw.hi
 have hf := hw.few pl
 have hl := hw.gnl pl hpl
 have hi : (mv - 1).toNat < (w.gain pl).length := by lia
 have hg : ((w.gain pl).map V.int)[(mv - 1).toNat]? = some (.int (w.gain pl)[(mv - 1).toNat]) := by rw [List.getElem?_map, List.getElem?_eq_getElem hi]; rfl
 refine call_up hr fun r hr => call_def (fb_TreeGame_gain H) rfl ?_
 unfold b_TreeGame_gain
 exists fg_children B.game.1 B.gd.1, fg_values B.game.1 B.gd.1, fg_checks B.game.1 B.gd.1, fg_draws B.game.1 B.gd.1, fg_noisy_rows B.game.1 B.gd.1, fg_gain_rows B.game.1 B.gd.1, fg_path B.game.1 B.gd.1, os (B.game.1), os (B.gd.1), gameF, r_last hP (by lia), r_lst B.ga hpl (by lia), r_sub (B.gaR pl hpl).1 (show 0 ≤ mv - 1 by lia) hg (by simp; lia)
 exact h _
theorem g_side (H : IsK W) (hr : 1 ≤ r) (B : Base σ e w) (S : St σ e v) (hq : v.p.length ≤ 200) (hq1 : 1 ≤ v.p.length)
   (h : ∀ i, 0 ≤ i → i ≤ 1 → Q (.int i) σ) : CallSat W r (.me "TreeGame" "side") [.ref e.game] σ Q := by
 have hP := S.path
 refine call_up hr fun r hr => call_def (fb_TreeGame_side H) rfl ?_
 unfold b_TreeGame_side
 exists fg_children B.game.1 B.gd.1, fg_values B.game.1 B.gd.1, fg_checks B.game.1 B.gd.1, fg_draws B.game.1 B.gd.1, fg_noisy_rows B.game.1 B.gd.1, fg_gain_rows B.game.1 B.gd.1, fg_path B.game.1 B.gd.1, os (B.game.1), os (B.gd.1), gameF, a_len hP
 have e1 : (natsV v.p).length = v.p.length := by simp [natsV]
 rw [e1]
 rw [bAnd _ 1 1 (by lia) (by decide)]
 exact ⟨by unfold sizeOk; lia, h _ (by lia) (by lia)⟩
theorem g_make (H : IsK W) (hr : 1 ≤ r) (hw : w.Ok) (B : Base σ e w) (S : St σ e v) (hp : v.p = q ++ [pl]) (hq : q.length ≤ 100) (hpl : pl < w.n) {mv : Int} (h1 : 1 ≤ mv) (h2 : mv ≤ (w.ways pl).length)
   (h : ∀ c σ', (w.ways pl)[(mv - 1).toNat]? = some c → Base σ' e w → St σ' e { v with p := v.p ++ [c] } → Keep e.D σ σ' → Q .none σ') : CallSat W r (.me "TreeGame" "make") [.ref e.game, .int mv] σ Q := by
 have hP := S.path
 have hP' := hP; rw [hp] at hP
 have := hw.hi
 have hf := hw.few pl
 have hi : (mv - 1).toNat < (w.ways pl).length := by lia
 have hg : (natsV (w.ways pl))[(mv - 1).toNat]? = some (.int ((w.ways pl)[(mv - 1).toNat] : Nat)) := by unfold natsV; rw [List.getElem?_map, List.getElem?_eq_getElem hi]; rfl
 have hc := B.chR pl hpl
 have hlen : (natsV (w.ways pl)).length = (w.ways pl).length := by simp [natsV]
 refine call_up hr fun r hr => call_def (fb_TreeGame_make H) rfl ?_
 unfold b_TreeGame_make
 exists fg_children B.game.1 B.gd.1, fg_values B.game.1 B.gd.1, fg_checks B.game.1 B.gd.1, fg_draws B.game.1 B.gd.1, fg_noisy_rows B.game.1 B.gd.1, fg_gain_rows B.game.1 B.gd.1, fg_path B.game.1 B.gd.1, os (B.game.1), os (B.gd.1), gameF, r_last hP (by lia), r_lst B.ch hpl (by lia), a_len hc.1, os (a_list hP' (.inl rfl)), r_sub hc.1 (show 0 ≤ mv - 1 by lia) hg (by rw [hlen]; lia), m_app hP', hlen
 have hD : e.D e.path := ⟨.path, rfl⟩
 have K : Keep e.D σ (σ.set e.path (.list (natsV v.p ++ [.int ((w.ways pl)[(mv - 1).toNat] : Nat)]))) := .set hD
 refine ⟨fun c => by lia, fun _ => ⟨by unfold sizeOk; lia, fun c => by lia, fun _ => ⟨?_, h _ _ (List.getElem?_eq_getElem hi) (B.keep K) ?_ K⟩⟩⟩
 · rw [hp]; unfold sizeOk natsV; simp; lia
 · refine S.upd B (k := .path) rfl ?_ fun k' hk => by cases k' <;> first | rfl | exact absurd rfl hk
   show AO.list (natsV (v.p ++ [_])) = _
   unfold natsV; rw [List.map_append]; rfl
theorem g_undo (H : IsK W) (hr : 1 ≤ r) (B : Base σ e w) (S : St σ e v) (hp : v.p = q ++ [pl]) (hq : q.length ≤ 100) (hq1 : 1 ≤ q.length)
   (h : ∀ σ', Base σ' e w → St σ' e { v with p := q } → Keep e.D σ σ' → Q .none σ') : CallSat W r (.me "TreeGame" "undo") [.ref e.game] σ Q := by
 have hP := S.path; rw [hp] at hP
 have hlen : (natsV (q ++ [pl])).length = q.length + 1 := by simp [natsV]
 have hl : (natsV (q ++ [pl])).getLast? = some (.int pl) := by unfold natsV; rw [List.map_append]; simp
 have hd : (natsV (q ++ [pl])).dropLast = natsV q := by unfold natsV; rw [List.map_append]; simp
 refine call_up hr fun r hr => call_def (fb_TreeGame_undo H) rfl ?_
 unfold b_TreeGame_undo
 exists fg_children B.game.1 B.gd.1, fg_values B.game.1 B.gd.1, fg_checks B.game.1 B.gd.1, fg_draws B.game.1 B.gd.1, fg_noisy_rows B.game.1 B.gd.1, fg_gain_rows B.game.1 B.gd.1, fg_path B.game.1 B.gd.1, os (B.game.1), os (B.gd.1), gameF, a_len hP, os (a_list hP (.inr (.inl rfl))), m_pop hP, hlen, hl, hd
 have hD : e.D e.path := ⟨.path, rfl⟩
 have K : Keep e.D σ (σ.set e.path (.list (natsV q))) := .set hD
 refine ⟨by unfold sizeOk; lia, fun c => by lia, fun _ => ⟨by unfold sizeOk; lia, h _ (B.keep K) ?_ K⟩⟩
 exact S.upd B (k := .path) rfl rfl fun k' hk => by cases k' <;> first | rfl | exact absurd rfl hk
end
theorem gi_make (e : EA) : getF (gameF e) "make" = Option.none := by exists gameF
theorem gi_undo (e : EA) : getF (gameF e) "undo" = Option.none := by exists gameF
theorem gi_moves (e : EA) : getF (gameF e) "moves" = Option.none := by exists gameF
theorem gi_noisy (e : EA) : getF (gameF e) "noisy" = Option.none := by exists gameF
theorem gi_value (e : EA) : getF (gameF e) "value" = Option.none := by exists gameF
theorem gi_key (e : EA) : getF (gameF e) "key" = Option.none := by exists gameF
theorem gi_in_check (e : EA) : getF (gameF e) "in_check" = Option.none := by exists gameF
theorem gi_is_draw (e : EA) : getF (gameF e) "is_draw" = Option.none := by exists gameF
theorem gi_is_noisy (e : EA) : getF (gameF e) "is_noisy" = Option.none := by exists gameF
theorem gi_gain (e : EA) : getF (gameF e) "gain" = Option.none := by exists gameF
theorem gi_side (e : EA) : getF (gameF e) "side" = Option.none := by exists gameF
theorem gi_tick (e : EA) (a b : Int) : getF (ctxF e a b) "tick" = Option.none := by exists ctxF
theorem gi_hget (e : EA) : getF (hisF e) "get" = Option.none := by exists hisF
theorem gi_hup (e : EA) : getF (hisF e) "update" = Option.none := by exists hisF
theorem gi_hbo (e : EA) : getF (hisF e) "bonus" = Option.none := by exists hisF
theorem gi_kadd (e : EA) : getF (kilF e) "add" = Option.none := by exists kilF
theorem gi_kpair (e : EA) : getF (kilF e) "pair" = Option.none := by exists kilF
theorem gi_kclear (e : EA) : getF (kilF e) "clear" = Option.none := by exists kilF
theorem gi_tprobe (e : EA) : getF (tabF e) "probe" = Option.none := by exists tabF
theorem gi_tsave (e : EA) : getF (tabF e) "save" = Option.none := by exists tabF
theorem gi_tnew (e : EA) : getF (tabF e) "new_search" = Option.none := by exists tabF
section
variable {W : Wld} {r : Nat} {σ : AH} {Q : V → AH → Prop} {e : EA} {w : Wd} {v : Sv} {q : List Nat} {pl : Nat}
theorem St.setCtx (S : St σ e v) (B : Base σ e w) {n m : Int} {fs : List (Str × V)} (hf : fs = ctxF e n m) : St (σ.set e.ctxd (.dict fs)) e { v with nodes := n, made := m } := by
 subst hf
 exact S.upd B (k := .ctxd) rfl rfl fun k' hk => by cases k' <;> first | rfl | exact absurd rfl hk
theorem D_ctxd : e.D e.ctxd := ⟨.ctxd, rfl⟩
theorem D_lines : e.D e.lines := ⟨.lines, rfl⟩
theorem D_slots (h : e.hasT = true) : e.D e.slots := ⟨.slots, by simp [EA.mu, h]⟩
theorem D_first (h : e.hasK = true) : e.D e.first := ⟨.first, by simp [EA.mu, h]⟩
theorem D_second (h : e.hasK = true) : e.D e.second := ⟨.second, by simp [EA.mu, h]⟩
theorem D_scores (h : e.hasK = true) : e.D e.scores := ⟨.scores, by simp [EA.mu, h]⟩
theorem x_tick (H : IsK W) (hr : 1 ≤ r) (B : Base σ e w) (S : St σ e v)
   (h : ∀ σ', Base σ' e w → St σ' e { v with nodes := v.nodes + 1 } → Keep e.D σ σ' → Q .none σ') : CallSat W r (.me "SearchContext" "tick") [.ref e.ctx] σ Q := by
 have hC := S.ctxd
 refine call_up hr fun r hr => call_def (fb_SearchContext_tick H) rfl ?_
 unfold b_SearchContext_tick
 exists fc_game B.ctx.1 hC, fc_table B.ctx.1 hC, fc_killers B.ctx.1 hC, fc_history B.ctx.1 hC, fc_qdepth B.ctx.1 hC, fc_is_exact B.ctx.1 hC, fc_max_nodes B.ctx.1 hC, fc_nodes B.ctx.1 hC, fc_made B.ctx.1 hC, fc_lines B.ctx.1 hC, rsa B.ctx.1 hC ao_SearchContext_nodes, rsa B.ctx.1 hC ao_SearchContext_made, os (B.ctx.1), os (hC), ctxF
 have K : Keep e.D σ (σ.set e.ctxd (.dict (ctxF e (v.nodes + 1) v.made))) := .set D_ctxd
 have S' := S.setCtx B (n := v.nodes + 1) (m := v.made) rfl
 have z := h _ (B.keep K) S' K
 unfold ctxF at z
 exact ⟨fun c => absurd c (by decide), fun _ => ⟨by decide, z⟩⟩
theorem x_step_into (H : IsK W) (hr : 2 ≤ r) (hw : w.Ok) (B : Base σ e w) (S : St σ e v) (hp : v.p = q ++ [pl]) (hq : q.length ≤ 100) (hpl : pl < w.n) {mv : Int} (h1 : 1 ≤ mv) (h2 : mv ≤ (w.ways pl).length)
   (h : ∀ c σ', (w.ways pl)[(mv - 1).toNat]? = some c → Base σ' e w → St σ' e { v with p := v.p ++ [c], made := v.made + 1 } → Keep e.D σ σ' → Q .none σ') : CallSat W r (.fn "step_into") [.ref e.ctx, .int mv] σ Q := by
 have hC := S.ctxd
 refine call_up hr fun r hr => call_def (fb_step_into H) rfl ?_
 unfold b_step_into
 exists fc_game B.ctx.1 hC, fc_table B.ctx.1 hC, fc_killers B.ctx.1 hC, fc_history B.ctx.1 hC, fc_qdepth B.ctx.1 hC, fc_is_exact B.ctx.1 hC, fc_max_nodes B.ctx.1 hC, fc_nodes B.ctx.1 hC, fc_made B.ctx.1 hC, fc_lines B.ctx.1 hC, rsa B.ctx.1 hC ao_SearchContext_nodes, rsa B.ctx.1 hC ao_SearchContext_made, os (B.ctx.1), os (hC), ctxF, os (a_inst B.game.1 B.gd.1 mo_TreeGame_make (gi_make e))
 refine g_make H hr hw B S hp hq hpl h1 h2 fun c σ' hc B' S' K' => ?_
 have hC' := S'.ctxd
 exists fc_game B'.ctx.1 hC', fc_table B'.ctx.1 hC', fc_killers B'.ctx.1 hC', fc_history B'.ctx.1 hC', fc_qdepth B'.ctx.1 hC', fc_is_exact B'.ctx.1 hC', fc_max_nodes B'.ctx.1 hC', fc_nodes B'.ctx.1 hC', fc_made B'.ctx.1 hC', fc_lines B'.ctx.1 hC', rsa B'.ctx.1 hC' ao_SearchContext_nodes, rsa B'.ctx.1 hC' ao_SearchContext_made, os (B'.ctx.1), os (hC'), ctxF
 have K : Keep e.D σ' (σ'.set e.ctxd (.dict (ctxF e v.nodes (v.made + 1)))) := .set D_ctxd
 have z := h c _ hc (B'.keep K) (S'.setCtx B' (n := v.nodes) (m := v.made + 1) rfl) (K'.trans K)
 unfold ctxF at z
 exact ⟨by decide, z⟩
theorem x_step_back (H : IsK W) (hr : 2 ≤ r) (B : Base σ e w) (S : St σ e v) (hp : v.p = q ++ [pl]) (hq : q.length ≤ 100) (hq1 : 1 ≤ q.length)
   (h : ∀ σ', Base σ' e w → St σ' e { v with p := q, made := v.made - 1 } → Keep e.D σ σ' → Q .none σ') : CallSat W r (.fn "step_back") [.ref e.ctx] σ Q := by
 have hC := S.ctxd
 refine call_up hr fun r hr => call_def (fb_step_back H) rfl ?_
 unfold b_step_back
 exists fc_game B.ctx.1 hC, fc_table B.ctx.1 hC, fc_killers B.ctx.1 hC, fc_history B.ctx.1 hC, fc_qdepth B.ctx.1 hC, fc_is_exact B.ctx.1 hC, fc_max_nodes B.ctx.1 hC, fc_nodes B.ctx.1 hC, fc_made B.ctx.1 hC, fc_lines B.ctx.1 hC, rsa B.ctx.1 hC ao_SearchContext_nodes, rsa B.ctx.1 hC ao_SearchContext_made, os (B.ctx.1), os (hC), ctxF, os (a_inst B.game.1 B.gd.1 mo_TreeGame_undo (gi_undo e))
 refine g_undo H hr B S hp hq hq1 fun σ' B' S' K' => ?_
 have hC' := S'.ctxd
 exists fc_game B'.ctx.1 hC', fc_table B'.ctx.1 hC', fc_killers B'.ctx.1 hC', fc_history B'.ctx.1 hC', fc_qdepth B'.ctx.1 hC', fc_is_exact B'.ctx.1 hC', fc_max_nodes B'.ctx.1 hC', fc_nodes B'.ctx.1 hC', fc_made B'.ctx.1 hC', fc_lines B'.ctx.1 hC', rsa B'.ctx.1 hC' ao_SearchContext_nodes, rsa B'.ctx.1 hC' ao_SearchContext_made, os (B'.ctx.1), os (hC'), ctxF
 have K : Keep e.D σ' (σ'.set e.ctxd (.dict (ctxF e v.nodes (v.made - 1)))) := .set D_ctxd
 have z := h _ (B'.keep K) (S'.setCtx B' (n := v.nodes) (m := v.made - 1) rfl) (K'.trans K)
 unfold ctxF at z
 exact ⟨by decide, z⟩
noncomputable def LnAt (e : EA) (σ : AH) (a : Addr) (l : List Int) : Prop := At e.D σ a (.list (l.map .int))
theorem St.setLns (S : St σ e v) (B : Base σ e w) {l : List Addr} : St (σ.set e.lines (.list (l.map .ref))) e { v with lns := l } :=
 S.upd B (k := .lines) rfl rfl fun k' hk => by cases k' <;> first | rfl | exact absurd rfl hk
theorem while_inv {test : Loc → AH → (Bool → AH → Prop) → Prop} {body : Loc → AH → SQ → Prop} {Q : SQ} (I : Nat → Loc → AH → Prop)
   (step : ∀ n m σ, I n m σ → ∀ K : SQ, (∀ j m' σ', n = j + 1 → I j m' σ' → K .next m' σ') → (∀ j m' σ', n = j + 1 → I j m' σ' → K .cont m' σ') → (∀ m' σ', Q .next m' σ' → K .brk m' σ') → (∀ u m' σ', Q (.ret u) m' σ' → K (.ret u) m' σ') →
     test m σ fun b σ => (b = true → body m σ K) ∧ (b = false → Q .next m σ)) :
   ∀ (n : Nat) {m : Loc} {σ : AH}, I n m σ → wpLoop test body (n + 1) m σ Q := by
 have conv : ∀ (m : Loc) (σ : AH) (K : SQ), (test m σ fun b σ => (b = true → body m σ K) ∧ (b = false → Q .next m σ)) = test m σ fun b σ => match b with | true => body m σ K | false => Q .next m σ := fun m σ K => by
   congr; funext b σ; cases b <;> simp
 intro n
 induction n with
 | zero =>
   intro m σ h
   unfold wpLoop
   have := step 0 m σ h (fun f m σ => match f with
     | .next => wpLoop test body 0 m σ Q
     | .cont => wpLoop test body 0 m σ Q
     | .brk => Q .next m σ
     | .ret v => Q (.ret v) m σ) (fun j _ _ hj => by lia) (fun j _ _ hj => by lia) (fun _ _ h => h) (fun _ _ _ h => h)
   rw [conv] at this
   exact this
 | succ n ih =>
   intro m σ h
   unfold wpLoop
   have := step (n + 1) m σ h (fun f m σ => match f with
     | .next => wpLoop test body (n + 1) m σ Q
     | .cont => wpLoop test body (n + 1) m σ Q
     | .brk => Q .next m σ
     | .ret v => Q (.ret v) m σ) (fun j _ _ hj h' => by cases hj; exact ih h') (fun j _ _ hj h' => by cases hj; exact ih h') (fun _ _ h => h) (fun _ _ _ h => h)
   rw [conv] at this
   exact this
theorem x_clear_line (H : IsK W) (hr : 1 ≤ r) (B : Base σ e w) (S : St σ e v) {ply : Nat} (hply : ply ≤ 100) (hl : v.lns.length ≤ 200)
   (h : ∀ σ' (l : List Addr), Base σ' e w → St σ' e { v with lns := l } → Keep e.D σ σ' → ply < l.length → l.length ≤ max v.lns.length (ply + 1) → (∀ (i : Nat) (a : Addr), i < ply → v.lns[i]? = some a → l[i]? = some a) → (∃ a, l[ply]? = some a ∧ LnAt e σ' a []) → Q .none σ') :
   CallSat W r (.fn "clear_line") [.ref e.ctx, .int ply] σ Q := by
 refine call_up hr fun r hr => call_def (fb_clear_line H) rfl ?_
 unfold b_clear_line
 exists true_and
 refine ⟨ply + 1 + 1, while_inv (fun n m' σ' => m' "ctx" = some (.ref e.ctx) ∧ m' "ply" = some (.int ply) ∧ ∃ l : List Addr, Base σ' e w ∧ St σ' e { v with lns := l } ∧ Keep e.D σ σ' ∧ l.length ≤ max v.lns.length (ply + 1) ∧ ply + 1 ≤ l.length + n ∧ (∀ (i : Nat) (a : Addr), v.lns[i]? = some a → l[i]? = some a)) ?_ (ply + 1) ⟨?_, ?_, v.lns, B, S, .refl, by lia, by lia, fun _ _ h => h⟩⟩
 · rintro n m' σ' oy0; revert oy0; refine aE3 fun g1 g2 => xE1 fun l => aE6 fun B' S' K' h1 h2 h3 => ?_; rintro K k1 k2 k3 k4
   have hC := S'.ctxd
   have hL := S'.lines
   exists os (g1), os (g2), fc_game B'.ctx.1 hC, fc_table B'.ctx.1 hC, fc_killers B'.ctx.1 hC, fc_history B'.ctx.1 hC, fc_qdepth B'.ctx.1 hC, fc_is_exact B'.ctx.1 hC, fc_max_nodes B'.ctx.1 hC, fc_nodes B'.ctx.1 hC, fc_made B'.ctx.1 hC, fc_lines B'.ctx.1 hC, rsa B'.ctx.1 hC ao_SearchContext_nodes, rsa B'.ctx.1 hC ao_SearchContext_made, os (B'.ctx.1), os (hC), ctxF, a_len hL, List.length_map, os (a_list hL (.inl rfl))
   refine ⟨by unfold sizeOk; lia, fun c => ?_, fun c => ?_⟩
   · refine ⟨by unfold sizeOk; simp, fun a ha => ?_⟩
     have hL' : (σ'.set a (.list [])) e.lines = some (.list (l.map .ref)) := set_old hL ha
     exists m_app hL'
     have B2 := B'.keep (.new ha (o := .list []))
     have S2 := S'.new ha (o := .list [])
     have K2 : Keep e.D (σ'.set a (.list [])) ((σ'.set a (.list [])).set e.lines (.list (l.map .ref ++ [.ref a]))) := .set D_lines
     refine ⟨by unfold sizeOk; simp; lia, ?_⟩
     cases n with
     | zero => lia
     | succ n =>
       refine k1 n _ _ rfl ⟨g1, g2, l ++ [a], B2.keep K2, ?_, K'.trans ((Keep.new ha).trans K2), by simp; lia, by simp; lia, fun i b hb => ?_⟩
       · have := S2.setLns B2 (l := l ++ [a])
         rwa [List.map_append] at this
       · have := h3 i b hb
         rw [List.getElem?_append_left]
         · exact this
         · rcases Nat.lt_or_ge i l.length with z | z
           · exact z
           · rw [List.getElem?_eq_none z] at this; cases this
   · skip
     refine ⟨by unfold sizeOk; lia, fun a ha => ?_⟩
     have hL' : (σ'.set a (.list [])) e.lines = some (.list (l.map .ref)) := set_old hL ha
     have B2 := B'.keep (.new ha (o := .list []))
     have S2 := S'.new ha (o := .list [])
     have hC2 := S2.ctxd
     exists os (g1), os (g2), fc_game B2.ctx.1 hC2, fc_table B2.ctx.1 hC2, fc_killers B2.ctx.1 hC2, fc_history B2.ctx.1 hC2, fc_qdepth B2.ctx.1 hC2, fc_is_exact B2.ctx.1 hC2, fc_max_nodes B2.ctx.1 hC2, fc_nodes B2.ctx.1 hC2, fc_made B2.ctx.1 hC2, fc_lines B2.ctx.1 hC2, rsa B2.ctx.1 hC2 ao_SearchContext_nodes, rsa B2.ctx.1 hC2 ao_SearchContext_made, os (B2.ctx.1), os (hC2), ctxF, a_setSub hL', List.length_map
     have K2 : Keep e.D (σ'.set a (.list [])) ((σ'.set a (.list [])).set e.lines (.list ((l.map V.ref).set ply (.ref a)))) := .set D_lines
     have e1 : (l.map V.ref).set ply (.ref a) = (l.set ply a).map V.ref := by rw [List.map_set]
     have S3 : St ((σ'.set a (.list [])).set e.lines (.list ((l.map V.ref).set ply (.ref a)))) e { v with lns := l.set ply a } := by
       rw [e1]; exact S2.setLns B2
     have z := h _ (l.set ply a) (B2.keep K2) S3 (K'.trans ((Keep.new ha).trans K2)) (by simp; lia) (by simp; lia) (fun i b hi hb => ?_) ⟨a, by rw [List.getElem?_set_self (by lia)], ?_⟩
     · refine ⟨by lia, by lia, by unfold sizeOk; lia, ?_⟩
       have : ((ply : Int)).toNat = ply := by lia
       rw [this]
       exact z
     · rw [List.getElem?_set_ne (by lia)]; exact h3 i b hb
     · have nd : ¬ e.D a := S'.notD ha
       exact At.keep ⟨set_at, nd⟩ K2
 · exists true_and
 · exists true_and
end
structure EA.Cf (e : EA) : Prop where
 c1 : 1 ≤ e.clus
 c2 : e.clus ≤ 4
 w1 : 1 ≤ e.wys
 w2 : e.wys ≤ 2
 a1 : 0 ≤ e.age
 a2 : e.age < 64
 k1 : 0 ≤ e.kplies
 k2 : e.kplies ≤ 6
 l1 : 1 ≤ e.lim
 l2 : e.lim ≤ 90
 q1 : 0 ≤ e.qd
 q2 : e.qd ≤ 2
noncomputable def hkeys : List Int := [0, 1, 2, 3, 4, 5, 6, 7, 65536, 65537, 65538, 65539, 65540, 65541, 65542, 65543]
noncomputable def ScOk (L : Int) (l : List (Int × Int)) : Prop := (∀ x ∈ l, -L ≤ x.2 ∧ x.2 ≤ L ∧ x.1 ∈ hkeys) ∧ (l.map (·.1)).Nodup
noncomputable def gs : List (Int × Int) → Int → Option Int
 | [], _ => Option.none
 | p :: r, x => if p.1 = x then some p.2 else gs r x
noncomputable def ss : List (Int × Int) → Int → Int → List (Int × Int)
 | [], x, v => [(x, v)]
 | p :: r, x, v => if p.1 = x then (x, v) :: r else p :: ss r x v
theorem getI_map (k : Int) : ∀ l : List (Int × Int), getI (l.map fun x => (x.1, V.int x.2)) k = (gs l k).map V.int
 | [] => rfl
 | p :: r => by
   simp only [List.map_cons, getI, gs]
   split
   · rfl
   · exact getI_map k r
theorem setI_map (k i : Int) : ∀ l : List (Int × Int), setI (l.map fun x => (x.1, V.int x.2)) k (.int i) = (ss l k i).map fun x => (x.1, V.int x.2)
 | [] => rfl
 | p :: r => by
   simp only [List.map_cons, setI, ss]
   split
   · rfl
   · rw [List.map_cons, setI_map k i r]
theorem gs_mem {k x : Int} : ∀ {l : List (Int × Int)}, gs l k = some x → ∃ j, (j, x) ∈ l
 | p :: r, h => by
   unfold gs at h
   split at h
   · cases h; exact ⟨p.1, .head _⟩
   · obtain ⟨j, hj⟩ := gs_mem h; exact ⟨j, .tail _ hj⟩
set_option tactic.hygienic true in
theorem ss_keys {k i : Int} : ∀ {l : List (Int × Int)} {j : Int}, j ∈ (ss l k i).map (·.1) → j = k ∨ j ∈ l.map (·.1)
 | [], j, h => by simp [ss] at h; exact .inl h
 | p :: r, j, h => by
   unfold ss at h
   split at h
   · rename_i hp
     rw [List.map_cons, List.mem_cons] at h
     rcases h with h | h
     · exact .inl h
     · exact .inr (.tail _ h)
   · rw [List.map_cons, List.mem_cons] at h
     rcases h with h | h
     · exact .inr (h ▸ .head _)
     · rcases ss_keys h with h | h
       · exact .inl h
       · exact .inr (.tail _ h)
set_option tactic.hygienic true in
theorem ScOk.set {L k i : Int} (hi : -L ≤ i ∧ i ≤ L) (hk : k ∈ hkeys) : ∀ {l : List (Int × Int)}, ScOk L l → ScOk L (ss l k i)
 | [], h => ⟨fun x hx => by simp [ss] at hx; subst hx; exact ⟨hi.1, hi.2, hk⟩, by simp [ss]⟩
 | p :: r, ⟨h1, h2⟩ => by
   rw [List.map_cons, List.nodup_cons] at h2
   unfold ss
   split
   · rename_i hp
     refine ⟨fun x hx => ?_, ?_⟩
     · rcases List.mem_cons.mp hx with rfl | hx
       · exact ⟨hi.1, hi.2, hk⟩
       · exact h1 x (.tail _ hx)
     · rw [List.map_cons, List.nodup_cons]; exact ⟨hp ▸ h2.1, h2.2⟩
   · rename_i hp
     have ih := ScOk.set hi hk (l := r) ⟨fun x hx => h1 x (.tail _ hx), h2.2⟩
     refine ⟨fun x hx => ?_, ?_⟩
     · rcases List.mem_cons.mp hx with rfl | hx
       · exact h1 _ (.head _)
       · exact ih.1 x hx
     · rw [List.map_cons, List.nodup_cons]
       refine ⟨fun z => ?_, ih.2⟩
       rcases ss_keys z with z | z
       · exact hp z
       · exact h2.1 z
theorem nodup_len : ∀ (K l : List Int), l.Nodup → (∀ x ∈ l, x ∈ K) → l.length ≤ K.length
 | [], l, _, h => by cases l with
   | nil => simp
   | cons a l => exact absurd (h a (.head _)) (by simp)
 | a :: K, l, hn, h => by
   have := nodup_len K (l.erase a) (hn.erase a) fun x hx => by
     have := (hn.mem_erase_iff).mp hx
     rcases List.mem_cons.mp (h x this.2) with q | q
     · exact absurd q this.1
     · exact q
   have hl := List.length_erase (a := a) (l := l)
   simp only [List.length_cons]
   rw [hl] at this
   split at this <;> lia
theorem ScOk.few {L : Int} {l : List (Int × Int)} (h : ScOk L l) : l.length ≤ 16 := by
 have := nodup_len hkeys (l.map (·.1)) h.2 fun x hx => by
   refine (xE1 fun y => aE2 fun hy oy0 => ?_) (List.mem_map.mp hx); obtain rfl := oy0
   exact (h.1 y hy).2.2
 simpa [hkeys] using this
theorem hkey_mem {s m : Int} (h1 : 0 ≤ s) (h2 : s ≤ 1) (h3 : 0 ≤ m) (h4 : m ≤ 7) : s * 65536 + m ∈ hkeys := by
 have hs : s = 0 ∨ s = 1 := by lia
 have : m = 0 ∨ m = 1 ∨ m = 2 ∨ m = 3 ∨ m = 4 ∨ m = 5 ∨ m = 6 ∨ m = 7 := by lia
 rcases hs with rfl | rfl <;> rcases this with rfl | rfl | rfl | rfl | rfl | rfl | rfl | rfl <;> decide
theorem grav {x y L : Int} (hx : 0 ≤ x) (hxL : x ≤ L) (hy : 0 ≤ y) (hyL : y ≤ L) (hL : 1 ≤ L) : 0 ≤ x * y / L ∧ x * y / L ≤ x ∧ x * y / L ≤ y ∧ x + y - x * y / L ≤ L := by
 have hxy : 0 ≤ x * y := Int.mul_nonneg hx hy
 have h1 : x * y ≤ x * L := Int.mul_le_mul_of_nonneg_left hyL hx
 have h2 : x * y ≤ L * y := Int.mul_le_mul_of_nonneg_right hxL hy
 have h3 : 0 ≤ (L - x) * (L - y) := Int.mul_nonneg (by lia) (by lia)
 refine ⟨Int.ediv_nonneg hxy (by lia), ?_, ?_, ?_⟩
 · exact Int.ediv_le_of_le_mul (by lia) h1
 · exact Int.ediv_le_of_le_mul (by lia) (by rw [Int.mul_comm y L]; exact h2)
 · have : x + y - L ≤ x * y / L := by
     refine Int.le_ediv_of_mul_le (by lia) ?_
     have e : (L - x) * (L - y) = L * L - L * y - (x * L - x * y) := by rw [Int.sub_mul, Int.mul_sub, Int.mul_sub]
     have e2 : (x + y - L) * L = x * L + y * L - L * L := by rw [Int.sub_mul, Int.add_mul]
     rw [e2, Int.mul_comm y L]
     lia
   lia
noncomputable def sd (v b l : Int) : Int := if v < 0 then -((-v * b).fdiv l) else (v * b).fdiv l
theorem score_ok {o b L : Int} (h1 : -L ≤ o) (h2 : o ≤ L) (h3 : -L ≤ b) (h4 : b ≤ L) (hL : 1 ≤ L) : -L ≤ o + b - sd o b.natAbs L ∧ o + b - sd o b.natAbs L ≤ L := by
 unfold sd
 split
 · have g := grav (x := -o) (y := b.natAbs) (L := L) (by lia) (by lia) (by lia) (by lia) hL
   rw [fdiv_pos _ _ (Int.mul_nonneg (by lia) (by lia)) (by lia)]
   lia
 · have g := grav (x := o) (y := b.natAbs) (L := L) (by lia) (by lia) (by lia) (by lia) hL
   rw [fdiv_pos _ _ (Int.mul_nonneg (by lia) (by lia)) (by lia)]
   lia
theorem prod_small {x y L : Int} (hx : -L ≤ x) (hxL : x ≤ L) (hy : 0 ≤ y) (hyL : y ≤ L) (hL : L ≤ 90) (hL1 : 1 ≤ L) : -8100 ≤ x * y ∧ x * y ≤ 8100 := by
 have h1 : x * y ≤ 90 * y := Int.mul_le_mul_of_nonneg_right (by lia) hy
 have h2 : -90 * y ≤ x * y := Int.mul_le_mul_of_nonneg_right (by lia) hy
 lia
structure KOk (e : EA) (v : Sv) : Prop where
 f : e.hasK = true → v.fst.length = e.kplies.toNat
 s : e.hasK = true → v.snd.length = e.kplies.toNat
 h : e.hasK = true → ScOk e.lim v.scs
section
variable {W : Wld} {r : Nat} {σ : AH} {Q : V → AH → Prop} {e : EA} {w : Wd} {v : Sv} {q : List Nat} {pl : Nat}
theorem St.setFirst (S : St σ e v) (B : Base σ e w) (hK : e.hasK = true) {l : List Int} : St (σ.set e.first (.list (l.map .int))) e { v with fst := l } :=
 S.upd B (k := .first) (by simp [EA.mu, hK]) rfl fun k' hk => by cases k' <;> first | rfl | exact absurd rfl hk
theorem St.setSecond (S : St σ e v) (B : Base σ e w) (hK : e.hasK = true) {l : List Int} : St (σ.set e.second (.list (l.map .int))) e { v with snd := l } :=
 S.upd B (k := .second) (by simp [EA.mu, hK]) rfl fun k' hk => by cases k' <;> first | rfl | exact absurd rfl hk
theorem St.setScores (S : St σ e v) (B : Base σ e w) (hK : e.hasK = true) {l : List (Int × Int)} : St (σ.set e.scores (.idict (l.map fun x => (x.1, V.int x.2)))) e { v with scs := l } :=
 S.upd B (k := .scores) (by simp [EA.mu, hK]) rfl fun k' hk => by cases k' <;> first | rfl | exact absurd rfl hk
theorem ints_get {l : List Int} {i : Nat} (h : i < l.length) : (l.map V.int)[i]? = some (.int l[i]) := by rw [List.getElem?_map, List.getElem?_eq_getElem h]; rfl
theorem len_ints {l : List Int} : (l.map V.int).length = l.length := by simp
theorem x_kclear (H : IsK W) (hr : 1 ≤ r) (C : e.Cf) (B : Base σ e w) (S : St σ e v) (hK : e.hasK = true) (O : KOk e v) {ply : Int} (hp : 0 ≤ ply)
   (h : ∀ σ' f s, Base σ' e w → St σ' e { v with fst := f, snd := s } → Keep e.D σ σ' → KOk e { v with fst := f, snd := s } → Q .none σ') : CallSat W r (.me "Killers" "clear") [.ref e.kil, .int ply] σ Q := by
 have hF := S.first hK
 obtain ⟨b1, b2⟩ := B.kil hK
 have f1 := O.f hK
 have s1 := O.s hK
 have c2 := C.k2
 refine call_up hr fun r hr => call_def (fb_Killers_clear H) rfl ?_
 unfold b_Killers_clear
 exists fk_plies b1.1 b2.1, fk_first b1.1 b2.1, fk_second b1.1 b2.1, os (b1.1), os (b2.1), kilF
 refine ⟨fun c => ?_, fun _ => h σ v.fst v.snd B S .refl O⟩
 rw [a_setSub hF]
 have K1 : Keep e.D σ (σ.set e.first (.list ((v.fst.map V.int).set ply.toNat (.int 0)))) := .set (D_first hK)
 have e1 : (v.fst.map V.int).set ply.toNat (.int 0) = (v.fst.set ply.toNat 0).map V.int := by rw [List.map_set]
 rw [e1] at K1 ⊢
 have B' := B.keep K1
 have S' := S.setFirst B hK (l := v.fst.set ply.toNat 0)
 obtain ⟨b1', b2'⟩ := B'.kil hK
 have hS := S'.second hK
 refine ⟨by lia, by rw [len_ints]; lia, by rw [len_ints]; unfold sizeOk; lia, ?_⟩
 exists fk_plies b1'.1 b2'.1, fk_first b1'.1 b2'.1, fk_second b1'.1 b2'.1, os (b1'.1), os (b2'.1), kilF, a_setSub hS
 have K2 : Keep e.D (σ.set e.first (.list ((v.fst.set ply.toNat 0).map V.int))) ((σ.set e.first (.list ((v.fst.set ply.toNat 0).map V.int))).set e.second (.list ((v.snd.map V.int).set ply.toNat (.int 0)))) := .set (D_second hK)
 have e2 : (v.snd.map V.int).set ply.toNat (.int 0) = (v.snd.set ply.toNat 0).map V.int := by rw [List.map_set]
 rw [e2] at K2 ⊢
 have S2 := S'.setSecond B' hK (l := v.snd.set ply.toNat 0)
 refine ⟨by lia, by rw [len_ints]; lia, by rw [len_ints]; unfold sizeOk; lia, ?_⟩
 exact h _ _ _ (B'.keep K2) S2 (K1.trans K2) ⟨fun _ => by simp [f1], fun _ => by simp [s1], O.h⟩
theorem x_kadd (H : IsK W) (hr : 1 ≤ r) (C : e.Cf) (B : Base σ e w) (S : St σ e v) (hK : e.hasK = true) (O : KOk e v) {ply mv : Int} (hp : 0 ≤ ply)
   (h : ∀ σ' f s, Base σ' e w → St σ' e { v with fst := f, snd := s } → Keep e.D σ σ' → KOk e { v with fst := f, snd := s } → Q .none σ') : CallSat W r (.me "Killers" "add") [.ref e.kil, .int ply, .int mv] σ Q := by
 have hF := S.first hK
 have hS := S.second hK
 obtain ⟨b1, b2⟩ := B.kil hK
 have f1 := O.f hK
 have s1 := O.s hK
 have c2 := C.k2
 refine call_up hr fun r hr => call_def (fb_Killers_add H) rfl ?_
 unfold b_Killers_add
 exists fk_plies b1.1 b2.1, fk_first b1.1 b2.1, fk_second b1.1 b2.1, os (b1.1), os (b2.1), kilF
 refine ⟨fun c => ?_, fun _ => h σ v.fst v.snd B S .refl O⟩
 have hi : ply.toNat < v.fst.length := by lia
 have rd := fun {σ Q} (hF : σ e.first = some (.list (v.fst.map V.int))) => r_sub (σ := σ) (Q := Q) hF (show 0 ≤ ply by lia) (ints_get hi) (by rw [len_ints]; lia)
 rw [rd hF]
 exists true_and
 refine ⟨fun _ => ?_, fun _ => h σ v.fst v.snd B S .refl O⟩
 exists fk_plies b1.1 b2.1, fk_first b1.1 b2.1, fk_second b1.1 b2.1, os (b1.1), os (b2.1), kilF, rd hF, a_setSub hS
 have K1 : Keep e.D σ (σ.set e.second (.list ((v.snd.map V.int).set ply.toNat (.int v.fst[ply.toNat])))) := .set (D_second hK)
 have e1 : (v.snd.map V.int).set ply.toNat (.int v.fst[ply.toNat]) = (v.snd.set ply.toNat v.fst[ply.toNat]).map V.int := by rw [List.map_set]
 rw [e1] at K1 ⊢
 have B' := B.keep K1
 have S' := S.setSecond B hK (l := v.snd.set ply.toNat v.fst[ply.toNat])
 obtain ⟨b1', b2'⟩ := B'.kil hK
 have hF' := S'.first hK
 refine ⟨by lia, by rw [len_ints]; lia, by rw [len_ints]; unfold sizeOk; lia, ?_⟩
 exists fk_plies b1'.1 b2'.1, fk_first b1'.1 b2'.1, fk_second b1'.1 b2'.1, os (b1'.1), os (b2'.1), kilF, a_setSub hF'
 refine ⟨by lia, by rw [len_ints]; lia, by rw [len_ints]; unfold sizeOk; lia, ?_⟩
 have e2 : (v.fst.map V.int).set ply.toNat (.int mv) = (v.fst.set ply.toNat mv).map V.int := by rw [List.map_set]
 rw [e2]
 have S2 := S'.setFirst B' hK (l := v.fst.set ply.toNat mv)
 have K2 : Keep e.D (σ.set e.second (.list ((v.snd.set ply.toNat v.fst[ply.toNat]).map V.int))) ((σ.set e.second (.list ((v.snd.set ply.toNat v.fst[ply.toNat]).map V.int))).set e.first (.list ((v.fst.set ply.toNat mv).map V.int))) := .set (D_first hK)
 exact h _ _ _ (B'.keep K2) S2 (K1.trans K2) ⟨fun _ => by simp [f1], fun _ => by simp [s1], O.h⟩
theorem x_kpair (H : IsK W) (hr : 1 ≤ r) (C : e.Cf) (B : Base σ e w) (S : St σ e v) (hK : e.hasK = true) (O : KOk e v) {ply : Int} (hp : 0 ≤ ply)
   (h : ∀ a b, Q (.tup [.int a, .int b]) σ) : CallSat W r (.me "Killers" "pair") [.ref e.kil, .int ply] σ Q := by
 have hF := S.first hK
 have hS := S.second hK
 obtain ⟨b1, b2⟩ := B.kil hK
 have f1 := O.f hK
 have s1 := O.s hK
 have c2 := C.k2
 refine call_up hr fun r hr => call_def (fb_Killers_pair H) rfl ?_
 unfold b_Killers_pair
 exists fk_plies b1.1 b2.1, fk_first b1.1 b2.1, fk_second b1.1 b2.1, os (b1.1), os (b2.1), kilF
 refine ⟨fun c => ?_, fun _ => ⟨by unfold sizeOk; lia, h _ _⟩⟩
 have hi : ply.toNat < v.fst.length := by lia
 have hi' : ply.toNat < v.snd.length := by lia
 rw [r_sub hF (show 0 ≤ ply by lia) (ints_get hi) (by rw [len_ints]; lia)]
 exists fk_plies b1.1 b2.1, fk_first b1.1 b2.1, fk_second b1.1 b2.1, os (b1.1), os (b2.1), kilF
 rw [r_sub hS (show 0 ≤ ply by lia) (ints_get hi') (by rw [len_ints]; lia)]
 exists true_and
 exact ⟨by unfold sizeOk; lia, h _ _⟩
theorem x_hget (H : IsK W) (hr : 1 ≤ r) (C : e.Cf) (B : Base σ e w) (S : St σ e v) (hK : e.hasK = true) {side mv : Int} (h1 : 0 ≤ side) (h2 : side ≤ 1)
   (h : ∀ i, Q (.int i) σ) : CallSat W r (.me "History" "get") [.ref e.his, .int side, .int mv] σ Q := by
 have hS := S.scores hK
 obtain ⟨b1, b2⟩ := B.his hK
 refine call_up hr fun r hr => call_def (fb_History_get H) rfl ?_
 unfold b_History_get
 exists fh_limit b1.1 b2.1, fh_scores b1.1 b2.1, os (b1.1), os (b2.1), hisF, a_idict hS, m_get hS, getI_map
 refine ⟨smallOf (by lia) (by lia), smallOf (by lia) (by lia), ?_⟩
 cases gs v.scs (side * 65536 + mv) <;> exact h _
theorem x_hbonus (H : IsK W) (hr : 1 ≤ r) (C : e.Cf) (B : Base σ e w) (hK : e.hasK = true) {d : Int} (h1 : 0 ≤ d) (h2 : d ≤ 100)
   (h : ∀ i, Q (.int i) σ) : CallSat W r (.me "History" "bonus") [.ref e.his, .int d] σ Q := by
 obtain ⟨b1, b2⟩ := B.his hK
 refine call_up hr fun r hr => call_def (fb_History_bonus H) rfl ?_
 unfold b_History_bonus
 exists fh_limit b1.1 b2.1, fh_scores b1.1 b2.1, os (b1.1), os (b2.1), hisF
 exact ⟨smallOf (by lia) (by lia), smallOf (by lia) (by lia), smallOf (by lia) (by lia), smallOf (by lia) (by lia), smallOf (by lia) (by lia), smallOf (by lia) (by lia), h _⟩
theorem x_hupdate (H : IsK W) (hr : 2 ≤ r) (C : e.Cf) (B : Base σ e w) (S : St σ e v) (hK : e.hasK = true) (O : KOk e v) {side mv b : Int} (h1 : 0 ≤ side) (h2 : side ≤ 1) (h3 : 0 ≤ mv) (h4 : mv ≤ 7)
   (h : ∀ σ' s, Base σ' e w → St σ' e { v with scs := s } → Keep e.D σ σ' → KOk e { v with scs := s } → Q .none σ') : CallSat W r (.me "History" "update") [.ref e.his, .int side, .int mv, .int b] σ Q := by
 have hS := S.scores hK
 obtain ⟨b1, b2⟩ := B.his hK
 have so := O.h hK
 have hl := so.few
 have l1 := C.l1
 have l2 := C.l2
 refine call_up hr fun r hr => call_def (fb_History_update H) rfl ?_
 unfold b_History_update
 exists fh_limit b1.1 b2.1, fh_scores b1.1 b2.1, os (b1.1), os (b2.1), hisF, a_idict hS, m_get hS, getI_map
 refine ⟨smallOf (by lia) (by lia), smallOf (by lia) (by lia), ?_⟩
 have key : ∃ o, (Option.map V.int (gs v.scs (side * 65536 + mv))).getD (V.int 0) = .int o ∧ -e.lim ≤ o ∧ o ≤ e.lim := by
   cases hg : gs v.scs (side * 65536 + mv) with
   | none => exact ⟨0, rfl, by lia, by lia⟩
   | some o =>
     obtain ⟨j, hj⟩ := gs_mem hg
     exact ⟨o, rfl, (so.1 _ hj).1, (so.1 _ hj).2.1⟩
 revert key; refine xE1 fun o => aE3 fun eo o1 o2 => ?_
 rw [eo]
 exists fh_limit b1.1 b2.1, fh_scores b1.1 b2.1, os (b1.1), os (b2.1), hisF
 have bb : -e.lim ≤ max (-e.lim) (min e.lim b) ∧ max (-e.lim) (min e.lim b) ≤ e.lim := by lia
 have ps := prod_small (x := o) (y := ((max (-e.lim) (min e.lim b)).natAbs : Int)) o1 o2 (by lia) (by lia) l2 l1
 have fin := score_ok o1 o2 bb.1 bb.2 l1
 generalize max (-e.lim) (min e.lim b) = b' at *
 refine k_scale_down H hr (smallOf (by lia) (by lia)) (smallOf (by lia) (by lia)) (smallOf (by lia) (by lia)) (smallOf (by lia) (by lia)) (by lia) ?_
 have fin' : -e.lim ≤ o + b' - (if o < 0 then -((-o * (b'.natAbs : Int)).fdiv e.lim) else (o * (b'.natAbs : Int)).fdiv e.lim) ∧ o + b' - (if o < 0 then -((-o * (b'.natAbs : Int)).fdiv e.lim) else (o * (b'.natAbs : Int)).fdiv e.lim) ≤ e.lim := fin
 generalize (if o < 0 then -((-o * (b'.natAbs : Int)).fdiv e.lim) else (o * (b'.natAbs : Int)).fdiv e.lim) = z at *
 exists fh_limit b1.1 b2.1, fh_scores b1.1 b2.1, os (b1.1), os (b2.1), hisF, a_setSubI hS, setI_map
 have K1 : Keep e.D σ (σ.set e.scores (.idict ((ss v.scs (side * 65536 + mv) (o + b' - z)).map fun x => (x.1, V.int x.2)))) := .set (D_scores hK)
 refine ⟨by simp; lia, h _ _ (B.keep K1) (S.setScores B hK) K1 ⟨O.f, O.s, fun _ => ?_⟩⟩
 exact so.set fin' (hkey_mem h1 h2 h3 h4)
end
section
variable {W : Wld} {r : Nat} {σ : AH} {Q : V → AH → Prop} {e : EA} {w : Wd} {v : Sv} {q : List Nat} {pl : Nat}
theorem x_reward (H : IsK W) (hr : 3 ≤ r) (C : e.Cf) (B : Base σ e w) (S : St σ e v) (hK : e.hasK = true) (O : KOk e v) {side ply depth best : Int} {tq : Addr} {ql : List Int} (h1 : 0 ≤ side) (h2 : side ≤ 1) (hp : 0 ≤ ply) (d1 : 0 ≤ depth) (d2 : depth ≤ 100)
   (m1 : 0 ≤ best) (m2 : best ≤ 7) (hq : At e.D σ tq (.list (ql.map .int))) (hql : ∀ m ∈ ql, 0 ≤ m ∧ m ≤ 7) (hqz : ql.length ≤ 1000)
   (h : ∀ σ' f s sc, Base σ' e w → St σ' e { v with fst := f, snd := s, scs := sc } → Keep e.D σ σ' → KOk e { v with fst := f, snd := s, scs := sc } → Q .none σ') :
   CallSat W r (.fn "reward") [.ref e.his, .ref e.kil, .int side, .int ply, .int depth, .int best, .ref tq] σ Q := by
 have hF := S.first hK
 have hS := S.second hK
 obtain ⟨b1, b2⟩ := B.kil hK
 refine call_up hr fun r hr => call_def (fb_reward H) rfl ?_
 unfold b_reward
 exists os (a_inst b1.1 b2.1 mo_Killers_add (gi_kadd e))
 refine x_kadd H (by first | exact rk hr rfl | lia) C B S hK O hp fun σ' f s B' S' K' O' => ?_
 obtain ⟨c1, c2⟩ := B'.his hK
 exists os (a_inst c1.1 c2.1 mo_History_bonus (gi_hbo e))
 refine x_hbonus H (by first | exact rk hr rfl | lia) C B' hK d1 d2 fun bo => ?_
 exists os (a_inst c1.1 c2.1 mo_History_update (gi_hup e))
 refine x_hupdate H (by first | exact rk hr rfl | lia) C B' S' hK O' h1 h2 m1 m2 fun σ2 sc B2 S2 K2 O2 => ?_
 have hq2 := (hq.keep K').keep K2
 exists os (a_iter hq2.1)
 refine iter_inv (fun rest m' σ' => m' "history" = some (.ref e.his) ∧ m' "side" = some (.int side) ∧ m' "best" = some (.int best) ∧ m' "bonus" = some (.int bo) ∧ (∃ sc, Base σ' e w ∧ St σ' e { v with fst := f, snd := s, scs := sc } ∧ Keep e.D σ σ' ∧ KOk e { v with fst := f, snd := s, scs := sc }) ∧ ∃ ms : List Int, rest = ms.map .int ∧ ∀ m ∈ ms, 0 ≤ m ∧ m ≤ 7) ?_ ?_ ?_ ?_
 · rintro rest m' σ' oy0; revert oy0; refine aE6 fun _ _ _ _ oy1 oy2 => ?_; revert oy1; refine xE1 fun sc => aE4 fun _ _ K _ => ?_
   exact ⟨(hq.keep K).1, by simp; unfold sizeOk; lia⟩
 · rintro m' σ' oy3; revert oy3; refine aE6 fun _ _ _ _ oy4 oy5 => ?_; revert oy4; refine xE1 fun sc => aE4 fun B3 S3 K3 O3 => ?_
   exists true_and
   exact h _ _ _ _ B3 S3 K3 O3
 · rintro v' rest m' σ' oy6; revert oy6; refine aE6 fun g1 g2 g3 g4 oy7 oy8 => ?_; revert oy7; refine xE1 fun sc => aE4 fun B3 S3 K3 O3 => ?_; revert oy8; refine xE1 fun ms => aE2 fun em hm => ?_; rintro K k1 k2 k3 k4
   cases ms with
   | nil => cases em
   | cons mv ms =>
     cases em
     obtain ⟨n1, n2⟩ := hm mv (.head _)
     obtain ⟨c1, c2⟩ := B3.his hK
     exists os (g1), os (g2), os (g3), os (g4), os (a_inst c1.1 c2.1 mo_History_update (gi_hup e))
     refine ⟨fun _ => ?_, fun _ => k1 _ _ ⟨?_, ?_, ?_, ?_, ⟨sc, B3, S3, K3, O3⟩, ms, rfl, fun m hm' => hm m (.tail _ hm')⟩⟩
     · refine x_hupdate H (by first | exact rk hr rfl | lia) C B3 S3 hK O3 h1 h2 n1 n2 fun σ4 sc4 B4 S4 K4 O4 => ?_
       refine k1 _ _ ⟨?_, ?_, ?_, ?_, ⟨sc4, B4, S4, K3.trans K4, O4⟩, ms, rfl, fun m hm' => hm m (.tail _ hm')⟩ <;> exists g1, g2, g3, g4
     all_goals exists g1, g2, g3, g4
 · refine ⟨?_, ?_, ?_, ?_, ⟨sc, B2, S2, K'.trans K2, O2⟩, ql, rfl, hql⟩ <;> exists true_and
theorem x_past_score (H : IsK W) (hr : 2 ≤ r) (C : e.Cf) (B : Base σ e w) (S : St σ e v) {side mv : Int} (h1 : 0 ≤ side) (h2 : side ≤ 1)
   (h : ∀ i, Q (.int i) σ) : CallSat W r (.fn "past_score") [if e.hasK then .ref e.his else .none, .int side, .int mv] σ Q := by
 refine call_up hr fun r hr => call_def (fb_past_score H) rfl ?_
 unfold b_past_score
 cases hK : e.hasK with
 | false =>
   exists true_and
   exact h _
 | true =>
   obtain ⟨c1, c2⟩ := B.his hK
   exists os (a_inst c1.1 c2.1 mo_History_get (gi_hget e))
   exact x_hget H (by first | exact rk hr rfl | lia) C B S hK h1 h2 h
theorem x_killer_pair (H : IsK W) (hr : 2 ≤ r) (C : e.Cf) (B : Base σ e w) (S : St σ e v) (O : KOk e v) {ply : Int} (hp : 0 ≤ ply)
   (h : ∀ a b, Q (.tup [.int a, .int b]) σ) : CallSat W r (.fn "killer_pair") [if e.hasK then .ref e.kil else .none, .int ply] σ Q := by
 refine call_up hr fun r hr => call_def (fb_killer_pair H) rfl ?_
 unfold b_killer_pair
 cases hK : e.hasK with
 | false =>
   exists true_and
   exact ⟨by unfold sizeOk; lia, h _ _⟩
 | true =>
   obtain ⟨c1, c2⟩ := B.kil hK
   exists os (a_inst c1.1 c2.1 mo_Killers_pair (gi_kpair e))
   exact x_kpair H (by first | exact rk hr rfl | lia) C B S hK O hp h
theorem St.setSlots (S : St σ e v) (B : Base σ e w) (hT : e.hasT = true) {l : List Int} : St (σ.set e.slots (.list (l.map .int))) e { v with slots := l } :=
 S.upd B (k := .slots) (by simp [EA.mu, hT]) rfl fun k' hk => by cases k' <;> first | rfl | exact absurd rfl hk
theorem start_ok (C : e.Cf) {key : Int} : 0 ≤ key.fmod e.clus * e.wys ∧ key.fmod e.clus * e.wys + e.wys ≤ e.clus * e.wys ∧ key.fmod e.clus * e.wys ≤ 100 ∧ 0 ≤ key.fmod e.clus ∧ key.fmod e.clus ≤ 4 := by
 obtain ⟨c1, c2, w1, w2, _⟩ := C
 have h1 : key.fmod e.clus = key % e.clus := fmod_pos _ _ (by lia)
 have h2 := Int.emod_nonneg key (show e.clus ≠ 0 by lia)
 have h3 := Int.emod_lt_of_pos key (show 0 < e.clus by lia)
 rw [h1]
 have : e.wys = 1 ∨ e.wys = 2 := by lia
 rcases this with z | z <;> rw [z] <;> lia
theorem wsize (C : e.Cf) : e.clus * e.wys ≤ 8 := by
 obtain ⟨c1, c2, w1, w2, _⟩ := C
 have : e.wys = 1 ∨ e.wys = 2 := by lia
 rcases this with z | z <;> rw [z] <;> lia
theorem x_probe (H : IsK W) (hr : 2 ≤ r) (C : e.Cf) (B : Base σ e w) (S : St σ e v) (hT : e.hasT = true) (hn : (v.slots.length : Int) = e.clus * e.wys) (hpos : ∀ s ∈ v.slots, 0 ≤ s) {key : Int}
   (h0 : Q .none σ) (h1 : ∀ s ∈ v.slots, s ≠ 0 → eKey s = key → Q (.tup [.int (eMove s), .int (eVal s), .int (eDep s), .int (eBnd s)]) σ) : CallSat W r (.me "TransTable" "probe") [.ref e.tab, .int key] σ Q := by
 have hS := S.slots hT
 obtain ⟨b1, b2⟩ := B.tab hT
 have st := start_ok C (key := key)
 have c1 := C.c1
 have w1 := C.w1
 have w2 := C.w2
 have wz := wsize C
 refine call_up hr fun r hr => call_def (fb_TransTable_probe H) rfl ?_
 unfold b_TransTable_probe
 exists ft_clusters b1.1 b2.1, ft_ways b1.1 b2.1, ft_age b1.1 b2.1, ft_slots b1.1 b2.1, rsa b1.1 b2.1 ao_TransTable_age, os (b1.1), os (b2.1), tabF
 refine ⟨by lia, smallOf (by lia) (by lia), smallOf (by lia) (by lia), ?_⟩
 refine k_find_slot H (by first | exact rk hr rfl | lia) hS (by lia) st.1 (by lia) (by lia) hpos ?_ fun n s hs hne hk => ?_
 · exists true_and
   exact ⟨fun _ => h0, fun c => absurd (show (-1 : Int) < 0 by decide) c⟩
 · exists ft_clusters b1.1 b2.1, ft_ways b1.1 b2.1, ft_age b1.1 b2.1, ft_slots b1.1 b2.1, rsa b1.1 b2.1 ao_TransTable_age, os (b1.1), os (b2.1), tabF
   refine ⟨fun c => by lia, fun _ => ?_⟩
   have hg : (v.slots.map V.int)[((n : Int)).toNat]? = some (.int s) := by rw [List.getElem?_map]; simp [hs]
   rw [r_sub hS (by lia) hg (by rw [len_ints]; lia)]
   have hm : s ∈ v.slots := List.mem_of_getElem? hs
   refine k_unpack H (by first | exact rk hr rfl | lia) (hpos s hm) ?_
   exists true_and
   refine ⟨by unfold sizeOk; decide, h1 s hm hne hk⟩
theorem pk_move {key move value depth bound age : Int} (h2 : 0 ≤ move) (h2' : move < 65536) : eMove (pk key move value depth bound age) = move := by unfold eMove pk; lia
theorem pk_nn {key move value depth bound age : Int} (h1 : 0 ≤ key) (h2 : 0 ≤ move) (h3 : -32767 ≤ value) (h4 : -8 ≤ depth) (h5 : 0 ≤ bound) (h6 : 0 ≤ age) : 0 ≤ pk key move value depth bound age := by unfold pk; lia
theorem pk_set {key move value depth bound age m : Int} : pk key move value depth bound age - move + m = pk key m value depth bound age := by unfold pk; lia
theorem mem_set {α : Type} {l : List α} {n : Nat} {x y : α} (h : y ∈ l.set n x) : y = x ∨ y ∈ l := by
 rcases List.mem_or_eq_of_mem_set h with h | h
 · exact .inr h
 · exact .inl h
theorem x_save (H : IsK W) (hr : 4 ≤ r) (C : e.Cf) (B : Base σ e w) (S : St σ e v) (hT : e.hasT = true) (hn : (v.slots.length : Int) = e.clus * e.wys) (hpos : ∀ s ∈ v.slots, 0 ≤ s) {P : Int → Prop} (hP : ∀ s ∈ v.slots, P s)
   {key move value depth bound : Int} (h1 : 0 ≤ key) (h1' : key < 1000) (h2 : 0 ≤ move) (h2' : move < 65536) (h3 : -32767 ≤ value) (h3' : value ≤ 32767) (h4 : -8 ≤ depth) (h4' : depth ≤ 247) (h5 : 0 ≤ bound) (h5' : bound ≤ 3)
   (pA : P (pk key move value depth bound e.age)) (pB : ∀ s ∈ v.slots, s ≠ 0 → eKey s = key → P (pk key (eMove s) value depth bound e.age) ∧ P (s - eMove s + move) ∧ P s)
   (h : ∀ σ' l, Base σ' e w → St σ' e { v with slots := l } → Keep e.D σ σ' → l.length = v.slots.length → (∀ s ∈ l, P s) → Q .none σ') : CallSat W r (.me "TransTable" "save") [.ref e.tab, .int key, .int move, .int value, .int depth, .int bound] σ Q := by
 have hS := S.slots hT
 obtain ⟨b1, b2⟩ := B.tab hT
 have st := start_ok C (key := key)
 have c1 := C.c1
 have w1 := C.w1
 have w2 := C.w2
 have wz := wsize C
 have put : ∀ {n : Nat} {x : Int}, n < v.slots.length → P x → Q .none (σ.set e.slots (.list ((v.slots.map V.int).set n (.int x)))) := fun {n x} hn' hx => by
   have e1 : (v.slots.map V.int).set n (.int x) = (v.slots.set n x).map V.int := by rw [List.map_set]
   rw [e1]
   have K1 : Keep e.D σ (σ.set e.slots (.list ((v.slots.set n x).map V.int))) := .set (D_slots hT)
   refine h _ _ (B.keep K1) (S.setSlots B hT) K1 (by simp) fun s hs => ?_
   rcases mem_set hs with rfl | hs
   · exact hx
   · exact hP s hs
 refine call_up hr fun r hr => call_def (fb_TransTable_save H) rfl ?_
 unfold b_TransTable_save
 exists ft_clusters b1.1 b2.1, ft_ways b1.1 b2.1, ft_age b1.1 b2.1, ft_slots b1.1 b2.1, rsa b1.1 b2.1 ao_TransTable_age, os (b1.1), os (b2.1), tabF
 refine k_pack H (by first | exact rk hr rfl | lia) h1 h1' h2 h2' h3 h3' h4 h4' h5 h5' C.a1 C.a2 ?_
 exists ft_clusters b1.1 b2.1, ft_ways b1.1 b2.1, ft_age b1.1 b2.1, ft_slots b1.1 b2.1, rsa b1.1 b2.1 ao_TransTable_age, os (b1.1), os (b2.1), tabF
 refine ⟨by lia, smallOf (by lia) (by lia), smallOf (by lia) (by lia), ?_⟩
 refine k_find_slot H (by first | exact rk hr rfl | lia) hS (by lia) st.1 (by lia) (by lia) hpos ?_ fun n s hs hne hk => ?_
 · exists ft_clusters b1.1 b2.1, ft_ways b1.1 b2.1, ft_age b1.1 b2.1, ft_slots b1.1 b2.1, rsa b1.1 b2.1 ao_TransTable_age, os (b1.1), os (b2.1), tabF
   refine ⟨fun _ => ?_, fun c => absurd (show (-1 : Int) < 0 by decide) c⟩
   refine k_victim_slot H (by first | exact rk hr rfl | lia) hS (by lia) st.1 (by lia) (by lia) hpos fun n n1 n2 => ?_
   exists ft_clusters b1.1 b2.1, ft_ways b1.1 b2.1, ft_age b1.1 b2.1, ft_slots b1.1 b2.1, rsa b1.1 b2.1 ao_TransTable_age, os (b1.1), os (b2.1), tabF, a_setSub hS, len_ints
   have : ((n : Int)).toNat = n := by lia
   rw [this]
   exact ⟨by lia, by lia, by unfold sizeOk; lia, put (by lia) pA⟩
 · exists ft_clusters b1.1 b2.1, ft_ways b1.1 b2.1, ft_age b1.1 b2.1, ft_slots b1.1 b2.1, rsa b1.1 b2.1 ao_TransTable_age, os (b1.1), os (b2.1), tabF
   refine ⟨fun c => by lia, fun _ => ?_⟩
   have hm : s ∈ v.slots := List.mem_of_getElem? hs
   have hg : (v.slots.map V.int)[((n : Int)).toNat]? = some (.int s) := by rw [List.getElem?_map]; simp [hs]
   have hnl : n < v.slots.length := by
     rcases Nat.lt_or_ge n v.slots.length with z | z
     · exact z
     · rw [List.getElem?_eq_none z] at hs; cases hs
   have em : 0 ≤ eMove s ∧ eMove s < 65536 := by unfold eMove; lia
   refine (aE3 fun p1 p2 p3 => ?_) (pB s hm hne hk)
   have tn : ((n : Int)).toNat = n := by lia
   rw [r_sub hS (by lia) hg (by rw [len_ints]; lia)]
   exists f_move (hpos s hm)
   refine ⟨fun c => ?_, fun c => ?_⟩
   · subst c
     refine k_with_move H (by first | exact rk hr rfl | lia) (pk_nn h1 h2 h3 h4 h5 C.a1) ?_
     rw [pk_move (by lia) (by lia), pk_set]
     exists ft_clusters b1.1 b2.1, ft_ways b1.1 b2.1, ft_age b1.1 b2.1, ft_slots b1.1 b2.1, rsa b1.1 b2.1 ao_TransTable_age, os (b1.1), os (b2.1), tabF
     refine k_pushes_out H (by first | exact rk hr rfl | lia) (hpos s hm) fun b => ?_
     exists f_move (pk_nn (move := eMove s) h1 em.1 h3 h4 h5 C.a1), pk_move em.1 em.2
     refine ⟨fun _ => ?_, fun _ => ?_⟩
     · exists ft_clusters b1.1 b2.1, ft_ways b1.1 b2.1, ft_age b1.1 b2.1, ft_slots b1.1 b2.1, rsa b1.1 b2.1 ao_TransTable_age, os (b1.1), os (b2.1), tabF, a_setSub hS, len_ints, tn
       exact ⟨by lia, by lia, by unfold sizeOk; lia, put hnl p1⟩
     · refine k_with_move H (by first | exact rk hr rfl | lia) (hpos s hm) ?_
       exists ft_clusters b1.1 b2.1, ft_ways b1.1 b2.1, ft_age b1.1 b2.1, ft_slots b1.1 b2.1, rsa b1.1 b2.1 ao_TransTable_age, os (b1.1), os (b2.1), tabF, a_setSub hS, len_ints, tn
       have : s - eMove s + eMove s = s := by lia
       rw [this]
       exact ⟨by lia, by lia, by unfold sizeOk; lia, put hnl p3⟩
   · exists ft_clusters b1.1 b2.1, ft_ways b1.1 b2.1, ft_age b1.1 b2.1, ft_slots b1.1 b2.1, rsa b1.1 b2.1 ao_TransTable_age, os (b1.1), os (b2.1), tabF
     refine k_pushes_out H (by first | exact rk hr rfl | lia) (hpos s hm) fun b => ?_
     exists f_move (pk_nn (move := move) h1 h2 h3 h4 h5 C.a1), pk_move h2 h2'
     refine ⟨fun _ => ?_, fun _ => ?_⟩
     · exists ft_clusters b1.1 b2.1, ft_ways b1.1 b2.1, ft_age b1.1 b2.1, ft_slots b1.1 b2.1, rsa b1.1 b2.1 ao_TransTable_age, os (b1.1), os (b2.1), tabF, a_setSub hS, len_ints, tn
       exact ⟨by lia, by lia, by unfold sizeOk; lia, put hnl pA⟩
     · refine k_with_move H (by first | exact rk hr rfl | lia) (hpos s hm) ?_
       exists ft_clusters b1.1 b2.1, ft_ways b1.1 b2.1, ft_age b1.1 b2.1, ft_slots b1.1 b2.1, rsa b1.1 b2.1 ao_TransTable_age, os (b1.1), os (b2.1), tabF, a_setSub hS, len_ints, tn
       exact ⟨by lia, by lia, by unfold sizeOk; lia, put hnl p2⟩
theorem x_set_line (H : IsK W) (hr : 1 ≤ r) (B : Base σ e w) (S : St σ e v) {ply : Nat} {mv : Int} (hl : v.lns.length ≤ 200) {b : Addr} {l : List Int} (hb : v.lns[ply + 1]? = some b) (hbl : LnAt e σ b l) (hll : l.length ≤ 1000)
   (h : ∀ σ' a, Base σ' e w → St σ' e { v with lns := v.lns.set ply a } → Keep e.D σ σ' → LnAt e σ' a (mv :: l) → σ a = Option.none → Q .none σ') :
   CallSat W r (.fn "set_line") [.ref e.ctx, .int ply, .int mv] σ Q := by
 have hC := S.ctxd
 have hL := S.lines
 have hi : ply + 1 < v.lns.length := by
   rcases Nat.lt_or_ge (ply + 1) v.lns.length with z | z
   · exact z
   · rw [List.getElem?_eq_none z] at hb; cases hb
 refine call_up hr fun r hr => call_def (fb_set_line H) rfl ?_
 unfold b_set_line
 exists true_and
 refine ⟨by unfold sizeOk; lia, fun c hc => ?_⟩
 have K1 : Keep e.D σ (σ.set c (.list [.int mv])) := .new hc
 have B1 := B.keep K1
 have S1 := S.new hc (o := .list [.int mv])
 have hC1 := S1.ctxd
 have hL1 := S1.lines
 have hb1 := hbl.keep K1
 have hg : (v.lns.map V.ref)[((ply : Int) + 1).toNat]? = some (.ref b) := by
   have : ((ply : Int) + 1).toNat = ply + 1 := by lia
   rw [this, List.getElem?_map, hb]; rfl
 exists fc_game B1.ctx.1 hC1, fc_table B1.ctx.1 hC1, fc_killers B1.ctx.1 hC1, fc_history B1.ctx.1 hC1, fc_qdepth B1.ctx.1 hC1, fc_is_exact B1.ctx.1 hC1, fc_max_nodes B1.ctx.1 hC1, fc_nodes B1.ctx.1 hC1, fc_made B1.ctx.1 hC1, fc_lines B1.ctx.1 hC1, rsa B1.ctx.1 hC1 ao_SearchContext_nodes, rsa B1.ctx.1 hC1 ao_SearchContext_made, os (B1.ctx.1), os (hC1), ctxF, r_sub hL1 (show 0 ≤ (ply : Int) + 1 by lia) hg (by simp; lia), a_cat set_at hb1.1
 refine ⟨by simp; unfold sizeOk; lia, fun d hd => ?_⟩
 have K2 : Keep e.D (σ.set c (.list [.int mv])) ((σ.set c (.list [.int mv])).set d (.list ([.int mv] ++ l.map .int))) := .new hd
 have B2 := B1.keep K2
 have S2 := S1.new hd (o := .list ([.int mv] ++ l.map .int))
 have hC2 := S2.ctxd
 have hL2 := S2.lines
 exists fc_game B2.ctx.1 hC2, fc_table B2.ctx.1 hC2, fc_killers B2.ctx.1 hC2, fc_history B2.ctx.1 hC2, fc_qdepth B2.ctx.1 hC2, fc_is_exact B2.ctx.1 hC2, fc_max_nodes B2.ctx.1 hC2, fc_nodes B2.ctx.1 hC2, fc_made B2.ctx.1 hC2, fc_lines B2.ctx.1 hC2, rsa B2.ctx.1 hC2 ao_SearchContext_nodes, rsa B2.ctx.1 hC2 ao_SearchContext_made, os (B2.ctx.1), os (hC2), ctxF, a_setSub hL2, List.length_map
 have e1 : (v.lns.map V.ref).set ((ply : Int)).toNat (.ref d) = (v.lns.set ply d).map V.ref := by
   have : ((ply : Int)).toNat = ply := by lia
   rw [this, List.map_set]
 rw [e1]
 have nd : ¬ e.D d := S1.notD hd
 have hd0 : σ d = Option.none := by
   have : d ≠ c := fun z => by rw [z, set_at] at hd; cases hd
   rw [set_ne this] at hd; exact hd
 have K3 : Keep e.D ((σ.set c (.list [.int mv])).set d (.list ([.int mv] ++ l.map .int))) (((σ.set c (.list [.int mv])).set d (.list ([.int mv] ++ l.map .int))).set e.lines (.list ((v.lns.set ply d).map .ref))) := .set D_lines
 exact ⟨by lia, by lia, by unfold sizeOk; lia, h _ d (B2.keep K3) (S2.setLns B2) (K1.trans (K2.trans K3)) (At.keep ⟨set_at, nd⟩ K3) hd0⟩
end
structure Pk where
 (pk pd la ra ga : Addr)
 (tm ply : Int)
 st : Nat
 left : List Int
 ready : List (Int × Int)
 losing : List (Int × Int)
noncomputable def pkF (e : EA) (k : Pk) : List (Str × V) := [("game", .ref e.game), ("left", .ref k.la), ("table_move", .int k.tm), ("killers", if e.hasK then .ref e.kil else .none), ("history", if e.hasK then .ref e.his else .none),
 ("ply", .int k.ply), ("stage", .int k.st), ("ready", .ref k.ra), ("losing", .ref k.ga)]
section
variable {σ : AH} {Q : V → AH → Prop} {e : EA} {k : Pk}
theorem fp_game (h1 : σ k.pk = some (.inst "Picker" k.pd)) (h2 : σ k.pd = some (.dict (pkF e k))) : wpAttr (.ref k.pk) "game" σ Q = Q (.ref e.game) σ := ra h1 h2 (by exists pkF) ao_Picker_game
theorem fp_left (h1 : σ k.pk = some (.inst "Picker" k.pd)) (h2 : σ k.pd = some (.dict (pkF e k))) : wpAttr (.ref k.pk) "left" σ Q = Q (.ref k.la) σ := ra h1 h2 (by exists pkF) ao_Picker_left
theorem fp_table_move (h1 : σ k.pk = some (.inst "Picker" k.pd)) (h2 : σ k.pd = some (.dict (pkF e k))) : wpAttr (.ref k.pk) "table_move" σ Q = Q (.int k.tm) σ := ra h1 h2 (by exists pkF) ao_Picker_table_move
theorem fp_killers (h1 : σ k.pk = some (.inst "Picker" k.pd)) (h2 : σ k.pd = some (.dict (pkF e k))) : wpAttr (.ref k.pk) "killers" σ Q = Q (if e.hasK = true then .ref e.kil else .none) σ := ra h1 h2 (by exists pkF) ao_Picker_killers
theorem fp_history (h1 : σ k.pk = some (.inst "Picker" k.pd)) (h2 : σ k.pd = some (.dict (pkF e k))) : wpAttr (.ref k.pk) "history" σ Q = Q (if e.hasK = true then .ref e.his else .none) σ := ra h1 h2 (by exists pkF) ao_Picker_history
theorem fp_ply (h1 : σ k.pk = some (.inst "Picker" k.pd)) (h2 : σ k.pd = some (.dict (pkF e k))) : wpAttr (.ref k.pk) "ply" σ Q = Q (.int k.ply) σ := ra h1 h2 (by exists pkF) ao_Picker_ply
theorem fp_stage (h1 : σ k.pk = some (.inst "Picker" k.pd)) (h2 : σ k.pd = some (.dict (pkF e k))) : wpAttr (.ref k.pk) "stage" σ Q = Q (.int k.st) σ := ra h1 h2 (by exists pkF) ao_Picker_stage
theorem fp_ready (h1 : σ k.pk = some (.inst "Picker" k.pd)) (h2 : σ k.pd = some (.dict (pkF e k))) : wpAttr (.ref k.pk) "ready" σ Q = Q (.ref k.ra) σ := ra h1 h2 (by exists pkF) ao_Picker_ready
theorem fp_losing (h1 : σ k.pk = some (.inst "Picker" k.pd)) (h2 : σ k.pd = some (.dict (pkF e k))) : wpAttr (.ref k.pk) "losing" σ Q = Q (.ref k.ga) σ := ra h1 h2 (by exists pkF) ao_Picker_losing
end
noncomputable def Pk.O (k : Pk) (a : Addr) : Prop := a = k.pd ∨ a = k.la ∨ a = k.ra ∨ a = k.ga
structure PkAt (σ : AH) (e : EA) (k : Pk) : Prop where
 pk : At e.D σ k.pk (.inst "Picker" k.pd)
 pd : At e.D σ k.pd (.dict (pkF e k))
 ra : At e.D σ k.ra (.list (k.ready.map tupV))
 la : k.st ≤ 3 → At e.D σ k.la (.list (k.left.map .int)) ∧ k.la ≠ k.ra ∧ k.la ≠ k.ga
 ga : k.st ≤ 4 → At e.D σ k.ga (.list (k.losing.map tupV)) ∧ k.ra ≠ k.ga
 lt : k.st ≤ 5
 ply : 0 ≤ k.ply
 nd : ∀ a, k.O a → ¬ e.D a
 ex : ∀ a, k.O a → ∃ o, σ a = some o
theorem ex_set {σ : AH} {a b : Addr} {o : AO} (h : ∃ x, σ a = some x) : ∃ x, (σ.set b o) a = some x := by
 by_cases z : a = b
 · exact ⟨o, by rw [z]; exact set_at⟩
 · obtain ⟨x, hx⟩ := h; exact ⟨x, by rw [set_ne z]; exact hx⟩
noncomputable def Pk.rem (k : Pk) : List Int := k.ready.map (·.2) ++ ((if k.st ≤ 3 then k.left else []) ++ (if k.st ≤ 4 then k.losing.map (·.2) else []))
theorem gi_pnext (e : EA) (k : Pk) : getF (pkF e k) "next" = Option.none := by exists pkF
theorem gi_pfill (e : EA) (k : Pk) : getF (pkF e k) "fill" = Option.none := by exists pkF
theorem gi_ptab (e : EA) (k : Pk) : getF (pkF e k) "fill_table" = Option.none := by exists pkF
theorem gi_pgood (e : EA) (k : Pk) : getF (pkF e k) "fill_good" = Option.none := by exists pkF
theorem gi_pkil (e : EA) (k : Pk) : getF (pkF e k) "fill_killers" = Option.none := by exists pkF
theorem comp_inv {turn : Loc → AH → (Option V → AH → Prop) → Prop} {src : V} {whole : List V} {x : Str} {m : Loc} {Q : List V → AH → Prop} (I : List V → AH → List V → Prop)
   (hok : ∀ rest σ acc, I rest σ acc → iterOk src whole σ) (hsz : ∀ rest σ acc, I rest σ acc → sizeOk acc.length) (fin : ∀ σ acc, I [] σ acc → Q acc σ)
   (step : ∀ v rest σ acc, I (v :: rest) σ acc → ∀ K : Option V → AH → Prop, (∀ u σ', I rest σ' (acc ++ [u]) → K (some u) σ') → (∀ σ', I rest σ' acc → K Option.none σ') → turn (m.set x v) σ K) :
   ∀ {l : List V} {σ : AH} {acc : List V}, I l σ acc → wpComp turn src whole x m l σ acc Q
 | [], σ, acc, h => ⟨hok _ _ _ h, fin _ _ h⟩
 | v :: rest, σ, acc, h => by
   unfold wpComp
   exact ⟨hok _ _ _ h, step v rest σ acc h _ (fun u σ' h' => ⟨hsz _ _ _ h, comp_inv I hok hsz fin step h'⟩) (fun σ' h' => comp_inv I hok hsz fin step h')⟩
structure FillPost (σ σ' : AH) (e : EA) (k k' : Pk) (ra' : Addr) (rd : List (Int × Int)) : Prop where
 at' : PkAt σ' e k'
 keep : Keep k.O σ σ'
 own : ∀ a, k'.O a → k.O a ∨ σ a = Option.none
 same : k'.pk = k.pk ∧ k'.pd = k.pd ∧ k'.st = k.st ∧ k'.tm = k.tm ∧ k'.ply = k.ply ∧ k'.ready = []
 ra : At e.D σ' ra' (.list (rd.map tupV))
 raown : k.O ra' ∨ σ ra' = Option.none
 ap1 : k.st + 1 ≤ 3 → k'.la ≠ ra'
 ap2 : k.st + 1 ≤ 4 → ra' ≠ k'.ga
 perm : (rd.map (·.2) ++ ((if k.st + 1 ≤ 3 then k'.left else []) ++ (if k.st + 1 ≤ 4 then k'.losing.map (·.2) else []))).Perm k.rem
theorem ne_of {σ : AH} {a b : Addr} {o : AO} (h : σ a = Option.none) (h' : σ b = some o) : b ≠ a := fun z => by rw [z, h] at h'; cases h'
theorem ne_dl {σ : AH} {a b : Addr} {fs l} (h : σ a = some (.dict fs)) (h' : σ b = some (.list l)) : b ≠ a := fun z => by rw [z, h] at h'; cases h'
theorem At.setNe {D : Addr → Prop} {σ : AH} {a b : Addr} {o o' : AO} (x : At D σ a o) (h : a ≠ b) : At D (σ.set b o') a o := ⟨by rw [set_ne h]; exact x.1, x.2⟩
section
variable {W : Wld} {r : Nat} {σ σ₀ : AH} {Q : V → AH → Prop} {e : EA} {w : Wd} {v : Sv} {q : List Nat} {pl : Nat} {k : Pk}
theorem p_fill_table (H : IsK W) (hr : 1 ≤ r) (S : St σ e v) (A : PkAt σ e k) (h0 : k.st = 0) (hre : k.ready = []) (hz : k.left.length ≤ 100)
   (h : ∀ σ' k' ra' rd, FillPost σ σ' e k k' ra' rd → Q (.ref ra') σ') : CallSat W r (.me "Picker" "fill_table") [.ref k.pk] σ Q := by
 refine (aE3 fun a1 n1 n2 => ?_) (A.la (by lia))
 obtain ⟨g1, n3⟩ := A.ga (by lia)
 have hle := a1.1
 refine call_up hr fun r hr => call_def (fb_Picker_fill_table H) rfl ?_
 unfold b_Picker_fill_table
 exists fp_game A.pk.1 A.pd.1, fp_left A.pk.1 A.pd.1, fp_table_move A.pk.1 A.pd.1, fp_killers A.pk.1 A.pd.1, fp_history A.pk.1 A.pd.1, fp_ply A.pk.1 A.pd.1, fp_stage A.pk.1 A.pd.1, fp_ready A.pk.1 A.pd.1, fp_losing A.pk.1 A.pd.1, rsa A.pk.1 A.pd.1 ao_Picker_left, rsa A.pk.1 A.pd.1 ao_Picker_ready, rsa A.pk.1 A.pd.1 ao_Picker_stage, os (A.pk.1), os (A.pd.1), pkF, a_notin hle (map_asInts k.left)
 refine ⟨fun c => ⟨by unfold sizeOk; lia, fun d hd => ?_⟩, fun c => ?_⟩
 · refine h _ k d [] ⟨⟨⟨set_old A.pk.1 hd, A.pk.2⟩, ⟨set_old A.pd.1 hd, A.pd.2⟩, ⟨set_old A.ra.1 hd, A.ra.2⟩, fun _ => ⟨⟨set_old a1.1 hd, a1.2⟩, n1, n2⟩, fun _ => ⟨⟨set_old g1.1 hd, g1.2⟩, n3⟩, A.lt, A.ply, A.nd, fun a ha => ex_set (A.ex a ha)⟩, .new hd, fun a ha => .inl ha,
     ⟨rfl, rfl, rfl, rfl, rfl, hre⟩, ⟨set_at, S.notD hd⟩, .inr hd, fun _ => ne_of hd hle, fun _ => (ne_of hd g1.1).symm, ?_⟩
   unfold Pk.rem; rw [h0, hre]; simp
 · have hc : k.left.contains k.tm = true := by
     cases hh : k.left.contains k.tm with
     | true => rfl
     | false => rw [hh] at c; simp at c
   have hmem : k.tm ∈ k.left := by simpa using hc
   exists fp_game A.pk.1 A.pd.1, fp_left A.pk.1 A.pd.1, fp_table_move A.pk.1 A.pd.1, fp_killers A.pk.1 A.pd.1, fp_history A.pk.1 A.pd.1, fp_ply A.pk.1 A.pd.1, fp_stage A.pk.1 A.pd.1, fp_ready A.pk.1 A.pd.1, fp_losing A.pk.1 A.pd.1, rsa A.pk.1 A.pd.1 ao_Picker_left, rsa A.pk.1 A.pd.1 ao_Picker_ready, rsa A.pk.1 A.pd.1 ao_Picker_stage, os (A.pk.1), os (A.pd.1), pkF, os (a_list hle (.inr (.inr rfl))), m_remove hle (map_asInts k.left), len_ints, hc
   refine ⟨by unfold sizeOk; lia, ?_⟩
   have np : k.pd ≠ k.la := (ne_dl A.pd.1 hle).symm
   have npk : k.pk ≠ k.la := fun z => by have := A.pk.1; rw [z, hle] at this; cases this
   have A' : PkAt (σ.set k.la (.list ((k.left.erase k.tm).map .int))) e { k with left := k.left.erase k.tm } :=
     ⟨A.pk.setNe npk, A.pd.setNe np, A.ra.setNe n1.symm, fun _ => ⟨⟨set_at, a1.2⟩, n1, n2⟩, fun _ => ⟨g1.setNe n2.symm, n3⟩, A.lt, A.ply, A.nd, fun a ha => ex_set (A.ex a ha)⟩
   have K1 : Keep k.O σ (σ.set k.la (.list ((k.left.erase k.tm).map .int))) := .set (.inr (.inl rfl))
   exists fp_game A'.pk.1 A'.pd.1, fp_left A'.pk.1 A'.pd.1, fp_table_move A'.pk.1 A'.pd.1, fp_killers A'.pk.1 A'.pd.1, fp_history A'.pk.1 A'.pd.1, fp_ply A'.pk.1 A'.pd.1, fp_stage A'.pk.1 A'.pd.1, fp_ready A'.pk.1 A'.pd.1, fp_losing A'.pk.1 A'.pd.1, rsa A'.pk.1 A'.pd.1 ao_Picker_left, rsa A'.pk.1 A'.pd.1 ao_Picker_ready, rsa A'.pk.1 A'.pd.1 ao_Picker_stage, os (A'.pk.1), os (A'.pd.1), pkF
   refine ⟨by unfold sizeOk; lia, by unfold sizeOk; lia, fun d hd => ?_⟩
   have hd' : σ d = Option.none := by
     rw [set_ne (fun z => by rw [z, set_at] at hd; cases hd)] at hd; exact hd
   refine h _ { k with left := k.left.erase k.tm } d [(0, k.tm)] ⟨⟨⟨set_old A'.pk.1 hd, A.pk.2⟩, ⟨set_old A'.pd.1 hd, A.pd.2⟩, ⟨set_old A'.ra.1 hd, A.ra.2⟩, fun _ => ⟨⟨set_old set_at hd, a1.2⟩, n1, n2⟩, fun _ => ⟨⟨set_old (A'.ga (by show k.st ≤ 4; lia)).1.1 hd, g1.2⟩, n3⟩, A.lt, A.ply, A.nd, fun a ha => ex_set (A'.ex a ha)⟩,
     K1.trans (.new hd), fun a ha => .inl ha, ⟨rfl, rfl, rfl, rfl, rfl, hre⟩, ⟨set_at, S.notD hd'⟩, .inr hd', fun _ => ne_of hd' hle, fun _ => (ne_of hd' g1.1).symm, ?_⟩
   unfold Pk.rem; rw [h0, hre]
   simp only [Nat.reduceAdd, Nat.reduceLeDiff, if_true, List.map_cons, List.map_nil, List.nil_append, List.cons_append]
   have := (List.perm_cons_erase hmem).symm
   exact (this.append_right _)
theorem p_fill_killers (H : IsK W) (hr : 3 ≤ r) (C : e.Cf) (B₀ : Base σ₀ e w) (K₀ : Keep e.D σ₀ σ) (S : St σ e v) (O : KOk e v) (A : PkAt σ e k) (h0 : k.st = 2) (hre : k.ready = []) (hz : k.left.length ≤ 100)
   (h : ∀ σ' k' ra' rd, FillPost σ σ' e k k' ra' rd → Q (.ref ra') σ') : CallSat W r (.me "Picker" "fill_killers") [.ref k.pk] σ Q := by
 refine (aE3 fun a1 n1 n2 => ?_) (A.la (by lia))
 obtain ⟨g1, n3⟩ := A.ga (by lia)
 have hle := a1.1
 refine call_up hr fun r hr => call_def (fb_Picker_fill_killers H) rfl ?_
 unfold b_Picker_fill_killers
 exists true_and
 refine ⟨by unfold sizeOk; lia, fun d hd => ?_⟩
 have Kd : Keep e.D σ (σ.set d (.list [])) := .new hd
 have pk1 := A.pk.keep Kd
 have pd1 := A.pd.keep Kd
 exists fp_game pk1.1 pd1.1, fp_left pk1.1 pd1.1, fp_table_move pk1.1 pd1.1, fp_killers pk1.1 pd1.1, fp_history pk1.1 pd1.1, fp_ply pk1.1 pd1.1, fp_stage pk1.1 pd1.1, fp_ready pk1.1 pd1.1, fp_losing pk1.1 pd1.1, rsa pk1.1 pd1.1 ao_Picker_left, rsa pk1.1 pd1.1 ao_Picker_ready, rsa pk1.1 pd1.1 ao_Picker_stage, os (pk1.1), os (pd1.1), pkF
 refine x_killer_pair H (by first | exact rk hr rfl | lia) C (B₀.keep (K₀.trans Kd)) (S.new hd) O A.ply fun a b => ?_
 exists true_and
 have np : k.pd ≠ k.la := (ne_dl A.pd.1 hle).symm
 have npk : k.pk ≠ k.la := fun z => by have := A.pk.1; rw [z, hle] at this; cases this
 refine iter_inv (fun rest m' σ' => m' "self" = some (.ref k.pk) ∧ m' "found" = some (.ref d) ∧ (∃ (lf : List Int) (fd : List (Int × Int)), σ' d = some (.list (fd.map tupV)) ∧ PkAt σ' e { k with left := lf } ∧ (∀ x o, x ≠ k.la → σ x = some o → σ' x = some o) ∧
     (fd.map (·.2) ++ lf).Perm k.left ∧ lf.length ≤ 100 ∧ fd.length + rest.length ≤ 2) ∧ ∃ ms : List Int, rest = ms.map .int) ?_ ?_ ?_ ?_
 · intro rest m' σ' _; trivial
 · rintro m' σ' oy0; revert oy0; refine aE4 fun g2 g3 oy1 oy2 => ?_; revert oy1; refine xE2 fun lf fd => aE5 fun q1 q2 q3 q4 _ => ?_
   exists os (g3)
   refine h _ { k with left := lf } d fd ⟨q2, fun x o hx e' => q3 x o (fun z => hx (.inr (.inl z))) e', fun a ha => .inl ha, ⟨rfl, rfl, rfl, rfl, rfl, hre⟩, ⟨q1, S.notD hd⟩, .inr hd, fun _ => ne_of hd hle, fun _ => (ne_of hd g1.1).symm, ?_⟩
   unfold Pk.rem; rw [h0, hre]
   simp only [Nat.reduceAdd, Nat.reduceLeDiff, if_true, List.map_nil, List.nil_append]
   rw [← List.append_assoc]
   exact q4.append_right _
 · rintro v' rest m' σ' oy3; revert oy3; refine aE4 fun g2 g3 oy4 oy5 => ?_; revert oy4; refine xE2 fun lf fd => aE6 fun q1 q2 q3 q4 q5 q6 => ?_; obtain ⟨ms, em⟩ := oy5; rintro K k1 k2 k3 k4
   cases ms with
   | nil => cases em
   | cons mv ms =>
     cases em
     have hl2 := (q2.la (by show k.st ≤ 3; lia)).1.1
     have nld : d ≠ k.la := (ne_of hd hle).symm
     exists os (g2), os (g3), fp_game q2.pk.1 q2.pd.1, fp_left q2.pk.1 q2.pd.1, fp_table_move q2.pk.1 q2.pd.1, fp_killers q2.pk.1 q2.pd.1, fp_history q2.pk.1 q2.pd.1, fp_ply q2.pk.1 q2.pd.1, fp_stage q2.pk.1 q2.pd.1, fp_ready q2.pk.1 q2.pd.1, fp_losing q2.pk.1 q2.pd.1, rsa q2.pk.1 q2.pd.1 ao_Picker_left, rsa q2.pk.1 q2.pd.1 ao_Picker_ready, rsa q2.pk.1 q2.pd.1 ao_Picker_stage, os (q2.pk.1), os (q2.pd.1), pkF, a_in hl2 (map_asInts lf)
     refine ⟨fun c => ?_, fun c => k1 _ _ ⟨?_, ?_, ⟨lf, fd, q1, q2, q3, q4, q5, by simp at q6 ⊢; lia⟩, ms, rfl⟩⟩
     · have hmem : mv ∈ lf := by simpa using c
       have qd : (σ'.set k.la (.list ((lf.erase mv).map .int))) d = some (.list (fd.map tupV)) := by rw [set_ne nld]; exact q1
       exists os (g2), os (g3), fp_game q2.pk.1 q2.pd.1, fp_left q2.pk.1 q2.pd.1, fp_table_move q2.pk.1 q2.pd.1, fp_killers q2.pk.1 q2.pd.1, fp_history q2.pk.1 q2.pd.1, fp_ply q2.pk.1 q2.pd.1, fp_stage q2.pk.1 q2.pd.1, fp_ready q2.pk.1 q2.pd.1, fp_losing q2.pk.1 q2.pd.1, rsa q2.pk.1 q2.pd.1 ao_Picker_left, rsa q2.pk.1 q2.pd.1 ao_Picker_ready, rsa q2.pk.1 q2.pd.1 ao_Picker_stage, os (q2.pk.1), os (q2.pd.1), pkF, os (a_list hl2 (.inr (.inr rfl))), m_remove hl2 (map_asInts lf), len_ints, c, os (a_list qd (.inl rfl)), m_app qd
       refine ⟨by unfold sizeOk; lia, by unfold sizeOk; lia, by simp; unfold sizeOk; lia, k1 _ _ ⟨?_, ?_, ⟨lf.erase mv, fd ++ [(0, mv)], ?_, ?_, ?_, ?_, ?_, ?_⟩, ms, rfl⟩⟩
       · exists g2
       · exists g3
       · rw [set_at, List.map_append]; rfl
       · have npd : k.pd ≠ d := ne_of hd A.pd.1
         have npk' : k.pk ≠ d := ne_of hd A.pk.1
         have nra : k.ra ≠ d := ne_of hd A.ra.1
         have nga : k.ga ≠ d := ne_of hd g1.1
         exact ⟨(q2.pk.setNe npk).setNe npk', (q2.pd.setNe np).setNe npd, (q2.ra.setNe n1.symm).setNe nra, fun _ => ⟨⟨by rw [set_ne nld.symm]; exact set_at, a1.2⟩, n1, n2⟩,
           fun _ => ⟨((q2.ga (by show k.st ≤ 4; lia)).1.setNe n2.symm).setNe nga, n3⟩, A.lt, A.ply, A.nd, fun a ha => ex_set (ex_set (q2.ex a ha))⟩
       · intro x o hx e'
         rw [set_ne (ne_of hd e'), set_ne hx]; exact q3 x o hx e'
       · rw [List.map_append, List.append_assoc]
         refine .trans ?_ q4
         exact (List.perm_cons_erase hmem).symm.append_left _
       · exact Nat.le_trans (List.length_erase_le) q5
       · simp at q6 ⊢; lia
     · exists g2
     · exists g3
 · refine ⟨?_, ?_, ⟨k.left, [], by rw [set_at]; rfl, ⟨pk1, pd1, A.ra.keep Kd, fun _ => ⟨a1.keep Kd, n1, n2⟩, fun _ => ⟨g1.keep Kd, n3⟩, A.lt, A.ply, A.nd, fun a ha => ex_set (A.ex a ha)⟩, fun x o _ e' => set_old e' hd, .refl _, hz, by simp⟩, [a, b], rfl⟩ <;> exists true_and
end
theorem eraseIdx_perm {α : Type} : ∀ {l : List α} {n : Nat} {p : α}, l[n]? = some p → l.Perm (p :: l.eraseIdx n)
 | [], n, p, h => by simp at h
 | a :: l, 0, p, h => by cases h; exact .refl _
 | a :: l, n + 1, p, h => (List.Perm.cons a (eraseIdx_perm (l := l) (n := n) h)).trans (.swap _ _ _)
structure OwnK (σ : AH) (k : Pk) (σ' : AH) (k' : Pk) : Prop where
 keep : Keep k.O σ σ'
 own : ∀ a, k'.O a → k.O a ∨ σ a = Option.none
theorem OwnK.refl {σ : AH} {k : Pk} : OwnK σ k σ k := ⟨.refl, fun _ h => .inl h⟩
theorem OwnK.trans {σ σ₁ σ₂ : AH} {k k₁ k₂ : Pk} (x : OwnK σ k σ₁ k₁) (y : OwnK σ₁ k₁ σ₂ k₂) : OwnK σ k σ₂ k₂ := by
 refine ⟨fun a o d e => y.keep a o (fun z => ?_) (x.keep a o d e), fun a ha => ?_⟩
 · rcases x.own a z with z | z
   · exact d z
   · rw [z] at e; cases e
 · rcases y.own a ha with z | z
   · exact x.own a z
   · by_cases hk : k.O a
     · exact .inl hk
     · cases hs : σ a with
       | none => exact .inr rfl
       | some o => rw [x.keep a o hk hs] at z; cases z
section
variable {W : Wld} {r : Nat} {σ σ₀ σ' : AH} {Q : V → AH → Prop} {e : EA} {w : Wd} {v : Sv} {q : List Nat} {pl : Nat} {k k' : Pk}
theorem OwnK.st (x : OwnK σ k σ' k') (S : St σ e v) (nd : ∀ a, k.O a → ¬ e.D a) : St σ' e v := fun m a h => x.keep a _ (fun z => nd a z ⟨m, h⟩) (S m a h)
theorem OwnK.k0 (x : OwnK σ k σ' k') (K₀ : Keep e.D σ₀ σ) (h0 : ∀ a, k.O a → σ₀ a = Option.none) : Keep e.D σ₀ σ' := fun a o d h => x.keep a o (fun z => by rw [h0 a z] at h; cases h) (K₀ a o d h)
theorem OwnK.new (x : OwnK σ k σ' k') (K₀ : Keep e.D σ₀ σ) (S : St σ e v) (h0 : ∀ a, k.O a → σ₀ a = Option.none) : ∀ a, k'.O a → σ₀ a = Option.none := fun a ha => by
 rcases x.own a ha with z | z
 · exact h0 a z
 · cases hs : σ₀ a with
   | none => rfl
   | some o => rw [K₀ a o (S.notD z) hs] at z; cases z
theorem p_fill_good (H : IsK W) (hr : 2 ≤ r) (hw : w.Ok) (B₀ : Base σ₀ e w) (K₀ : Keep e.D σ₀ σ) (S : St σ e v) (A : PkAt σ e k) (hO : ∀ a, k.O a → σ₀ a = Option.none) (hp : v.p = q ++ [pl]) (hq : q.length ≤ 100) (hpl : pl < w.n)
   (h0 : k.st = 1) (hre : k.ready = []) (hz : k.rem.length ≤ 100) (hm : ∀ m ∈ k.rem, 1 ≤ m ∧ m ≤ (w.ways pl).length)
   (h : ∀ σ' k' ra' rd, FillPost σ σ' e k k' ra' rd → Q (.ref ra') σ') : CallSat W r (.me "Picker" "fill_good") [.ref k.pk] σ Q := by
 refine (aE3 fun a1 n1 n2 => ?_) (A.la (by lia))
 obtain ⟨g1, n3⟩ := A.ga (by lia)
 have hle := a1.1
 have hrem : k.rem = k.left ++ k.losing.map (·.2) := by unfold Pk.rem; rw [h0, hre]; simp
 rw [hrem] at hz hm
 have hzl : k.left.length + k.losing.length ≤ 100 := by simpa using hz
 refine call_up hr fun r hr => call_def (fb_Picker_fill_good H) rfl ?_
 unfold b_Picker_fill_good
 exists true_and
 refine ⟨by unfold sizeOk; lia, fun c1 hc1 => ⟨by unfold sizeOk; lia, fun c2 hc2 => ?_⟩⟩
 have nc : c1 ≠ c2 := fun z => by rw [z, set_at] at hc2; cases hc2
 have hc2' : σ c2 = Option.none := by rw [set_ne nc.symm] at hc2; exact hc2
 have Kd : Keep e.D σ ((σ.set c1 (.list [])).set c2 (.list [])) := (Keep.new hc1).trans (.new hc2)
 have ex : ∀ x o, σ x = some o → ((σ.set c1 (.list [])).set c2 (.list [])) x = some o := fun x o e' => set_old (set_old e' hc1) hc2
 have pk1 := A.pk.keep Kd
 have pd1 := A.pd.keep Kd
 have npk : k.pk ≠ k.ga := fun z => by have := A.pk.1; rw [z, g1.1] at this; cases this
 have npd : k.pd ≠ k.ga := (ne_dl A.pd.1 g1.1).symm
 have f1 : k.ga ≠ c1 := ne_of hc1 g1.1
 have f2 : k.ga ≠ c2 := ne_of hc2' g1.1
 exists fp_game pk1.1 pd1.1, fp_left pk1.1 pd1.1, fp_table_move pk1.1 pd1.1, fp_killers pk1.1 pd1.1, fp_history pk1.1 pd1.1, fp_ply pk1.1 pd1.1, fp_stage pk1.1 pd1.1, fp_ready pk1.1 pd1.1, fp_losing pk1.1 pd1.1, rsa pk1.1 pd1.1 ao_Picker_left, rsa pk1.1 pd1.1 ao_Picker_ready, rsa pk1.1 pd1.1 ao_Picker_stage, os (pk1.1), os (pd1.1), pkF, os (a_iter (ex _ _ hle))
 refine iter_inv (fun rest m' σ' => m' "self" = some (.ref k.pk) ∧ m' "good" = some (.ref c1) ∧ m' "quiet" = some (.ref c2) ∧ (∃ (gd ls : List (Int × Int)) (qu ms : List Int), rest = ms.map .int ∧ σ' c1 = some (.list (gd.map tupV)) ∧ σ' c2 = some (.list (qu.map .int)) ∧
     PkAt σ' e { k with losing := ls } ∧ (∀ x o, x ≠ k.ga → σ x = some o → σ' x = some o) ∧ (gd.map (·.2) ++ (qu ++ (ls.map (·.2) ++ ms))).Perm (k.left ++ k.losing.map (·.2)) ∧ gd.length + (qu.length + (ls.length + ms.length)) ≤ 100)) ?_ ?_ ?_ ?_
 · rintro rest m' σ' oy0; revert oy0; refine aE4 fun _ _ _ => xE4 fun gd ls qu ms => aE6 fun _ _ _ _ q3 _ => ?_
   exact ⟨q3 _ _ n2 hle, by simp; unfold sizeOk; lia⟩
 · rintro m' σ' oy1; revert oy1; refine aE4 fun g2 g3 g4 => xE4 fun gd ls qu ms => aE7 fun em s1 s2 A' q3 q4 q5 => ?_
   cases ms with
   | cons => cases em
   | nil =>
   have npd' : c1 ≠ k.pd := (ne_of hc1 A.pd.1).symm
   have npd2 : c2 ≠ k.pd := (ne_of hc2' A.pd.1).symm
   exists os (g2), os (g3), os (g4), fp_game A'.pk.1 A'.pd.1, fp_left A'.pk.1 A'.pd.1, fp_table_move A'.pk.1 A'.pd.1, fp_killers A'.pk.1 A'.pd.1, fp_history A'.pk.1 A'.pd.1, fp_ply A'.pk.1 A'.pd.1, fp_stage A'.pk.1 A'.pd.1, fp_ready A'.pk.1 A'.pd.1, fp_losing A'.pk.1 A'.pd.1, rsa A'.pk.1 A'.pd.1 ao_Picker_left, rsa A'.pk.1 A'.pd.1 ao_Picker_ready, rsa A'.pk.1 A'.pd.1 ao_Picker_stage, os (A'.pk.1), os (A'.pd.1), pkF
   refine ⟨by decide, ?_⟩
   refine h _ { k with losing := ls, la := c2, left := qu } c1 gd ⟨⟨A'.pk.setNe (fun z => by have := A.pk.1; rw [z, A.pd.1] at this; cases this), ⟨set_at, A.pd.2⟩, A'.ra.setNe (ne_dl A.pd.1 A.ra.1), fun _ => ⟨⟨by rw [set_ne npd2]; exact s2, S.notD hc2'⟩, (ne_of hc2' A.ra.1).symm, f2.symm⟩,
     fun _ => ⟨(A'.ga (by show k.st ≤ 4; lia)).1.setNe npd.symm, n3⟩, A.lt, A.ply, ?_, ?_⟩, fun x o hx e' => ?_, ?_, ⟨rfl, rfl, rfl, rfl, rfl, hre⟩, ⟨by rw [set_ne npd']; exact s1, S.notD hc1⟩, .inr hc1, fun _ => nc.symm, fun _ => f1.symm, ?_⟩
   · rintro a (z | z | z | z)
     · exact A.nd a (.inl z)
     · rw [z]; exact S.notD hc2'
     · exact A.nd a (.inr (.inr (.inl z)))
     · exact A.nd a (.inr (.inr (.inr z)))
   · rintro a (rfl | rfl | rfl | rfl)
     · exact ⟨_, set_at⟩
     · exact ex_set ⟨_, s2⟩
     · exact ex_set (A'.ex _ (.inr (.inr (.inl rfl))))
     · exact ex_set (A'.ex _ (.inr (.inr (.inr rfl))))
   · rw [set_ne (fun z => hx (.inl z))]; exact q3 x o (fun z => hx (.inr (.inr (.inr z)))) e'
   · rintro a (z | z | z | z)
     · exact .inl (.inl z)
     · exact .inr (by rw [z]; exact hc2')
     · exact .inl (.inr (.inr (.inl z)))
     · exact .inl (.inr (.inr (.inr z)))
   · rw [hrem, h0]
     simpa using q4
 · rintro v' rest m' σ' oy2; revert oy2; refine aE4 fun g2 g3 g4 => xE4 fun gd ls qu ms => aE7 fun em s1 s2 A' q3 q4 q5 => ?_; rintro K k1 k2 k3 k4
   cases ms with
   | nil => cases em
   | cons mv ms =>
     cases em
     have hmv := hm mv (q4.mem_iff.mp (by simp))
     have Kn : Keep e.D σ₀ σ' := fun a o d h' => q3 a o (fun z => by rw [hO a (.inr (.inr (.inr z)))] at h'; cases h') (K₀ a o d h')
     have Sn : St σ' e v := fun m a h' => q3 a _ (fun z => A.nd a (.inr (.inr (.inr z))) ⟨m, h'⟩) (S m a h')
     have Bn := B₀.keep Kn
     simp only [List.length_cons] at q5
     exists os (g2), os (g3), os (g4), fp_game A'.pk.1 A'.pd.1, fp_left A'.pk.1 A'.pd.1, fp_table_move A'.pk.1 A'.pd.1, fp_killers A'.pk.1 A'.pd.1, fp_history A'.pk.1 A'.pd.1, fp_ply A'.pk.1 A'.pd.1, fp_stage A'.pk.1 A'.pd.1, fp_ready A'.pk.1 A'.pd.1, fp_losing A'.pk.1 A'.pd.1, rsa A'.pk.1 A'.pd.1 ao_Picker_left, rsa A'.pk.1 A'.pd.1 ao_Picker_ready, rsa A'.pk.1 A'.pd.1 ao_Picker_stage, os (A'.pk.1), os (A'.pd.1), pkF, os (a_inst Bn.game.1 Bn.gd.1 mo_TreeGame_is_noisy (gi_is_noisy e))
     refine g_is_noisy H (by first | exact rk hr rfl | lia) hw Bn Sn hp hq hpl hmv.1 hmv.2 fun b _ => ?_
     exists os (g2), os (g3), os (g4), fp_game A'.pk.1 A'.pd.1, fp_left A'.pk.1 A'.pd.1, fp_table_move A'.pk.1 A'.pd.1, fp_killers A'.pk.1 A'.pd.1, fp_history A'.pk.1 A'.pd.1, fp_ply A'.pk.1 A'.pd.1, fp_stage A'.pk.1 A'.pd.1, fp_ready A'.pk.1 A'.pd.1, fp_losing A'.pk.1 A'.pd.1, rsa A'.pk.1 A'.pd.1 ao_Picker_left, rsa A'.pk.1 A'.pd.1 ao_Picker_ready, rsa A'.pk.1 A'.pd.1 ao_Picker_stage, os (A'.pk.1), os (A'.pd.1), pkF, os (a_list s2 (.inl rfl))
     refine ⟨fun _ => ?_, fun _ => ?_⟩
     · rw [m_app s2]
       refine ⟨by simp; unfold sizeOk; lia, k2 _ _ ⟨?_, ?_, ?_, gd, ls, qu ++ [mv], ms, rfl, by rw [set_ne nc]; exact s1, by rw [set_at, List.map_append]; rfl, ?_, ?_, ?_, by simp; lia⟩⟩
       · exists g2
       · exists g3
       · exists g4
       · exact ⟨A'.pk.setNe (ne_of hc2' A.pk.1), A'.pd.setNe (ne_of hc2' A.pd.1), A'.ra.setNe (ne_of hc2' A.ra.1), fun _ => ⟨(A'.la (by show k.st ≤ 3; lia)).1.setNe (ne_of hc2' hle), n1, n2⟩, fun _ => ⟨(A'.ga (by show k.st ≤ 4; lia)).1.setNe f2, n3⟩, A.lt, A.ply, A.nd, fun a ha => ex_set (A'.ex a ha)⟩
       · intro x o hx e'; rw [set_ne (ne_of hc2' e')]; exact q3 x o hx e'
       · refine .trans ?_ q4
         refine .append_left _ ?_
         rw [List.append_assoc]
         refine .append_left _ ?_
         exact (List.perm_middle (l₁ := ls.map (·.2)) (a := mv) (l₂ := ms)).symm
     · exists os (g2), os (g3), os (g4), fp_game A'.pk.1 A'.pd.1, fp_left A'.pk.1 A'.pd.1, fp_table_move A'.pk.1 A'.pd.1, fp_killers A'.pk.1 A'.pd.1, fp_history A'.pk.1 A'.pd.1, fp_ply A'.pk.1 A'.pd.1, fp_stage A'.pk.1 A'.pd.1, fp_ready A'.pk.1 A'.pd.1, fp_losing A'.pk.1 A'.pd.1, rsa A'.pk.1 A'.pd.1 ao_Picker_left, rsa A'.pk.1 A'.pd.1 ao_Picker_ready, rsa A'.pk.1 A'.pd.1 ao_Picker_stage, os (A'.pk.1), os (A'.pd.1), pkF, os (a_inst Bn.game.1 Bn.gd.1 mo_TreeGame_gain (gi_gain e))
       refine g_gain H (by first | exact rk hr rfl | lia) hw Bn Sn hp hq hpl hmv.1 hmv.2 fun gn => ?_
       have gl := (A'.ga (by show k.st ≤ 4; lia)).1.1
       exists os (g2), os (g3), os (g4), fp_game A'.pk.1 A'.pd.1, fp_left A'.pk.1 A'.pd.1, fp_table_move A'.pk.1 A'.pd.1, fp_killers A'.pk.1 A'.pd.1, fp_history A'.pk.1 A'.pd.1, fp_ply A'.pk.1 A'.pd.1, fp_stage A'.pk.1 A'.pd.1, fp_ready A'.pk.1 A'.pd.1, fp_losing A'.pk.1 A'.pd.1, rsa A'.pk.1 A'.pd.1 ao_Picker_left, rsa A'.pk.1 A'.pd.1 ao_Picker_ready, rsa A'.pk.1 A'.pd.1 ao_Picker_stage, os (A'.pk.1), os (A'.pd.1), pkF, os (a_list s1 (.inl rfl)), os (a_list gl (.inl rfl))
       refine ⟨fun _ => ⟨by unfold sizeOk; decide, ?_⟩, fun _ => ⟨by unfold sizeOk; decide, ?_⟩⟩
       · rw [m_app s1]
         refine ⟨by simp; unfold sizeOk; lia, k1 _ _ ⟨?_, ?_, ?_, gd ++ [(gn, mv)], ls, qu, ms, rfl, by rw [set_at, List.map_append]; rfl, by rw [set_ne nc.symm]; exact s2, ?_, ?_, ?_, by simp; lia⟩⟩
         · exists g2
         · exists g3
         · exists g4
         · exact ⟨A'.pk.setNe (ne_of hc1 A.pk.1), A'.pd.setNe (ne_of hc1 A.pd.1), A'.ra.setNe (ne_of hc1 A.ra.1), fun _ => ⟨(A'.la (by show k.st ≤ 3; lia)).1.setNe (ne_of hc1 hle), n1, n2⟩, fun _ => ⟨(A'.ga (by show k.st ≤ 4; lia)).1.setNe f1, n3⟩, A.lt, A.ply, A.nd, fun a ha => ex_set (A'.ex a ha)⟩
         · intro x o hx e'; rw [set_ne (ne_of hc1 e')]; exact q3 x o hx e'
         · refine .trans ?_ q4
           rw [List.map_append, List.append_assoc]
           refine .append_left _ ?_
           show (mv :: (qu ++ (ls.map (·.2) ++ ms))).Perm _
           rw [← List.append_assoc, ← List.append_assoc]
           exact (List.perm_middle (l₁ := qu ++ ls.map (·.2)) (a := mv) (l₂ := ms)).symm
       · rw [m_app gl]
         refine ⟨by simp; unfold sizeOk; lia, k1 _ _ ⟨?_, ?_, ?_, gd, ls ++ [(gn, mv)], qu, ms, rfl, by rw [set_ne f1.symm]; exact s1, by rw [set_ne f2.symm]; exact s2, ?_, ?_, ?_, by simp; lia⟩⟩
         · exists g2
         · exists g3
         · exists g4
         · exact ⟨A'.pk.setNe npk, A'.pd.setNe npd, A'.ra.setNe n3, fun _ => ⟨(A'.la (by show k.st ≤ 3; lia)).1.setNe n2, n1, n2⟩, fun _ => ⟨⟨by show (σ'.set k.ga _) k.ga = _; rw [set_at, List.map_append]; rfl, g1.2⟩, n3⟩, A.lt, A.ply, A.nd, fun a ha => ex_set (A'.ex a ha)⟩
         · intro x o hx e'; rw [set_ne hx]; exact q3 x o hx e'
         · refine .trans ?_ q4
           refine .append_left _ (.append_left _ ?_)
           rw [List.map_append, List.append_assoc]
           exact .refl _
 · refine ⟨?_, ?_, ?_, [], k.losing, [], k.left, rfl, by rw [set_ne nc, set_at]; rfl, by rw [set_at]; rfl, ⟨pk1, pd1, A.ra.keep Kd, fun _ => ⟨a1.keep Kd, n1, n2⟩, fun _ => ⟨g1.keep Kd, n3⟩, A.lt, A.ply, A.nd, fun a ha => ex_set (ex_set (A.ex a ha))⟩, fun x o _ e' => ex x o e', ?_, by simp; lia⟩
   · exists true_and
   · exists true_and
   · exists true_and
   · simpa using List.perm_append_comm
end
section
variable {W : Wld} {r : Nat} {σ σ₀ σ' : AH} {Q : V → AH → Prop} {e : EA} {w : Wd} {v : Sv} {q : List Nat} {pl : Nat} {k k' : Pk}
theorem p_fill (H : IsK W) (hr : 4 ≤ r) (hw : w.Ok) (C : e.Cf) (B₀ : Base σ₀ e w) (K₀ : Keep e.D σ₀ σ) (S : St σ e v) (O : KOk e v) (A : PkAt σ e k) (hO : ∀ a, k.O a → σ₀ a = Option.none) (hp : v.p = q ++ [pl]) (hq : q.length ≤ 100) (hpl : pl < w.n)
   (h0 : k.st ≤ 4) (hre : k.ready = []) (hz : k.rem.length ≤ 100) (hm : ∀ m ∈ k.rem, 1 ≤ m ∧ m ≤ (w.ways pl).length)
   (h : ∀ σ' k' ra' rd, FillPost σ σ' e k k' ra' rd → Q (.ref ra') σ') : CallSat W r (.me "Picker" "fill") [.ref k.pk, .int k.st] σ Q := by
 refine call_up hr fun r hr => call_def (fb_Picker_fill H) rfl ?_
 unfold b_Picker_fill
 exists os (a_inst A.pk.1 A.pd.1 mo_Picker_fill_table (gi_ptab e k)), os (a_inst A.pk.1 A.pd.1 mo_Picker_fill_good (gi_pgood e k)), os (a_inst A.pk.1 A.pd.1 mo_Picker_fill_killers (gi_pkil e k))
 have lz : k.st ≤ 3 → k.left.length ≤ 100 := fun z => by
   unfold Pk.rem at hz; rw [if_pos z] at hz
   simp only [List.length_append] at hz; lia
 refine ⟨fun c => ?_, fun c0 => ⟨fun c => ?_, fun c1 => ⟨fun c => ?_, fun c2 => ⟨fun c => ?_, fun c3 => ?_⟩⟩⟩⟩
 · exact p_fill_table H (by first | exact rk hr rfl | lia) S A (by lia) hre (lz (by lia)) h
 · exact p_fill_good H (by first | exact rk hr rfl | lia) hw B₀ K₀ S A hO hp hq hpl (by lia) hre hz hm h
 · exact p_fill_killers H (by first | exact rk hr rfl | lia) C B₀ K₀ S O A (by lia) hre (lz (by lia)) h
 · have B := B₀.keep K₀
   refine (aE3 fun a1 n1 n2 => ?_) (A.la (by lia))
   obtain ⟨g1, n3⟩ := A.ga (by lia)
   exists fp_game A.pk.1 A.pd.1, fp_left A.pk.1 A.pd.1, fp_table_move A.pk.1 A.pd.1, fp_killers A.pk.1 A.pd.1, fp_history A.pk.1 A.pd.1, fp_ply A.pk.1 A.pd.1, fp_stage A.pk.1 A.pd.1, fp_ready A.pk.1 A.pd.1, fp_losing A.pk.1 A.pd.1, rsa A.pk.1 A.pd.1 ao_Picker_left, rsa A.pk.1 A.pd.1 ao_Picker_ready, rsa A.pk.1 A.pd.1 ao_Picker_stage, os (A.pk.1), os (A.pd.1), pkF, os (a_inst B.game.1 B.gd.1 mo_TreeGame_side (gi_side e))
   refine g_side H (by first | exact rk hr rfl | lia) B S (by rw [hp]; simp; lia) (by rw [hp]; simp) fun i i1 i2 => ?_
   exists fp_game A.pk.1 A.pd.1, fp_left A.pk.1 A.pd.1, fp_table_move A.pk.1 A.pd.1, fp_killers A.pk.1 A.pd.1, fp_history A.pk.1 A.pd.1, fp_ply A.pk.1 A.pd.1, fp_stage A.pk.1 A.pd.1, fp_ready A.pk.1 A.pd.1, fp_losing A.pk.1 A.pd.1, rsa A.pk.1 A.pd.1 ao_Picker_left, rsa A.pk.1 A.pd.1 ao_Picker_ready, rsa A.pk.1 A.pd.1 ao_Picker_stage, os (A.pk.1), os (A.pd.1), pkF, os (a_iter a1.1)
   refine comp_inv (fun rest σ' acc => σ' = σ ∧ ∃ (rd : List (Int × Int)) (ms : List Int), rest = ms.map .int ∧ acc = rd.map tupV ∧ rd.map (·.2) ++ ms = k.left) ?_ ?_ ?_ ?_ ?_
   · rintro rest σ' acc ⟨rfl, _⟩
     exact ⟨a1.1, by simp; unfold sizeOk; have := lz (by lia); lia⟩
   · rintro rest σ' acc oy0; revert oy0; refine aE2 fun oy1 oy2 => ?_; obtain rfl := oy1; revert oy2; refine xE2 fun rd ms => aE3 fun _ oy3 oy4 => ?_; obtain rfl := oy3; revert oy4; intro hh
     have := congrArg List.length hh
     simp only [List.length_append, List.length_map] at this
     have := lz (by lia)
     simp; unfold sizeOk; lia
   · rintro σ' acc oy5; revert oy5; refine aE2 fun oy6 oy7 => ?_; obtain rfl := oy6; revert oy7; refine xE2 fun rd ms => aE3 fun em oy8 oy9 => ?_; obtain rfl := oy8; revert oy9; intro hh
     cases ms with
     | cons => cases em
     | nil =>
     intro d hd
     refine h _ k d rd ⟨⟨⟨set_old A.pk.1 hd, A.pk.2⟩, ⟨set_old A.pd.1 hd, A.pd.2⟩, ⟨set_old A.ra.1 hd, A.ra.2⟩, fun _ => ⟨⟨set_old a1.1 hd, a1.2⟩, n1, n2⟩, fun _ => ⟨⟨set_old g1.1 hd, g1.2⟩, n3⟩, A.lt, A.ply, A.nd, fun a ha => ex_set (A.ex a ha)⟩, .new hd, fun a ha => .inl ha,
       ⟨rfl, rfl, rfl, rfl, rfl, hre⟩, ⟨set_at, S.notD hd⟩, .inr hd, fun z => by lia, fun _ => (ne_of hd g1.1).symm, ?_⟩
     unfold Pk.rem
     rw [hre, if_neg (by lia), if_pos (by lia), if_pos (by lia), if_pos (by lia)]
     rw [List.append_nil] at hh
     rw [hh]; simp
   · rintro v' rest σ' acc oy10; revert oy10; refine aE2 fun oy11 oy12 => ?_; obtain rfl := oy11; revert oy12; refine xE2 fun rd ms => aE3 fun em oy13 oy14 => ?_; obtain rfl := oy13; revert oy14; intro hh; rintro K k1 k2
     cases ms with
     | nil => cases em
     | cons mv ms =>
       cases em
       exists fp_game A.pk.1 A.pd.1, fp_left A.pk.1 A.pd.1, fp_table_move A.pk.1 A.pd.1, fp_killers A.pk.1 A.pd.1, fp_history A.pk.1 A.pd.1, fp_ply A.pk.1 A.pd.1, fp_stage A.pk.1 A.pd.1, fp_ready A.pk.1 A.pd.1, fp_losing A.pk.1 A.pd.1, rsa A.pk.1 A.pd.1 ao_Picker_left, rsa A.pk.1 A.pd.1 ao_Picker_ready, rsa A.pk.1 A.pd.1 ao_Picker_stage, os (A.pk.1), os (A.pd.1), pkF
       refine x_past_score H (by first | exact rk hr rfl | lia) C B S i1 i2 fun x => ?_
       exists true_and
       refine ⟨by unfold sizeOk; decide, k1 _ _ ⟨rfl, rd ++ [(x, mv)], ms, rfl, by rw [List.map_append]; rfl, ?_⟩⟩
       rw [← hh]; simp
   · exact ⟨rfl, [], k.left, rfl, rfl, rfl⟩
 · obtain ⟨g1, n3⟩ := A.ga (by lia)
   exists fp_game A.pk.1 A.pd.1, fp_left A.pk.1 A.pd.1, fp_table_move A.pk.1 A.pd.1, fp_killers A.pk.1 A.pd.1, fp_history A.pk.1 A.pd.1, fp_ply A.pk.1 A.pd.1, fp_stage A.pk.1 A.pd.1, fp_ready A.pk.1 A.pd.1, fp_losing A.pk.1 A.pd.1, rsa A.pk.1 A.pd.1 ao_Picker_left, rsa A.pk.1 A.pd.1 ao_Picker_ready, rsa A.pk.1 A.pd.1 ao_Picker_stage, os (A.pk.1), os (A.pd.1), pkF
   refine h _ k k.ga k.losing ⟨A, .refl, fun a ha => .inl ha, ⟨rfl, rfl, rfl, rfl, rfl, hre⟩, g1, .inl (.inr (.inr (.inr rfl))), fun z => by lia, fun z => by lia, ?_⟩
   unfold Pk.rem
   rw [hre, if_neg (by lia), if_neg (by lia), if_neg (by lia), if_pos (by lia)]
   simp
theorem p_next (H : IsK W) (hr : 5 ≤ r) (hw : w.Ok) (C : e.Cf) (B₀ : Base σ₀ e w) (K₀ : Keep e.D σ₀ σ) (S : St σ e v) (O : KOk e v) (A : PkAt σ e k) (hO : ∀ a, k.O a → σ₀ a = Option.none) (hp : v.p = q ++ [pl]) (hq : q.length ≤ 100) (hpl : pl < w.n)
   (hz : k.rem.length ≤ 100) (hm : ∀ m ∈ k.rem, 1 ≤ m ∧ m ≤ (w.ways pl).length)
   (h : ∀ σ' k' mv, PkAt σ' e k' → OwnK σ k σ' k' → k'.pk = k.pk → ((mv = 0 ∧ k.rem = [] ∧ k'.rem = []) ∨ k.rem.Perm (mv :: k'.rem)) → Keep e.D σ₀ σ' → St σ' e v → (∀ a, k'.O a → σ₀ a = Option.none) → Q (.int mv) σ') : CallSat W r (.me "Picker" "next") [.ref k.pk] σ Q := by
 refine call_up hr fun r hr => call_def (fb_Picker_next H) rfl ?_
 unfold b_Picker_next
 exists true_and
 refine ⟨5 - k.st + 1, while_inv (fun n m' σ' => m' "self" = some (.ref k.pk) ∧ ∃ k₁, PkAt σ' e k₁ ∧ OwnK σ k σ' k₁ ∧ k₁.pk = k.pk ∧ k.rem.Perm k₁.rem ∧ k₁.st + n = 5) ?_ (5 - k.st) ⟨?_, k, A, .refl, rfl, .refl _, ?_⟩⟩
 · rintro n m' σ' oy0; revert oy0; refine aE2 fun g1 => xE1 fun k₁ => aE5 fun A₁ Ow hk hpm hn => ?_; rintro K k1 k2 k3 k4
   rw [← hk] at g1
   have hlz : k₁.rem.length ≤ 100 := by rw [← hpm.length_eq]; exact hz
   have hrz : k₁.ready.length ≤ 100 := by
     unfold Pk.rem at hlz; simp only [List.length_append, List.length_map] at hlz; lia
   have hm₁ : ∀ m ∈ k₁.rem, 1 ≤ m ∧ m ≤ (w.ways pl).length := fun m hm' => hm m (hpm.mem_iff.mpr hm')
   have Kn := Ow.k0 K₀ hO
   have Sn := Ow.st S A.nd
   have On := Ow.new K₀ S hO
   exists os (g1), fp_game A₁.pk.1 A₁.pd.1, fp_left A₁.pk.1 A₁.pd.1, fp_table_move A₁.pk.1 A₁.pd.1, fp_killers A₁.pk.1 A₁.pd.1, fp_history A₁.pk.1 A₁.pd.1, fp_ply A₁.pk.1 A₁.pd.1, fp_stage A₁.pk.1 A₁.pd.1, fp_ready A₁.pk.1 A₁.pd.1, fp_losing A₁.pk.1 A₁.pd.1, rsa A₁.pk.1 A₁.pd.1 ao_Picker_left, rsa A₁.pk.1 A₁.pd.1 ao_Picker_ready, rsa A₁.pk.1 A₁.pd.1 ao_Picker_stage, os (A₁.pk.1), os (A₁.pd.1), pkF, a_truth A₁.ra.1
   refine ⟨by simp; unfold sizeOk; lia, fun c => ?_, fun c => ?_⟩
   · have hre : k₁.ready = [] := by simpa using c
     refine ⟨fun c5 => ?_, fun c5 => ?_⟩
     · refine k4 _ _ _ ?_
       exists true_and
       have hnil' : k₁.rem = [] := by
         unfold Pk.rem; rw [hre, if_neg (by lia), if_neg (by lia)]; rfl
       have hnil : k.rem = [] := by
         rw [hnil'] at hpm
         exact hpm.eq_nil
       exact h _ k₁ 0 A₁ Ow hk (.inl ⟨rfl, hnil, hnil'⟩) Kn Sn On
     · have h4 : k₁.st ≤ 4 := by have := A₁.lt; lia
       exists os (g1), fp_game A₁.pk.1 A₁.pd.1, fp_left A₁.pk.1 A₁.pd.1, fp_table_move A₁.pk.1 A₁.pd.1, fp_killers A₁.pk.1 A₁.pd.1, fp_history A₁.pk.1 A₁.pd.1, fp_ply A₁.pk.1 A₁.pd.1, fp_stage A₁.pk.1 A₁.pd.1, fp_ready A₁.pk.1 A₁.pd.1, fp_losing A₁.pk.1 A₁.pd.1, rsa A₁.pk.1 A₁.pd.1 ao_Picker_left, rsa A₁.pk.1 A₁.pd.1 ao_Picker_ready, rsa A₁.pk.1 A₁.pd.1 ao_Picker_stage, os (A₁.pk.1), os (A₁.pd.1), pkF, os (a_inst A₁.pk.1 A₁.pd.1 mo_Picker_fill (gi_pfill e k₁))
       refine p_fill H (by first | exact rk hr rfl | lia) hw C B₀ Kn Sn O A₁ On hp hq hpl h4 hre hlz hm₁ fun σ2 k2' ra' rd F => ?_
       obtain ⟨s1, s2, s3, s4, s5, s6⟩ := F.same
       have gp : m' "self" = some (.ref k2'.pk) := by rw [s1]; exact g1
       have A2 := F.at'
       have npp : k2'.pk ≠ k2'.pd := fun z => by have := A2.pk.1; rw [z, A2.pd.1] at this; cases this
       exists fp_game A2.pk.1 A2.pd.1, fp_left A2.pk.1 A2.pd.1, fp_table_move A2.pk.1 A2.pd.1, fp_killers A2.pk.1 A2.pd.1, fp_history A2.pk.1 A2.pd.1, fp_ply A2.pk.1 A2.pd.1, fp_stage A2.pk.1 A2.pd.1, fp_ready A2.pk.1 A2.pd.1, fp_losing A2.pk.1 A2.pd.1, rsa A2.pk.1 A2.pd.1 ao_Picker_left, rsa A2.pk.1 A2.pd.1 ao_Picker_ready, rsa A2.pk.1 A2.pd.1 ao_Picker_stage, os (A2.pk.1), os (A2.pd.1), pkF, set_ne npp, set_at, gp, a_attr, a_setAttr
       refine ⟨by decide, by decide, ?_⟩
       cases n with
       | zero => lia
       | succ n =>
       have nra : ra' ≠ k2'.pd := ne_dl A2.pd.1 F.ra.1
       have nraO : ¬ e.D ra' := F.ra.2
       have hset : ∀ (o o' : AO), (σ2.set k2'.pd o).set k2'.pd o' = σ2.set k2'.pd o' := fun o o' => by
         funext x; unfold AH.set; split <;> rfl
       rw [hset]
       refine k1 n _ _ rfl ⟨?_, { k2' with ra := ra', ready := rd, st := k₁.st + 1 }, ⟨A2.pk.setNe npp, ⟨?_, A2.pd.2⟩, F.ra.setNe nra, fun z => ?_, fun z => ?_, ?_, A2.ply, ?_, ?_⟩, ?_, ?_, ?_, ?_⟩
       · rw [gp, s1, hk]
       · rw [set_at, s3]
         congr 1
       · have z' : k₁.st + 1 ≤ 3 := z
         refine (aE3 fun x1 x2 x3 => ?_) (A2.la (by lia))
         exact ⟨x1.setNe (ne_dl A2.pd.1 x1.1), F.ap1 z', x3⟩
       · have z' : k₁.st + 1 ≤ 4 := z
         obtain ⟨x1, x2⟩ := A2.ga (by lia)
         exact ⟨x1.setNe (ne_dl A2.pd.1 x1.1), F.ap2 z'⟩
       · show k₁.st + 1 ≤ 5; lia
       · rintro a (z | z | z | z)
         · exact A2.nd a (.inl z)
         · exact A2.nd a (.inr (.inl z))
         · rw [z]; exact nraO
         · exact A2.nd a (.inr (.inr (.inr z)))
       · rintro a (rfl | rfl | rfl | rfl)
         · exact ⟨_, set_at⟩
         · exact ex_set (A2.ex _ (.inr (.inl rfl)))
         · exact ex_set ⟨_, F.ra.1⟩
         · exact ex_set (A2.ex _ (.inr (.inr (.inr rfl))))
       · refine Ow.trans ⟨fun a o d e' => ?_, ?_⟩
         · rw [set_ne (fun z => d (.inl (by rw [z, s2])))]
           exact F.keep a o d e'
         · rintro a (z | z | z | z)
           · exact F.own a (.inl z)
           · exact F.own a (.inr (.inl z))
           · rw [z]; exact F.raown
           · exact F.own a (.inr (.inr (.inr z)))
       · show k2'.pk = k.pk
         rw [s1, hk]
       · exact hpm.trans F.perm.symm
       · show k₁.st + 1 + n = 5; lia
   · have hne : 0 < k₁.ready.length := by
       cases hh : k₁.ready with
       | nil => rw [hh] at c; simp at c
       | cons => simp
     exists os (g1), fp_game A₁.pk.1 A₁.pd.1, fp_left A₁.pk.1 A₁.pd.1, fp_table_move A₁.pk.1 A₁.pd.1, fp_killers A₁.pk.1 A₁.pd.1, fp_history A₁.pk.1 A₁.pd.1, fp_ply A₁.pk.1 A₁.pd.1, fp_stage A₁.pk.1 A₁.pd.1, fp_ready A₁.pk.1 A₁.pd.1, fp_losing A₁.pk.1 A₁.pd.1, rsa A₁.pk.1 A₁.pd.1 ao_Picker_left, rsa A₁.pk.1 A₁.pd.1 ao_Picker_ready, rsa A₁.pk.1 A₁.pd.1 ao_Picker_stage, os (A₁.pk.1), os (A₁.pd.1), pkF
     refine k_take_best H (by first | exact rk hr rfl | lia) A₁.ra.1 (by lia) hne fun n p hn' => ?_
     have Ow2 : OwnK σ' k₁ (σ'.set k₁.ra (.list ((k₁.ready.eraseIdx n).map tupV))) { k₁ with ready := k₁.ready.eraseIdx n } := ⟨.set (.inr (.inr (.inl rfl))), fun a ha => .inl ha⟩
     have Owt := Ow.trans Ow2
     refine h _ { k₁ with ready := k₁.ready.eraseIdx n } p.2 ⟨A₁.pk.setNe (fun z => by have := A₁.pk.1; rw [z, A₁.ra.1] at this; cases this), A₁.pd.setNe ((ne_dl A₁.pd.1 A₁.ra.1).symm), ⟨set_at, A₁.ra.2⟩,
       fun z => ⟨(A₁.la z).1.setNe (A₁.la z).2.1, (A₁.la z).2⟩, fun z => ⟨(A₁.ga z).1.setNe (A₁.ga z).2.symm, (A₁.ga z).2⟩, A₁.lt, A₁.ply, A₁.nd, fun a ha => ex_set (A₁.ex a ha)⟩ Owt hk (.inr ?_) (Owt.k0 K₀ hO) (Owt.st S A.nd) (Owt.new K₀ S hO)
     refine hpm.trans ?_
     unfold Pk.rem
     rw [← List.cons_append]
     refine .append_right _ ?_
     have := (eraseIdx_perm hn').map (·.2)
     simpa using this
 · first | rfl | exists true_and
 · have := A.lt; lia
end
noncomputable def rsd (m : Int) : Int := if (-m).natAbs < 30000 then -m else if 0 < -m then -m - 1 else -m + 1
noncomputable def sv (ply : Int) (u : Int) : Int := if 30000 ≤ u then u - ply else if u ≤ -30000 then u + ply else u
noncomputable def Mg (k : Nat) (u : Int) : Prop := (-30 ≤ u ∧ u ≤ 30) ∨ (32000 - (k : Int) ≤ u ∧ u ≤ 32000) ∨ (-32000 ≤ u ∧ u ≤ (k : Int) - 32000)
theorem Mg.up {k j : Nat} {u : Int} (h : Mg k u) (hk : k ≤ j) : Mg j u := by
 have q : (k : Int) ≤ j := Int.ofNat_le.mpr hk
 exact h.imp id (Or.imp (And.imp_left (Int.le_trans (Int.sub_le_sub_left q _))) (And.imp_right (Int.le_trans · (Int.sub_le_sub_right q _))))
theorem rsd_mid {u : Int} (h : -30000 < u) (h' : u < 30000) : rsd u = -u := if_pos (by lia)
theorem rsd_hi {u : Int} (h : 30000 ≤ u) : rsd u = -u + 1 := (if_neg (by lia)).trans (if_neg (by lia))
theorem rsd_lo {u : Int} (h : u ≤ -30000) : rsd u = -u - 1 := (if_neg (by lia)).trans (if_pos (by lia))
theorem sv_mid {p u : Int} (h : -30000 < u) (h' : u < 30000) : sv p u = u := (if_neg (Int.not_le.mpr h')).trans (if_neg (Int.not_le.mpr h))
theorem sv_hi {p u : Int} (h : 30000 ≤ u) : sv p u = u - p := if_pos h
theorem sv_lo {p u : Int} (h : u ≤ -30000) : sv p u = u + p := (if_neg (by lia)).trans (if_pos h)
theorem le_tr {a b : Int} (c : Int) (h : a ≤ c) (h' : c ≤ b) : a ≤ b := Int.le_trans h h'
theorem lt_tr {a b : Int} (c : Int) (h : a < c) (h' : c ≤ b) : a < b := Int.lt_of_lt_of_le h h'
theorem tr_lt {a b : Int} (c : Int) (h : a ≤ c) (h' : c < b) : a < b := Int.lt_of_le_of_lt h h'
theorem Mg.el {k : Nat} {u : Int} {C : Prop} (h : Mg k u) (hk : k ≤ 50) (a : (∀ p, sv p u = u) → rsd u = -u → -30 ≤ u → u ≤ 30 → C)
   (b : (∀ p, sv p u = u - p) → rsd u = -u + 1 → 32000 - (k : Int) ≤ u → u ≤ 32000 → C) (c : (∀ p, sv p u = u + p) → rsd u = -u - 1 → -32000 ≤ u → u ≤ (k : Int) - 32000 → C) : C :=
 h.elim (fun ⟨x, y⟩ => have p := lt_tr (-30) (by decide) x; have q := tr_lt 30 y (by decide); a (fun _ => sv_mid p q) (rsd_mid p q) x y) fun h =>
   h.elim (fun ⟨x, y⟩ => have q : 30000 ≤ u := by lia
     b (fun _ => sv_hi q) (rsd_hi q) x y) fun ⟨x, y⟩ => have q : u ≤ -30000 := by lia
     c (fun _ => sv_lo q) (rsd_lo q) x y
theorem Mg.el5 {u : Int} {C : Prop} (h : Mg 50 u) (a : (∀ p, sv p u = u) → rsd u = -u → -30 ≤ u → u ≤ 30 → C)
   (b : (∀ p, sv p u = u - p) → rsd u = -u + 1 → 31950 ≤ u → u ≤ 32000 → C) (c : (∀ p, sv p u = u + p) → rsd u = -u - 1 → -32000 ≤ u → u ≤ -31950 → C) : C := h.el (Nat.le_refl _) a b c
theorem Mg.rsd {k : Nat} {u : Int} (h : Mg k u) (hk : k ≤ 50) : Mg (k + 1) (rsd u) :=
 h.el hk (fun _ r x y => r ▸ .inl ⟨Int.neg_le_neg y, Int.neg_le_neg x⟩) (fun _ r x y => r ▸ .inr (.inr ⟨by lia, by lia⟩)) (fun _ r x y => r ▸ .inr (.inl ⟨by lia, by lia⟩))
theorem sv_up {p a b : Int} (ha : Mg 50 a) (hb : Mg 50 b) (h0 : 0 ≤ p) (h1 : p ≤ 50) (h : a < b) : sv p a < sv p b :=
 ha.el5 (fun s _ x y => hb.el5 (fun t _ x' y' => by rw [s, t]; exact h) (fun t _ x' y' => by rw [s, t]; exact tr_lt 30 y (lt_tr 31900 (by decide) (Int.sub_le_sub x' h1))) (fun t _ x' y' => absurd (Int.lt_trans h (tr_lt _ y' (lt_tr (-30) (by decide) x))) (Int.lt_irrefl _)))
   (fun s _ x y => hb.el5 (fun t _ x' y' => absurd (Int.lt_trans h (tr_lt _ y' (lt_tr 31950 (by decide) x))) (Int.lt_irrefl _)) (fun t _ x' y' => by rw [s, t]; exact Int.sub_lt_sub_right h p) (fun t _ x' y' => absurd (Int.lt_trans h (tr_lt _ y' (lt_tr 31950 (by decide) x))) (Int.lt_irrefl _)))
   fun s _ x y => have z := Int.add_le_add y h1
     hb.el5 (fun t _ x' y' => by rw [s, t]; exact tr_lt _ z (lt_tr (-30) (by decide) x')) (fun t _ x' y' => by rw [s, t]; exact tr_lt _ z (lt_tr 31900 (by decide) (Int.sub_le_sub x' h1))) (fun t _ x' y' => by rw [s, t]; exact Int.add_lt_add_right h p)
theorem sv_le {p a b : Int} (ha : Mg 50 a) (hb : Mg 50 b) (h0 : 0 ≤ p) (h1 : p ≤ 50) : sv p a ≤ sv p b ↔ a ≤ b :=
 ⟨fun h => Int.not_lt.mp fun z => Int.not_lt.mpr h (sv_up hb ha h0 h1 z), fun h => (Int.lt_or_eq_of_le h).elim (fun z => Int.le_of_lt (sv_up ha hb h0 h1 z)) fun z => z ▸ Int.le_refl _⟩
theorem sv_lt {p a b : Int} (ha : Mg 50 a) (hb : Mg 50 b) (h0 : 0 ≤ p) (h1 : p ≤ 50) : sv p a < sv p b ↔ a < b :=
 ⟨fun h => Int.not_le.mp fun z => Int.not_le.mpr h ((sv_le hb ha h0 h1).mpr z), sv_up ha hb h0 h1⟩
theorem sv_inj {p a b : Int} (ha : Mg 50 a) (hb : Mg 50 b) (h0 : 0 ≤ p) (h1 : p ≤ 50) (h : sv p a = sv p b) : a = b :=
 Int.le_antisymm ((sv_le ha hb h0 h1).mp (Int.le_of_eq h)) ((sv_le hb ha h0 h1).mp (Int.le_of_eq h.symm))
theorem sv_neg {p u : Int} (h : Mg 50 u) (h0 : 0 ≤ p) (h1 : p ≤ 50) : -sv (p + 1) u = sv p (rsd u) :=
 h.el5 (fun s r x y => by rw [s, r, sv_mid (lt_tr (-30) (by decide) (Int.neg_le_neg y)) (tr_lt 30 (Int.neg_le_neg x) (by decide))])
   (fun s r x y => by rw [s, r, sv_lo (by lia)]; lia) (fun s r x y => by rw [s, r, sv_hi (by lia)]; lia)
theorem rsd_le {a b : Int} (ha : Mg 50 a) (hb : Mg 50 b) (h : a ≤ b) : rsd b ≤ rsd a :=
 have q := Int.neg_le_neg h
 ha.el5 (fun _ s x y => hb.el5 (fun _ t x' y' => by rw [s, t]; exact q) (fun _ t x' y' => by rw [s, t]; lia) (fun _ t x' y' => absurd (le_tr _ h y') (Int.not_le.mpr (lt_tr (-30) (by decide) x))))
   (fun _ s x y => hb.el5 (fun _ t x' y' => absurd (le_tr _ h y') (Int.not_le.mpr (lt_tr 31950 (by decide) x))) (fun _ t x' y' => by rw [s, t]; exact Int.add_le_add_right q 1) (fun _ t x' y' => absurd (le_tr _ h y') (Int.not_le.mpr (lt_tr 31950 (by decide) x))))
   (fun _ s x y => hb.el5 (fun _ t x' y' => by rw [s, t]; lia) (fun _ t x' y' => by rw [s, t]; lia) (fun _ t x' y' => by rw [s, t]; exact Int.sub_le_sub_right q 1))
theorem toT_sv {p u : Int} (h : Mg 50 u) (h0 : 0 ≤ p) (h1 : p ≤ 50) : toT (sv p u) p = u :=
 h.el5 (fun s _ x y => by rw [s]; exact (if_neg (by lia)).trans (if_neg (by lia))) (fun s _ x y => by rw [s]; exact (if_pos (by lia)).trans (Int.sub_add_cancel ..)) (fun s _ x y => by rw [s]; exact (if_neg (by lia)).trans ((if_pos (by lia)).trans (Int.add_sub_cancel ..)))
theorem fromT_sv {p u : Int} (h : Mg 50 u) (h0 : 0 ≤ p) (h1 : p ≤ 50) : fromT u p = sv p u :=
 h.el5 (fun s _ x y => by rw [s]; exact (if_neg (by lia)).trans (if_neg (by lia))) (fun s _ x y => by rw [s]; exact if_pos (by lia)) (fun s _ x y => by rw [s]; exact (if_neg (by lia)).trans (if_pos (by lia)))
theorem sv_small {p u : Int} (h : Mg 50 u) (h0 : 0 ≤ p) (h1 : p ≤ 50) : -32000 ≤ sv p u ∧ sv p u ≤ 32000 ∧ p - 32000 ≤ sv p u :=
 have q : p - 32000 ≤ -31950 := Int.sub_le_sub_right h1 32000
 h.el5 (fun s _ x y => by rw [s]; exact ⟨le_tr (-30) (by decide) x, le_tr 30 y (by decide), le_tr _ q (le_tr (-30) (by decide) x)⟩)
   (fun s _ x y => by rw [s]; exact have z : 31900 ≤ u - p := Int.sub_le_sub x h1
     ⟨le_tr 31900 (by decide) z, le_tr u (Int.sub_le_self _ h0) y, le_tr _ q (le_tr 31900 (by decide) z)⟩)
   (fun s _ x y => by rw [s]; exact have z : -32000 + p ≤ u + p := Int.add_le_add_right x p
     ⟨le_tr u x (Int.le_add_of_nonneg_right h0), le_tr (-31950 + 50) (Int.add_le_add y h1) (by decide), show p + -32000 ≤ u + p from Int.add_comm (-32000) p ▸ z⟩)
theorem sv0 {u : Int} : sv 0 u = u := by
 unfold sv; split
 · exact Int.sub_zero u
 · split
   · exact Int.add_zero u
   · rfl
noncomputable def T (ply : Int) (k : Nat) (alpha beta v D : Int) : Prop := ∃ u, v = sv ply u ∧ Mg k u ∧ (v ≤ alpha → D ≤ u) ∧ (beta ≤ v → u ≤ D) ∧ (alpha < v → v < beta → u = D)
theorem T.neg {p : Int} {k : Nat} {alpha beta v D : Int} (h : T (p + 1) k (-beta) (-alpha) v D) (hk : k ≤ 40) (hD : Mg 40 D) (h0 : 0 ≤ p) (h1 : p ≤ 40) : T p (k + 1) alpha beta (-v) (rsd D) := by
 revert h; refine xE1 fun u => aE2 fun oy0 oy1 => ?_; obtain rfl := oy0; revert oy1; refine aE4 fun hm a b c => ?_
 have hu : Mg 50 u := hm.up (Nat.le_trans hk (by decide))
 have hd : Mg 50 D := hD.up (by decide)
 have h1' : p ≤ 50 := le_tr 40 h1 (by decide)
 exact ⟨rsd u, sv_neg hu h0 h1', hm.rsd (Nat.le_trans hk (by decide)), fun h => rsd_le hu hd (b (Int.neg_le_of_neg_le h)), fun h => rsd_le hd hu (a (Int.le_neg_of_le_neg h)), fun x y => by rw [c (Int.neg_lt_of_neg_lt y) (Int.lt_neg_of_lt_neg x)]⟩
inductive Lp (p : Int) (k : Nat) (alpha0 beta : Int) : Int → Int → List Int → Prop
 | empty : Lp p k alpha0 beta (-32001) alpha0 []
 | some {ub : Int} {cs : List Int} : Mg k ub → sv p ub < beta → (∀ c ∈ cs, c ≤ ub) → (alpha0 < sv p ub → ub ∈ cs) → cs ≠ [] → Lp p k alpha0 beta (sv p ub) (max alpha0 (sv p ub)) cs
theorem Lp.lt {p : Int} {k : Nat} {alpha0 beta best alpha : Int} {cs : List Int} (L : Lp p k alpha0 beta best alpha cs) (h : alpha0 < beta) : alpha < beta ∧ alpha0 ≤ alpha := by
 cases L with
 | empty => exact ⟨h, Int.le_refl _⟩
 | some a b => exact ⟨Int.max_lt.mpr ⟨h, b⟩, Int.le_max_left ..⟩
set_option tactic.hygienic true in
theorem ifmax {a b : Int} : (if a < b then b else a) = max a b := by
 split
 · rename_i h; exact (Int.max_eq_right (Int.le_of_lt h)).symm
 · rename_i h; exact (Int.max_eq_left (Int.not_lt.mp h)).symm
set_option tactic.hygienic true in
theorem Lp.step {p : Int} {k : Nat} {alpha0 beta best alpha v R : Int} {cs : List Int} (L : Lp p k alpha0 beta best alpha cs) (hk : k ≤ 50) (h0 : 0 ≤ p) (h1 : p ≤ 50) (t : T p k alpha beta v R) (hv : v < beta) :
   Lp p k alpha0 beta (if best < v then v else best) (if alpha < v then v else alpha) (cs ++ [R]) := by
 revert t; refine xE1 fun u => aE2 fun oy0 oy1 => ?_; obtain rfl := oy0; revert oy1; refine aE4 fun hm a b c => ?_
 have hu := hm.up hk
 have hc : R ≤ u := (Int.lt_or_le alpha (sv p u)).elim (fun z => Int.le_of_eq (c z hv).symm) a
 have he : alpha < sv p u → u ∈ cs ++ [R] := fun z => by rw [c z hv]; exact List.mem_append_right _ (.head _)
 rw [ifmax (a := alpha)]
 cases L with
 | empty =>
   rw [if_pos (lt_tr _ (by decide) (sv_small hu h0 h1).1)]
   exact .some hm hv (fun x hx => List.mem_singleton.mp hx ▸ hc) he (List.cons_ne_nil _ _)
 | @some ub cs m1 m2 m3 m4 m5 =>
   have key := sv_lt (m1.up hk) hu h0 h1
   split
   · rename_i hlt
     rw [Int.max_assoc, Int.max_eq_right (Int.le_of_lt hlt)]
     refine .some hm hv (fun x hx => ?_) (fun h => he (Int.max_lt.mpr ⟨h, hlt⟩)) (fun z => List.cons_ne_nil _ _ (List.append_eq_nil_iff.mp z).2)
     rcases List.mem_append.mp hx with hx | hx
     · exact le_tr _ (m3 x hx) (Int.le_of_lt (key.mp hlt))
     · exact List.mem_singleton.mp hx ▸ hc
   · rename_i hge
     have hge := Int.not_lt.mp hge
     rw [Int.max_eq_left (le_tr _ hge (Int.le_max_right ..))]
     refine .some m1 m2 (fun x hx => ?_) (fun h => List.mem_append_left _ (m4 h)) (fun z => List.cons_ne_nil _ _ (List.append_eq_nil_iff.mp z).2)
     rcases List.mem_append.mp hx with hx | hx
     · exact m3 x hx
     · exact List.mem_singleton.mp hx ▸ le_tr _ hc (Int.not_lt.mp fun z => Int.not_lt.mpr hge (key.mpr z))
theorem Lp.done {p : Int} {k : Nat} {alpha0 beta best alpha D : Int} {cs : List Int} (L : Lp p k alpha0 beta best alpha cs) (hne : cs ≠ []) (h1 : ∀ c ∈ cs, c ≤ D) (h2 : D ∈ cs) : T p k alpha0 beta best D := by
 cases L with
 | empty => exact absurd rfl hne
 | @some ub cs m1 m2 m3 m4 m5 =>
   exact ⟨ub, rfl, m1, fun _ => m3 D h2, fun h => absurd m2 (Int.not_lt.mpr h), fun a b => Int.le_antisymm (h1 ub (m4 a)) (m3 D h2)⟩
theorem Lp.perm {p : Int} {k : Nat} {alpha0 beta best alpha : Int} {cs ds : List Int} (L : Lp p k alpha0 beta best alpha cs) (h : cs.Perm ds) : Lp p k alpha0 beta best alpha ds := by
 cases L with
 | empty => cases h.nil_eq; exact .empty
 | some m1 m2 m3 m4 m5 => exact .some m1 m2 (fun x hx => m3 x (h.mem_iff.mpr hx)) (fun z => h.mem_iff.mp (m4 z)) (fun z => m5 (by rw [z] at h; exact h.eq_nil))
noncomputable def mxl : List Int → Int
 | [] => 0
 | x :: xs => xs.foldl max x
theorem foldl_ge : ∀ (xs : List Int) (x : Int), x ≤ xs.foldl max x ∧ ∀ y ∈ xs, y ≤ xs.foldl max x
 | [], x => ⟨Int.le_refl _, fun _ h => nomatch h⟩
 | a :: xs, x => by
   obtain ⟨h1, h2⟩ := foldl_ge xs (max x a)
   rw [List.foldl_cons]
   refine ⟨le_tr _ (Int.le_max_left x a) h1, fun y hy => ?_⟩
   rcases List.mem_cons.mp hy with rfl | hy
   · exact le_tr _ (Int.le_max_right x y) h1
   · exact h2 y hy
theorem foldl_in : ∀ (xs : List Int) (x : Int), xs.foldl max x = x ∨ xs.foldl max x ∈ xs
 | [], x => .inl rfl
 | a :: xs, x => by
   rw [List.foldl_cons]
   rcases foldl_in xs (max x a) with h | h
   · rcases Int.le_total x a with q | q
     · rw [h, Int.max_eq_right q]; exact .inr (.head _)
     · rw [h, Int.max_eq_left q]; exact .inl rfl
   · exact .inr (.tail _ h)
theorem mxl_ge {l : List Int} {x : Int} (h : x ∈ l) : x ≤ mxl l := by
 cases l with
 | nil => cases h
 | cons a l =>
   rcases List.mem_cons.mp h with rfl | h
   · exact (foldl_ge l x).1
   · exact (foldl_ge l a).2 x h
theorem mxl_in {l : List Int} (h : l ≠ []) : mxl l ∈ l := by
 cases l with
 | nil => exact absurd rfl h
 | cons a l =>
   rcases foldl_in l a with q | q
   · show List.foldl max a l ∈ _; rw [q]; exact .head _
   · exact .tail _ q
theorem mxl_all {P : Int → Prop} {f : Int → Int} {l : List Int} (h : l ≠ []) (k : ∀ m ∈ l, P (f m)) : P (mxl (l.map f)) := by
 refine (xE1 fun m => aE2 fun hm e => ?_) (List.mem_map.mp (mxl_in (l := l.map f) (mt List.map_eq_nil_iff.mp h)))
 rw [← e]; exact k m hm
noncomputable def Wd.mvs (w : Wd) (pl : Nat) : List Int := rngItems 1 ((w.ways pl).length + 1) 1
noncomputable def Wd.kid (w : Wd) (pl : Nat) (m : Int) : Nat := (w.ways pl).getD (m - 1).toNat 0
noncomputable def Wd.isN (w : Wd) (pl : Nat) (m : Int) : Bool := (w.nsy pl).getD (m - 1).toNat false
noncomputable def Wd.loud (w : Wd) (pl : Nat) : List Int := (w.mvs pl).filter (w.isN pl)
noncomputable def qv (w : Wd) : Nat → Nat → Int
 | 0, pl => if 0 < pl ∧ w.drw pl = true then 0 else if w.chk pl = true ∧ w.ways pl = [] then -32000 else w.val pl
 | k + 1, pl => if 0 < pl ∧ w.drw pl = true then 0 else
     if w.chk pl = true then (if w.ways pl = [] then -32000 else mxl ((w.mvs pl).map fun m => rsd (qv w k (w.kid pl m))))
     else mxl (w.val pl :: (w.loud pl).map fun m => rsd (qv w k (w.kid pl m)))
noncomputable def dv (w : Wd) (P : Nat) : Nat → Nat → Int
 | 0, pl => qv w P pl
 | d + 1, pl => if 0 < pl ∧ w.drw pl = true then 0 else if w.ways pl = [] then (if w.chk pl = true then -32000 else 0)
     else mxl ((w.mvs pl).map fun m => rsd (dv w P d (w.kid pl m)))
theorem mvs_mem {w : Wd} {pl : Nat} {m : Int} (h : m ∈ w.mvs pl) : 1 ≤ m ∧ m ≤ (w.ways pl).length := by
 have := rng_mem h; lia
theorem rngFrom_len : ∀ (n : Nat) (c a : Int), (rngFrom c n a).length = n
 | 0, _, _ => rfl
 | n + 1, c, a => by simp [rngFrom, rngFrom_len n]
theorem mvs_len {w : Wd} {pl : Nat} : (w.mvs pl).length = (w.ways pl).length := by
 unfold Wd.mvs rngItems rngSize
 rw [rngFrom_len, if_pos (by decide)]; lia
theorem mvs_ne {w : Wd} {pl : Nat} (h : w.ways pl ≠ []) : w.mvs pl ≠ [] := by
 intro z
 have := mvs_len (w := w) (pl := pl)
 rw [z] at this
 exact h (List.length_eq_zero_iff.mp this.symm)
theorem kid_get {w : Wd} {pl : Nat} {m : Int} (h1 : 1 ≤ m) (h2 : m ≤ (w.ways pl).length) : (w.ways pl)[(m - 1).toNat]? = some (w.kid pl m) := by
 unfold Wd.kid
 have hi : (m - 1).toNat < (w.ways pl).length := by omega
 rw [List.getD_eq_getElem?_getD, List.getElem?_eq_getElem hi]; rfl
theorem kid_up {w : Wd} (hw : w.Ok) {pl : Nat} (hpl : pl < w.n) {m : Int} (h1 : 1 ≤ m) (h2 : m ≤ (w.ways pl).length) : pl < w.kid pl m ∧ w.kid pl m < w.n :=
 hw.up pl hpl _ (List.mem_of_getElem? (kid_get h1 h2))
theorem mg0 {k : Nat} : Mg k 0 := .inl ⟨by decide, by decide⟩
theorem mgl {k : Nat} : Mg k (-32000) := .inr (.inr ⟨Int.le_refl _, Int.le_sub_right_of_add_le (Int.natCast_nonneg k)⟩)
set_option tactic.hygienic true in
theorem qv_mg {w : Wd} (hw : w.Ok) : ∀ (k pl : Nat), pl < w.n → k ≤ 20 → Mg (k + 3) (qv w k pl)
 | 0, pl, hpl, hk => by
   unfold qv
   split
   · exact mg0
   · split
     · exact mgl
     · exact .inl (hw.sml pl hpl)
 | k + 1, pl, hpl, hk => by
   have kids : ∀ m ∈ w.mvs pl, Mg (k + 1 + 3) (rsd (qv w k (w.kid pl m))) := fun m hm => by
     obtain ⟨a, b⟩ := mvs_mem hm
     exact (qv_mg hw k _ (kid_up hw hpl a b).2 (Nat.le_of_succ_le hk)).rsd (Nat.le_trans (Nat.add_le_add_right hk 2) (by decide))
   unfold qv
   split
   · exact mg0
   · split
     · split
       · exact mgl
       · rename_i hne
         exact mxl_all (P := Mg _) (mvs_ne hne) kids
     · rcases List.mem_cons.mp (mxl_in (List.cons_ne_nil _ _)) with e | hin
       · rw [e]; exact .inl (hw.sml pl hpl)
       · refine (xE1 fun m => aE2 fun hm e => ?_) (List.mem_map.mp hin)
         rw [← e]; exact kids m (List.mem_filter.mp hm).1
set_option tactic.hygienic true in
theorem dv_mg {w : Wd} (hw : w.Ok) {P : Nat} (hP : P ≤ 2) : ∀ (d pl : Nat), pl < w.n → d ≤ 20 → Mg (d + 5) (dv w P d pl)
 | 0, pl, hpl, hk => (qv_mg hw P pl hpl (Nat.le_trans hP (by decide))).up (Nat.add_le_add_right hP 3)
 | d + 1, pl, hpl, hk => by
   unfold dv
   split
   · exact mg0
   · split
     · split
       · exact mgl
       · exact mg0
     · rename_i hne
       refine mxl_all (P := Mg _) (mvs_ne hne) fun m hm => ?_
       obtain ⟨a, b⟩ := mvs_mem hm
       exact (dv_mg hw hP d _ (kid_up hw hpl a b).2 (Nat.le_of_succ_le hk)).rsd (Nat.le_trans (Nat.add_le_add_right hk 4) (by decide))
theorem mgh {k : Nat} (h : 1 ≤ k) : Mg k 31999 := .inr (.inl ⟨by lia, by decide⟩)
theorem Mg.bd {k : Nat} {u : Int} (h : Mg k u) (hk : k ≤ 50) : -32000 ≤ u ∧ u ≤ 32000 :=
 h.el hk (fun _ _ x y => ⟨le_tr (-30) (by decide) x, le_tr 30 y (by decide)⟩) (fun _ _ x y => ⟨by lia, y⟩) (fun _ _ x y => ⟨x, by lia⟩)
theorem rsd_lt {k : Nat} {u : Int} (h : Mg k u) (hk : k ≤ 50) : rsd u ≤ 31999 :=
 h.el hk (fun _ r x y => r ▸ le_tr 30 (Int.neg_le_neg x) (by decide)) (fun _ r x y => r ▸ by lia) (fun _ r x y => r ▸ Int.sub_le_sub_right (Int.neg_le_neg x) 1)
theorem rsd_top {k : Nat} {u : Int} (h : Mg k u) (hk : k ≤ 50) (h' : 31999 ≤ rsd u) : u = -32000 :=
 h.el hk (fun _ r x y => by rw [r] at h'; lia) (fun _ r x y => by rw [r] at h'; lia) (fun _ r x y => by rw [r] at h'; lia)
theorem rsd_gt {k : Nat} {u : Int} (h : Mg k u) (hk : k ≤ 50) : -32000 < rsd u :=
 h.el hk (fun _ r x y => r ▸ lt_tr (-30) (by decide) (Int.neg_le_neg y)) (fun _ r x y => r ▸ lt_tr (-32000 + 1) (by decide) (Int.add_le_add_right (Int.neg_le_neg y) 1)) (fun _ r x y => r ▸ by lia)
set_option tactic.hygienic true in
theorem qv_mate {w : Wd} (hw : w.Ok) {k pl : Nat} (hpl : pl < w.n) (hk : k ≤ 20) (h : qv w k pl = -32000) : w.ways pl = [] := by
 have hv : -32000 < w.val pl := lt_tr (-30) (by decide) (hw.sml pl hpl).1
 cases k with
 | zero =>
   unfold qv at h
   split at h
   · cases h
   · split at h
     · rename_i c; exact c.2
     · exact absurd h (Int.ne_of_gt hv)
 | succ k =>
   unfold qv at h
   split at h
   · cases h
   · split at h
     · split at h
       · assumption
       · rename_i hne
         refine absurd h (Int.ne_of_gt (mxl_all (P := (-32000 < ·)) (mvs_ne hne) fun m hm => ?_))
         obtain ⟨a, b⟩ := mvs_mem hm
         exact (rsd_gt (qv_mg hw k _ (kid_up hw hpl a b).2 (Nat.le_of_succ_le hk)) (Nat.le_trans (Nat.add_le_add_right hk 2) (by decide)))
     · exact absurd h (Int.ne_of_gt (lt_tr (w.val pl) hv (mxl_ge (.head _))))
set_option tactic.hygienic true in
theorem dv_mate {w : Wd} (hw : w.Ok) {P d pl : Nat} (hP : P ≤ 2) (hpl : pl < w.n) (hd : d ≤ 20) (h : dv w P d pl = -32000) : w.ways pl = [] := by
 cases d with
 | zero => exact qv_mate hw hpl (Nat.le_trans hP (by decide)) h
 | succ d =>
   unfold dv at h
   split at h
   · cases h
   · split at h
     · assumption
     · rename_i hne
       refine absurd h (Int.ne_of_gt (mxl_all (P := (-32000 < ·)) (mvs_ne hne) fun m hm => ?_))
       obtain ⟨a, b⟩ := mvs_mem hm
       exact rsd_gt (dv_mg hw hP d _ (kid_up hw hpl a b).2 (Nat.le_of_succ_le hd)) (Nat.le_trans (Nat.add_le_add_right hd 4) (by decide))
noncomputable def Leads (w : Wd) (P : Nat) : Nat → Nat → List Int → Int → Prop
 | d, pl, [], u => dv w P d pl = u
 | 0, _, _ :: _, _ => False
 | d + 1, pl, m :: l, u => ¬ (0 < pl ∧ w.drw pl = true) ∧ 1 ≤ m ∧ m ≤ (w.ways pl).length ∧ ∃ uc, Leads w P d (w.kid pl m) l uc ∧ u = rsd uc
section
variable {W : Wld} {r : Nat} {σ σ₀ σ' : AH} {Q : V → AH → Prop} {e : EA} {w : Wd} {v : Sv} {q : List Nat} {pl : Nat} {k k' : Pk}
theorem x_picker (H : IsK W) (hr : 3 ≤ r) (S : St σ e v) {mvA : Addr} {ml : List Int} (hm : σ mvA = some (.list (ml.map .int))) (hml : ml.length ≤ 100) {tm ply : Int} (hply : 0 ≤ ply)
   (h : ∀ σ' k, PkAt σ' e k → k.st = 0 → k.rem = ml → (∀ a, k.O a → σ a = Option.none) → (∀ a o, σ a = some o → σ' a = some o) → Q (.ref k.pk) σ') :
   CallSat W r (.fn "Picker") [.ref e.game, .ref mvA, .int tm, if e.hasK then .ref e.kil else .none, if e.hasK then .ref e.his else .none, .int ply] σ Q := by
 refine call_up hr fun r hr => call_cls (f_cls_Picker H) fun d x hd hx hdx => ?_
 have hm1 : ((σ.set d (.dict [])).set x (.inst "Picker" d)) mvA = some (.list (ml.map .int)) := by
   rw [set_ne (ne_of hx hm), set_ne (ne_of hd hm)]; exact hm
 have ex1 : ∀ a o, σ a = some o → ((σ.set d (.dict [])).set x (.inst "Picker" d)) a = some o := fun a o z => by
   rw [set_ne (ne_of hx z), set_ne (ne_of hd z)]; exact z
 have hx1 : ((σ.set d (.dict [])).set x (.inst "Picker" d)) x = some (.inst "Picker" d) := set_at
 have hd1 : ((σ.set d (.dict [])).set x (.inst "Picker" d)) d = some (.dict []) := by rw [set_ne hdx]; exact set_at
 generalize ((σ.set d (.dict [])).set x (.inst "Picker" d)) = σ₁ at *
 refine call_up hr fun r hr => call_def (fb_Picker___init__ H) rfl ?_
 unfold b_Picker___init__
 have nxd : x ≠ d := hdx.symm
 have mvd : mvA ≠ d := ne_of hd hm
 exists rsa hx1 hd1 ao_Picker_game, hm1
 rw [a_listOf (by rw [set_ne mvd]; exact hm1)]
 refine ⟨by decide, by rw [len_ints]; unfold sizeOk; lia, fun c1 hc1 => ?_⟩
 have c1d : c1 ≠ d := fun z => by rw [z, set_at] at hc1; cases hc1
 have hc1' : σ₁ c1 = Option.none := by rw [set_ne c1d] at hc1; exact hc1
 have xc1 : x ≠ c1 := ne_of hc1' hx1
 have y1 : ∀ o l, ((σ₁.set d o).set c1 l) x = some (.inst "Picker" d) := fun o l => by rw [set_ne xc1, set_ne nxd]; exact hx1
 exists rsa (y1 _ _) ((set_ne c1d.symm).trans set_at) ao_Picker_left, rsS (y1 _ _) nxd ao_Picker_table_move, rsS (y1 _ _) nxd ao_Picker_killers, rsS (y1 _ _) nxd ao_Picker_history, rsS (y1 _ _) nxd ao_Picker_ply, rsS (y1 _ _) nxd ao_Picker_stage
 refine ⟨by decide, by decide, by decide, by decide, by decide, by decide, by unfold sizeOk; decide, fun c2 hc2 => ?_⟩
 have c2d : c2 ≠ d := fun z => by rw [z, set_at] at hc2; cases hc2
 have c2c1 : c2 ≠ c1 := fun z => by rw [z] at hc2; simp [set_ne c1d, set_at] at hc2
 have hc2' : σ₁ c2 = Option.none := by simpa [set_ne c2d, set_ne c2c1] using hc2
 have xc2 : x ≠ c2 := ne_of hc2' hx1
 exists rsa ((set_ne xc2).trans ((set_ne nxd).trans (y1 _ _))) ((set_ne c2d.symm).trans set_at) ao_Picker_ready
 refine ⟨by decide, by unfold sizeOk; decide, fun c3 hc3 => ?_⟩
 have c3d : c3 ≠ d := fun z => by rw [z, set_at] at hc3; cases hc3
 have c3c2 : c3 ≠ c2 := fun z => by rw [z] at hc3; simp [set_ne c2d, set_at] at hc3
 have c3c1 : c3 ≠ c1 := fun z => by rw [z] at hc3; simp [set_ne c1d, set_ne c2c1.symm, set_at] at hc3
 have hc3' : σ₁ c3 = Option.none := by simpa [set_ne c3d, set_ne c3c2, set_ne c3c1] using hc3
 have xc3 : x ≠ c3 := ne_of hc3' hx1
 exists rsa ((set_ne xc3).trans ((set_ne nxd).trans ((set_ne xc2).trans ((set_ne nxd).trans (y1 _ _))))) ((set_ne c3d.symm).trans set_at) ao_Picker_losing
 refine ⟨by decide, ?_⟩
 have n0 : ∀ a, σ₁ a = Option.none → σ a = Option.none := fun a z => by
   cases hs : σ a with
   | none => rfl
   | some o => rw [ex1 a o hs] at z; cases z
 refine h _ { pk := x, pd := d, la := c1, ra := c2, ga := c3, tm := tm, ply := ply, st := 0, left := ml, ready := [], losing := [] } ⟨⟨?_, S.notD hx⟩, ⟨?_, S.notD hd⟩, ⟨?_, S.notD (n0 _ hc2')⟩, fun _ => ⟨⟨?_, S.notD (n0 _ hc1')⟩, c2c1.symm, c3c1.symm⟩, fun _ => ⟨⟨?_, S.notD (n0 _ hc3')⟩, c3c2.symm⟩, Nat.zero_le _, hply, ?_, ?_⟩ ?_ ?_ ?_ ?_
 · simp [set_ne nxd, set_ne xc1, set_ne xc2, set_ne xc3, hx1]
 · rw [set_at]; rfl
 · simp [set_ne c2d, set_ne c3c2.symm, set_at]
 · simp [set_ne c1d, set_ne c3c1.symm, set_ne c2c1.symm, set_at]
 · simp [set_ne c3d, set_at]
 · rintro a (rfl | rfl | rfl | rfl)
   · exact S.notD hd
   · exact S.notD (n0 _ hc1')
   · exact S.notD (n0 _ hc2')
   · exact S.notD (n0 _ hc3')
 · rintro a (rfl | rfl | rfl | rfl) <;> repeat (first | exact ⟨_, set_at⟩ | apply ex_set)
 · rfl
 · unfold Pk.rem; simp
 · rintro a (rfl | rfl | rfl | rfl)
   · exact hd
   · exact n0 _ hc1'
   · exact n0 _ hc2'
   · exact n0 _ hc3'
 · intro a o z
   have z1 := ex1 a o z
   rw [set_ne (ne_of hd z), set_ne (ne_of hc3' z1), set_ne (ne_of hd z), set_ne (ne_of hc2' z1)]
   simp [set_ne (ne_of hd z), set_ne (ne_of hc1' z1), z1]
end
structure Nd (w : Wd) (v : Sv) (q : List Nat) (pl : Nat) : Prop where
 pe : v.p = q ++ [pl]
 ql : q.length ≤ pl
 lt : pl < w.n
 root : q = [] → pl = 0
theorem Nd.kid {w : Wd} (hw : w.Ok) {v : Sv} {q : List Nat} {pl : Nat} (N : Nd w v q pl) {m : Int} (h1 : 1 ≤ m) (h2 : m ≤ (w.ways pl).length) {v' : Sv} (hv : v'.p = v.p ++ [w.kid pl m]) : Nd w v' (q ++ [pl]) (w.kid pl m) := by
 obtain ⟨a, b⟩ := kid_up hw N.lt h1 h2
 refine ⟨by rw [hv, N.pe], ?_, b, fun z => by simp at z⟩
 have := N.ql
 simp; lia
theorem Nd.small {w : Wd} (hw : w.Ok) {v : Sv} {q : List Nat} {pl : Nat} (N : Nd w v q pl) : q.length ≤ 7 := by
 have := N.ql; have := N.lt; have := hw.hi; lia
section
variable {W : Wld} {r : Nat} {σ σ₀ σ' : AH} {Q : V → AH → Prop} {e : EA} {w : Wd} {v : Sv} {q : List Nat} {pl : Nat} {k k' : Pk}
noncomputable def QuiOk (W : Wld) (e : EA) (w : Wd) (k r0 : Nat) : Prop := ∀ (r : Nat) (σ : AH) (v : Sv) (q : List Nat) (pl : Nat) (alpha beta : Int) (Q : V → AH → Prop), r0 ≤ r → Base σ e w → St σ e v → KOk e v → Nd w v q pl → alpha < beta →
 (∀ σ' n' val, Keep e.D σ σ' → St σ' e { v with nodes := n' } → T q.length (k + 3) alpha beta val (qv w k pl) → Q (.int val) σ') →
 CallSat W r (.fn "quiesce") [.ref e.ctx, .int alpha, .int beta, .int q.length, .int k] σ Q
theorem PkAt.keep (A : PkAt σ e k) (K : Keep e.D σ σ') : PkAt σ' e k :=
 ⟨A.pk.keep K, A.pd.keep K, A.ra.keep K, fun z => ⟨(A.la z).1.keep K, (A.la z).2⟩, fun z => ⟨(A.ga z).1.keep K, (A.ga z).2⟩, A.lt, A.ply, A.nd, fun a ha => let ⟨o, z⟩ := A.ex a ha; ⟨o, K a o (A.nd a ha) z⟩⟩
theorem x_quiesce_moves (H : IsK W) (hw : w.Ok) (C : e.Cf) {kq r0 : Nat} (hk : kq ≤ 10) (ih : QuiOk W e w kq r0) (h6 : 6 ≤ r0) (hr : r0 + 1 ≤ r) (B : Base σ e w) (S : St σ e v) (O : KOk e v) (N : Nd w v q pl) {mvA : Addr} {ml cs0 : List Int} {best alpha alpha0 beta D : Int}
   (hm : σ mvA = some (.list (ml.map .int))) (hml : ml.length ≤ 100) (hms : ∀ m ∈ ml, 1 ≤ m ∧ m ≤ (w.ways pl).length) (hab : alpha0 < beta) (L : Lp q.length (kq + 4) alpha0 beta best alpha cs0)
   (hne : cs0 ++ ml.map (fun m => rsd (qv w kq (w.kid pl m))) ≠ []) (hD1 : ∀ c ∈ cs0 ++ ml.map (fun m => rsd (qv w kq (w.kid pl m))), c ≤ D) (hD2 : D ∈ cs0 ++ ml.map (fun m => rsd (qv w kq (w.kid pl m))))
   (h : ∀ σ' n' val, Keep e.D σ σ' → St σ' e { v with nodes := n' } → T q.length (kq + 4) alpha0 beta val D → Q (.int val) σ') :
   CallSat W r (.fn "quiesce_moves") [.ref e.ctx, .ref mvA, .int best, .int alpha, .int beta, .int q.length, .int ((kq + 1 : Nat) : Int)] σ Q := by
 have hC := S.ctxd
 have hqs := N.small hw
 refine call_up (n := r0) hr fun r hr => call_def (fb_quiesce_moves H) rfl ?_
 unfold b_quiesce_moves
 exists fc_game B.ctx.1 hC, fc_table B.ctx.1 hC, fc_killers B.ctx.1 hC, fc_history B.ctx.1 hC, fc_qdepth B.ctx.1 hC, fc_is_exact B.ctx.1 hC, fc_max_nodes B.ctx.1 hC, fc_nodes B.ctx.1 hC, fc_made B.ctx.1 hC, fc_lines B.ctx.1 hC, rsa B.ctx.1 hC ao_SearchContext_nodes, rsa B.ctx.1 hC ao_SearchContext_made, os (B.ctx.1), os (hC), ctxF
 refine x_picker H (by first | exact rk hr rfl | lia) S hm hml (by lia) fun σ₁ k A hst hrem hO hex => ?_
 have K₁ : Keep e.D σ σ₁ := fun a o _ z => hex a o z
 have S₁ : St σ₁ e v := fun m a z => hex a _ (S m a z)
 exists os (a_inst A.pk.1 A.pd.1 mo_Picker_next (gi_pnext e k))
 have hrz : k.rem.length ≤ 100 := by rw [hrem]; exact hml
 have hrm : ∀ m ∈ k.rem, 1 ≤ m ∧ m ≤ (w.ways pl).length := by rw [hrem]; exact hms
 refine p_next H (by first | exact rk hr rfl | lia) hw C B K₁ S₁ O A hO N.pe (by lia) N.lt hrz hrm fun σ₂ k₂ mv A₂ Ow₂ hk₂ hmv K₂ S₂ hO₂ => ?_
 refine ⟨k.rem.length + 1, while_inv (fun n m' σ' => m' "ctx" = some (.ref e.ctx) ∧ m' "beta" = some (.int beta) ∧ m' "ply" = some (.int q.length) ∧ m' "qdepth" = some (.int ((kq + 1 : Nat) : Int)) ∧
     ∃ k' mv n' best alpha cs, m' "best" = some (.int best) ∧ m' "alpha" = some (.int alpha) ∧ m' "picker" = some (.ref k'.pk) ∧ m' "move" = some (.int mv) ∧ PkAt σ' e k' ∧ (∀ a, k'.O a → σ a = Option.none) ∧ Keep e.D σ σ' ∧ St σ' e { v with nodes := n' } ∧
     Lp q.length (kq + 4) alpha0 beta best alpha cs ∧
     ((mv = 0 ∧ cs.Perm (cs0 ++ ml.map fun m => rsd (qv w kq (w.kid pl m)))) ∨ (1 ≤ mv ∧ mv ≤ (w.ways pl).length ∧ k'.rem.length < n ∧ k'.rem.length ≤ 100 ∧ (∀ m ∈ k'.rem, 1 ≤ m ∧ m ≤ (w.ways pl).length) ∧ (cs ++ (mv :: k'.rem).map fun m => rsd (qv w kq (w.kid pl m))).Perm (cs0 ++ ml.map fun m => rsd (qv w kq (w.kid pl m)))))) ?_ k.rem.length ⟨?_, ?_, ?_, ?_, k₂, mv, v.nodes, best, alpha, cs0, ?_, ?_, ?_, ?_, A₂, hO₂, K₂, S₂, L, ?_⟩⟩
 · rintro n m' σ' oy0; revert oy0; refine aE5 fun g1 g2 g3 g4 => xE6 fun k' mv' n' best' alpha' cs => aE10 fun g5 g6 g7 g8 A' hO' K' S' L' hd => ?_; rintro K c1 c2 c3 c4
   exists os (g8)
   refine ⟨fun hne0 => ?_, fun h0 => ?_⟩
   · rcases hd with ⟨z, _⟩ | ⟨m1, m2, hn, hz', hm', hp'⟩
     · exact absurd z hne0
     have B' := B.keep K'
     exists os (g1), os (g8)
     refine x_step_into H (by first | exact rk hr rfl | lia) hw B' S' N.pe (by lia) N.lt m1 m2 fun c σ₃ hc B₃ S₃ K₃ => ?_
     have hcc : c = w.kid pl mv' := by have := kid_get m1 m2; rw [hc] at this; exact Option.some.inj this
     subst hcc
     exists os (g1), os (g2), os (g3), os (g4), os (g6)
     have e1 : ((q.length : Int) + 1) = ((q ++ [pl]).length : Nat) := by simp
     have e2 : ((kq + 1 : Nat) : Int) - 1 = (kq : Nat) := by lia
     rw [e1, e2]
     have Nk : Nd w { v with nodes := n', p := v.p ++ [w.kid pl mv'], made := v.made + 1 } (q ++ [pl]) (w.kid pl mv') := N.kid hw m1 m2 rfl
     refine ih r σ₃ _ _ _ _ _ _ (by lia) B₃ S₃ ⟨O.f, O.s, O.h⟩ Nk (by have := L'.lt hab; lia) fun σ₄ n₄ val K₄ S₄ t => ?_
     have B₄ := B₃.keep K₄
     exists os (g1)
     refine x_step_back H (by first | exact rk hr rfl | lia) B₄ S₄ (q := q ++ [pl]) (pl := w.kid pl mv') (by show v.p ++ _ = _; rw [N.pe]) (by simp; lia) (by simp) fun σ₅ B₅ S₅ K₅ => ?_
     have S₅' : St σ₅ e { v with nodes := n₄ } := by
       have e3 : v.made + 1 - 1 = v.made := by lia
       have : ({ v with nodes := n₄ } : Sv) = { v with nodes := n₄, p := q ++ [pl], made := v.made + 1 - 1 } := by rw [e3, ← N.pe]
       rw [this]; exact S₅
     have K35 := K₃.trans (K₄.trans K₅)
     have t' : T q.length (kq + 4) alpha' beta (-val) (rsd (qv w kq (w.kid pl mv'))) := by
       have : ((q ++ [pl]).length : Int) = q.length + 1 := by simp
       rw [this] at t
       exact t.neg (by lia) ((qv_mg hw kq _ (kid_up hw N.lt m1 m2).2 (by lia)).up (by lia)) (by lia) (by lia)
     have A₅ := A'.keep K35
     have K₅₀ := K'.trans K35
     have hpm : (cs ++ [rsd (qv w kq (w.kid pl mv'))] ++ k'.rem.map fun m => rsd (qv w kq (w.kid pl m))).Perm (cs0 ++ ml.map fun m => rsd (qv w kq (w.kid pl m))) := by
       rw [List.append_assoc]; exact hp'
     have tail : ∀ best'' alpha'' (m'' : Loc), m'' "ctx" = some (.ref e.ctx) → m'' "beta" = some (.int beta) → m'' "ply" = some (.int q.length) → m'' "qdepth" = some (.int ((kq + 1 : Nat) : Int)) → m'' "best" = some (.int best'') → m'' "alpha" = some (.int alpha'') →
         m'' "picker" = some (.ref k'.pk) → Lp q.length (kq + 4) alpha0 beta best'' alpha'' (cs ++ [rsd (qv w kq (w.kid pl mv'))]) → CallSat W r (.me "Picker" "next") [.ref k'.pk] σ₅ (fun v σ => K .next (m''.set "move" v) σ) := by
       intro best'' alpha'' m'' x1 x2 x3 x4 x5 x6 x7 L''
       refine p_next H (by first | exact rk hr rfl | lia) hw C B K₅₀ S₅' ⟨O.f, O.s, O.h⟩ A₅ hO' N.pe (by lia) N.lt hz' hm' fun σ₆ k₆ mv₆ A₆ Ow₆ hk₆ hmv₆ K₆ S₆ hO₆ => ?_
       cases n with
       | zero => lia
       | succ n =>
       refine c1 n _ _ rfl ⟨?_, ?_, ?_, ?_, k₆, mv₆, n₄, best'', alpha'', _, ?_, ?_, ?_, ?_, A₆, hO₆, K₆, S₆, L'', ?_⟩
       any_goals exists x1, x2, x3, x4, x5, x6, x7, hk₆
       rcases hmv₆ with ⟨z1, z2, _⟩ | z
       · refine .inl ⟨z1, ?_⟩
         rw [z2, List.map_nil, List.append_nil] at hpm
         exact hpm
       · have z' := hm' mv₆ (z.mem_iff.mpr (.head _))
         have zl := z.length_eq
         simp only [List.length_cons] at zl
         exact .inr ⟨z'.1, z'.2, by lia, by lia, fun m hm => hm' m (z.mem_iff.mpr (.tail _ hm)), (((z.map _).append_left _).symm.trans hpm)⟩
     exists os (g1), os (g2), os (g3), os (g4), os (g5), os (g6), os (g7), os (g8), os (a_inst A₅.pk.1 A₅.pd.1 mo_Picker_next (gi_pnext e k'))
     have st := fun hv => Lp.step L' (show kq + 4 ≤ 50 by lia) (show (0 : Int) ≤ q.length by lia) (show (q.length : Int) ≤ 50 by lia) t' hv
     have mx : ∀ a b : Int, max a b = if a < b then b else a := fun a b => by split <;> lia
     have lt' := L'.lt hab
     refine ⟨fun y1 => ⟨fun y2 => ?_, fun y2 => ?_⟩, fun y1 => ?_⟩
     · refine c4 _ _ _ ?_
       exists true_and
       refine h _ _ _ K₅₀ S₅' ?_
       revert t'; refine xE1 fun u => aE5 fun eu u1 u2 u3 u4 => ?_
       have hRD : rsd (qv w kq (w.kid pl mv')) ≤ D := hD1 _ (hpm.mem_iff.mp (by simp))
       have := u3 y2
       exact ⟨u, eu, u1, fun z => by lia, fun _ => by lia, fun _ z => by lia⟩
     · have st' := st (by lia)
       rw [if_pos y1, ← mx] at st'
       refine tail (-val) (max alpha' (-val)) _ ?_ ?_ ?_ ?_ ?_ ?_ ?_ st'
       all_goals exists g1, g2, g3, g4, g5, g6, g7, g8
     · have hvb : -val < beta := by
         cases L' with
         | empty =>
           revert t'; refine xE1 fun u => aE3 fun eu u1 _ => ?_
           have := sv_small (u1.up (show kq + 4 ≤ 50 by lia)) (show (0 : Int) ≤ q.length by lia) (show (q.length : Int) ≤ 50 by lia)
           lia
         | some _ z => lia
       have st' := st hvb
       have z : ¬ alpha' < -val := by
         intro z
         cases L' with
         | empty =>
           revert t'; refine xE1 fun u => aE3 fun eu u1 _ => ?_
           have := sv_small (u1.up (show kq + 4 ≤ 50 by lia)) (show (0 : Int) ≤ q.length by lia) (show (q.length : Int) ≤ 50 by lia)
           lia
         | some _ z => lia
       rw [if_neg y1, if_neg z] at st'
       refine tail best' alpha' _ ?_ ?_ ?_ ?_ ?_ ?_ ?_ st'
       all_goals exists g1, g2, g3, g4, g5, g6, g7, g8
   · rcases hd with ⟨_, hp'⟩ | ⟨z, _⟩
     · exists g5
       exact h _ _ _ K' S' ((L'.perm hp').done hne hD1 hD2)
     · lia
 all_goals try (exists true_and; done)
 · exists hk₂
 · rcases hmv with ⟨z1, z2, _⟩ | z
   · rw [hrem] at z2; subst z2
     exact .inl ⟨z1, by simp⟩
   · have z' := hrm mv (z.mem_iff.mpr (.head _))
     have zl := z.length_eq
     simp only [List.length_cons] at zl
     rw [hrem] at z
     exact .inr ⟨z'.1, z'.2, by lia, by lia, fun m hm => hrm m (by rw [hrem]; exact z.mem_iff.mpr (.tail _ hm)), (z.map _).symm.append_left _⟩
end
section
variable {W : Wld} {r : Nat} {σ σ₀ σ' : AH} {Q : V → AH → Prop} {e : EA} {w : Wd} {v : Sv} {q : List Nat} {pl : Nat} {k k' : Pk}
theorem g_noisy (H : IsK W) (hr : 2 ≤ r) (hw : w.Ok) (B : Base σ e w) (S : St σ e v) (hp : v.p = q ++ [pl]) (hq : q.length ≤ 100) (hpl : pl < w.n)
   (h : ∀ σ' c, (∀ a o, σ a = some o → σ' a = some o) → σ' c = some (.list ((w.loud pl).map .int)) → Q (.ref c) σ') : CallSat W r (.me "TreeGame" "noisy") [.ref e.game] σ Q := by
 have hf := hw.few pl
 refine call_up hr fun r hr => call_def (fb_TreeGame_noisy H) rfl ?_
 unfold b_TreeGame_noisy
 exists os (a_inst B.game.1 B.gd.1 mo_TreeGame_moves (gi_moves e))
 refine g_moves H (by first | exact rk hr rfl | lia) hw B S hp hq hpl fun c hc => ?_
 have K₁ : Keep e.D σ (σ.set c (.list ((w.mvs pl).map .int))) := .new hc
 have hml : (w.mvs pl).length ≤ 7 := by rw [mvs_len]; exact hf
 have e0 : rngItems 1 ((w.ways pl).length + 1) 1 = w.mvs pl := rfl
 rw [e0]
 have B₁ := B.keep K₁
 have S₁ := S.new hc (o := .list ((w.mvs pl).map .int))
 exists os (a_iter set_at)
 refine comp_inv (fun rest σ' acc => σ' = σ.set c (.list ((w.mvs pl).map .int)) ∧ ∃ ms dn : List Int, rest = ms.map .int ∧ acc = (dn.filter (w.isN pl)).map .int ∧ dn ++ ms = w.mvs pl) ?_ ?_ ?_ ?_ ?_
 · rintro rest σ' acc ⟨rfl, _⟩
   exact ⟨set_at, by simp; unfold sizeOk; lia⟩
 · rintro rest σ' acc oy0; revert oy0; refine aE2 fun oy1 oy2 => ?_; obtain rfl := oy1; revert oy2; refine xE2 fun ms dn => aE3 fun _ oy3 oy4 => ?_; obtain rfl := oy3; revert oy4; intro hh
   have := congrArg List.length hh
   have := List.length_filter_le (w.isN pl) dn
   simp only [List.length_append] at *
   simp; unfold sizeOk; lia
 · rintro σ' acc oy5; revert oy5; refine aE2 fun oy6 oy7 => ?_; obtain rfl := oy6; revert oy7; refine xE2 fun ms dn => aE3 fun em oy8 oy9 => ?_; obtain rfl := oy8; revert oy9; intro hh
   cases ms with
   | cons => cases em
   | nil =>
   intro d hd
   rw [List.append_nil] at hh
   subst hh
   exact h _ d (fun a o z => set_old (set_old z hc) hd) set_at
 · rintro v' rest σ' acc oy10; revert oy10; refine aE2 fun oy11 oy12 => ?_; obtain rfl := oy11; revert oy12; refine xE2 fun ms dn => aE3 fun em oy13 oy14 => ?_; obtain rfl := oy13; revert oy14; intro hh; rintro K k1 k2
   cases ms with
   | nil => cases em
   | cons mv ms =>
     cases em
     have hm := mvs_mem (w := w) (pl := pl) (m := mv) (by rw [← hh]; simp)
     exists os (a_inst B₁.game.1 B₁.gd.1 mo_TreeGame_is_noisy (gi_is_noisy e))
     refine g_is_noisy H (by first | exact rk hr rfl | lia) hw B₁ S₁ hp hq hpl hm.1 hm.2 fun b hb => ?_
     have hN : w.isN pl mv = b := by
       unfold Wd.isN; rw [List.getD_eq_getElem?_getD, hb]; rfl
     exists true_and
     refine ⟨fun z => k1 _ _ ⟨rfl, ms, dn ++ [mv], rfl, ?_, by rw [← hh]; simp⟩, fun z => k2 _ ⟨rfl, ms, dn ++ [mv], rfl, ?_, by rw [← hh]; simp⟩⟩
     · rw [List.filter_append, List.filter_cons, hN, z]; simp
     · rw [List.filter_append, List.filter_cons, hN, z]; simp
 · exact ⟨rfl, w.mvs pl, [], rfl, rfl, rfl⟩
theorem x_quiesce1 (H : IsK W) (hw : w.Ok) (C : e.Cf) (kq : Nat) (hk : kq ≤ 10) (ih : ∀ j, kq = j + 1 → QuiOk W e w j (8 + 2 * j)) : QuiOk W e w kq (8 + 2 * kq) := by
 intro r σ v q pl alpha beta Q hr B S O N hab h
 have hqs := N.small hw
 have hql := N.ql
 have hv := hw.sml pl N.lt
 have hC := S.ctxd
 have hml : (w.mvs pl).length ≤ 7 := by rw [mvs_len]; exact hw.few pl
 refine call_up (n := 7 + 2 * kq) (by lia) fun r hr => call_def (fb_quiesce H) rfl ?_
 unfold b_quiesce
 exists os (a_inst B.ctx.1 hC mo_SearchContext_tick (gi_tick e _ _))
 refine x_tick H (by first | exact rk hr rfl | lia) B S fun σ₁ B₁ S₁ K₁ => ?_
 have hC₁ := S₁.ctxd
 exists fc_game B₁.ctx.1 hC₁, fc_table B₁.ctx.1 hC₁, fc_killers B₁.ctx.1 hC₁, fc_history B₁.ctx.1 hC₁, fc_qdepth B₁.ctx.1 hC₁, fc_is_exact B₁.ctx.1 hC₁, fc_max_nodes B₁.ctx.1 hC₁, fc_nodes B₁.ctx.1 hC₁, fc_made B₁.ctx.1 hC₁, fc_lines B₁.ctx.1 hC₁, rsa B₁.ctx.1 hC₁ ao_SearchContext_nodes, rsa B₁.ctx.1 hC₁ ao_SearchContext_made, os (B₁.ctx.1), os (hC₁), ctxF, os (a_inst B₁.game.1 B₁.gd.1 mo_TreeGame_is_draw (gi_is_draw e)), os (a_inst B₁.game.1 B₁.gd.1 mo_TreeGame_in_check (gi_in_check e))
 have fin : ∀ σ' val u, Keep e.D σ₁ σ' → St σ' e { v with nodes := v.nodes + 1 } → val = sv q.length u → Mg (kq + 3) u → u = qv w kq pl → Q (.int val) σ' := fun σ' val u K S h1 h2 h3 => h _ _ _ (K₁.trans K) S ⟨u, h1, h2, fun _ => by lia, fun _ => by lia, fun _ _ => h3⟩
 have svs : ∀ u : Int, -30 ≤ u → u ≤ 30 → u = sv q.length u := fun u a b => by unfold sv; split <;> (try split) <;> lia
 refine (fun (rest : ¬ (0 < pl ∧ w.drw pl = true) → _) => And.intro (fun c => g_is_draw H (by first | exact rk hr rfl | lia) hw B₁ S₁ N.pe (by lia) N.lt ?draw) (fun c => rest (fun z => ?nz))) ?rest
 case draw =>
   exists os (a_inst B₁.game.1 B₁.gd.1 mo_TreeGame_in_check (gi_in_check e))
   refine ⟨fun d => ?_, fun d => rest fun z => by rw [z.2] at d; cases d⟩
   refine fin _ 0 0 .refl S₁ (svs 0 (by decide) (by decide)) mg0 ?_
   unfold qv; cases kq <;> (dsimp only; rw [if_pos ⟨by lia, d⟩])
 case nz =>
   have : q = [] := by
     cases q with
     | nil => rfl
     | cons a b => exact absurd (show (0 : Int) < ((a :: b).length : Nat) by simp only [List.length_cons]; lia) c
   have := N.root this
   lia
 intro hnd
 refine g_in_check H (by first | exact rk hr rfl | lia) hw B₁ S₁ N.pe (by lia) N.lt ?_
 exists os (a_inst B₁.game.1 B₁.gd.1 mo_TreeGame_moves (gi_moves e)), os (a_inst B₁.game.1 B₁.gd.1 mo_TreeGame_value (gi_value e)), os (a_inst B₁.game.1 B₁.gd.1 mo_TreeGame_noisy (gi_noisy e))
 refine ⟨fun hc => ?_, fun hc => ?_⟩
 · refine g_moves H (by first | exact rk hr rfl | lia) hw B₁ S₁ N.pe (by lia) N.lt fun c hcf => ?_
   have e0 : rngItems 1 ((w.ways pl).length + 1) 1 = w.mvs pl := rfl
   rw [e0]
   have K₂ : Keep e.D σ₁ (σ₁.set c (.list ((w.mvs pl).map .int))) := .new hcf
   have B₂ := B₁.keep K₂
   have S₂ := S₁.new hcf (o := .list ((w.mvs pl).map .int))
   exists a_truth (set_at (σ := σ₁) (a := c) (o := .list ((w.mvs pl).map .int))), os (a_inst B₂.game.1 B₂.gd.1 mo_TreeGame_value (gi_value e))
   refine ⟨by simp; unfold sizeOk; lia, fun hemp => ?_, fun hne => ?_⟩
   · have hw0 : w.ways pl = [] := by
       have : w.mvs pl = [] := by simpa using hemp
       rw [← List.length_eq_zero_iff, ← mvs_len, this]; rfl
     refine k_mated_in H (by first | exact rk hr rfl | lia) (fin _ _ (-32000) K₂ S₂ ?_ mgl ?_)
     · unfold sv; split <;> (try split) <;> lia
     · unfold qv; cases kq with
       | zero => dsimp only; rw [if_neg hnd, if_pos ⟨hc, hw0⟩]
       | succ k => dsimp only; rw [if_neg hnd, if_pos hc, if_pos hw0]
   · have hw0 : w.ways pl ≠ [] := fun z => by
       have h0 : w.mvs pl = [] := by rw [← List.length_eq_zero_iff, mvs_len, z]; rfl
       rw [h0] at hne; simp at hne
     refine ⟨fun z => ?_, fun z => ?_⟩
     · have hk0 : kq = 0 := by lia
       refine g_value H (by first | exact rk hr rfl | lia) hw B₂ S₂ N.pe (by lia) N.lt ?_
       refine fin _ _ (w.val pl) K₂ S₂ (svs _ hv.1 hv.2) (.inl hv) ?_
       subst hk0
       unfold qv; rw [if_neg hnd, if_neg (fun z => hw0 z.2)]
     · obtain ⟨j, rfl⟩ : ∃ j, kq = j + 1 := ⟨kq - 1, by lia⟩
       have hD : qv w (j + 1) pl = mxl ((w.mvs pl).map fun m => rsd (qv w j (w.kid pl m))) := by
         rw [qv, if_neg hnd, if_pos hc, if_neg hw0]
       have hne' : (w.mvs pl).map (fun m => rsd (qv w j (w.kid pl m))) ≠ [] := by simpa using mvs_ne hw0
       refine x_quiesce_moves H hw C (cs0 := []) (D := qv w (j + 1) pl) (alpha0 := alpha) (by lia) (ih j rfl) (by lia) (by lia) B₂ S₂ ⟨O.f, O.s, O.h⟩ ⟨N.pe, N.ql, N.lt, N.root⟩ set_at (by lia) (fun m hm => mvs_mem hm) hab .empty (by simpa using hne') ?_ ?_ ?_
       · rw [hD, List.nil_append]; exact fun c hc => mxl_ge hc
       · rw [hD, List.nil_append]; exact mxl_in hne'
       · intro σ' n' val K S t
         exact h _ _ _ (K₁.trans (K₂.trans K)) S t
 · refine g_value H (by first | exact rk hr rfl | lia) hw B₁ S₁ N.pe (by lia) N.lt ?_
   exists os (a_inst B₁.game.1 B₁.gd.1 mo_TreeGame_noisy (gi_noisy e))
   refine (fun (rest : 0 < kq → w.val pl < beta → _) => And.intro (fun z => ?z1) (fun z => And.intro (fun z2 => ?z2) (fun z2 => rest (by lia) (by lia)))) ?rest2
   case z1 =>
     have hk0 : kq = 0 := by lia
     refine fin _ _ (w.val pl) .refl S₁ (svs _ hv.1 hv.2) (.inl hv) ?_
     subst hk0
     unfold qv; rw [if_neg hnd, if_neg (fun z => by rw [hc] at z; cases z.1)]
   case z2 =>
     refine h _ _ _ K₁ S₁ ⟨w.val pl, svs _ hv.1 hv.2, .inl hv, fun _ => by lia, fun _ => ?_, fun _ _ => by lia⟩
     obtain ⟨j, rfl⟩ : ∃ j, kq = j + 1 := ⟨kq - 1, by lia⟩
     rw [qv, if_neg hnd, if_neg (by rw [hc]; decide)]
     exact mxl_ge (.head _)
   intro hk0 hvb
   obtain ⟨j, rfl⟩ : ∃ j, kq = j + 1 := ⟨kq - 1, by lia⟩
   refine g_noisy H (by first | exact rk hr rfl | lia) hw B₁ S₁ N.pe (by lia) N.lt fun σ₂ c hex hcl => ?_
   have K₂ : Keep e.D σ₁ σ₂ := fun a o _ z => hex a o z
   have S₂ : St σ₂ e { v with nodes := v.nodes + 1 } := fun m a z => hex a _ (S₁ m a z)
   have hD : qv w (j + 1) pl = mxl (w.val pl :: (w.loud pl).map fun m => rsd (qv w j (w.kid pl m))) := by
     rw [qv, if_neg hnd, if_neg (by rw [hc]; decide)]
   have hlz : (w.loud pl).length ≤ 7 := Nat.le_trans (List.length_filter_le _ _) hml
   have sve := svs _ hv.1 hv.2
   have L0 : Lp q.length (j + 4) alpha beta (sv q.length (w.val pl)) (max alpha (sv q.length (w.val pl))) [w.val pl] := .some (.inl hv) (by rw [← sve]; exact hvb) (fun c hc => Int.le_of_eq (List.mem_singleton.mp hc)) (fun _ => .head _) (List.cons_ne_nil _ _)
   rw [← sve] at L0
   refine x_quiesce_moves H hw C (cs0 := [w.val pl]) (D := qv w (j + 1) pl) (alpha0 := alpha) (by lia) (ih j rfl) (by lia) (by lia) (B₁.keep K₂) S₂ ⟨O.f, O.s, O.h⟩ ⟨N.pe, N.ql, N.lt, N.root⟩ hcl (by lia) (fun m hm => mvs_mem (List.mem_filter.mp hm).1) hab L0 (by simp) ?_ ?_ ?_
   · rw [hD]; exact fun c hc => mxl_ge hc
   · rw [hD]; exact mxl_in (by simp)
   · intro σ' n' val K S t
     exact h _ _ _ (K₁.trans (K₂.trans K)) S t
theorem x_quiesce (H : IsK W) (hw : w.Ok) (C : e.Cf) : ∀ kq : Nat, kq ≤ 10 → QuiOk W e w kq (8 + 2 * kq)
 | 0, hk => x_quiesce1 H hw C 0 hk fun j z => by lia
 | k + 1, hk => x_quiesce1 H hw C (k + 1) hk fun j z => by
   have : j = k := by lia
   subst this
   exact x_quiesce H hw C j (by lia)
end
noncomputable def Bd (b u D : Int) : Prop := (b = 3 ∧ u = D) ∨ (b = 2 ∧ u ≤ D) ∨ (b = 1 ∧ D ≤ u)
noncomputable def SlOk (w : Wd) (P : Nat) (s : Int) : Prop := 0 ≤ s ∧ (s ≠ 0 → ∃ pl d : Nat, pl < w.n ∧ eKey s = pl + 1 ∧ 0 ≤ eMove s ∧ eMove s ≤ (w.ways pl).length ∧ eDep s = d ∧ 1 ≤ d ∧ d ≤ 5 ∧ Mg (d + 5) (eVal s) ∧ Bd (eBnd s) (eVal s) (dv w P d pl))
structure EI (e : EA) (w : Wd) (v : Sv) : Prop where
 kok : KOk e v
 ln : v.lns.length ≤ 60
 sn : e.hasT = true → (v.slots.length : Int) = e.clus * e.wys
 sl : e.hasT = true → ∀ s ∈ v.slots, SlOk w e.qd.toNat s
theorem pk_fields {key move value depth bound age : Int} (h1 : 0 ≤ key) (h2 : 0 ≤ move) (h2' : move < 65536) (h3 : -32767 ≤ value) (h3' : value ≤ 32767) (h4 : -8 ≤ depth) (h4' : depth ≤ 247) (h5 : 0 ≤ bound) (h5' : bound ≤ 3) (h6 : 0 ≤ age) (h6' : age < 64) :
   eKey (pk key move value depth bound age) = key ∧ eMove (pk key move value depth bound age) = move ∧ eVal (pk key move value depth bound age) = value ∧ eDep (pk key move value depth bound age) = depth ∧ eBnd (pk key move value depth bound age) = bound := by
 refine ⟨?_, ?_, ?_, ?_, ?_⟩
 · unfold eKey pk; lia
 · unfold eMove pk; lia
 · unfold eVal pk; lia
 · unfold eDep pk; lia
 · unfold eBnd pk; lia
theorem wm_fields {s m : Int} (hs : 0 ≤ s) (h2 : 0 ≤ m) (h2' : m < 65536) :
   eKey (s - eMove s + m) = eKey s ∧ eMove (s - eMove s + m) = m ∧ eVal (s - eMove s + m) = eVal s ∧ eDep (s - eMove s + m) = eDep s ∧ eBnd (s - eMove s + m) = eBnd s ∧ 0 ≤ s - eMove s + m := by
 refine ⟨?_, ?_, ?_, ?_, ?_, ?_⟩
 · unfold eKey eMove; lia
 · unfold eMove; lia
 · unfold eVal eMove; lia
 · unfold eDep eMove; lia
 · unfold eBnd eMove; lia
 · unfold eMove; lia
section
variable {W : Wld} {r : Nat} {σ σ₀ σ' : AH} {Q : V → AH → Prop} {e : EA} {w : Wd} {v : Sv} {q : List Nat} {pl : Nat} {k k' : Pk}
theorem x_look_up (H : IsK W) (hr : 3 ≤ r) (hw : w.Ok) (C : e.Cf) (B : Base σ e w) (S : St σ e v) (I : EI e w v) {ply : Nat} (hply : ply ≤ 20) {d : Nat} (hpl : pl < w.n) {alpha beta : Int} (hab : alpha < beta)
   (h1 : ∀ mv, Q (.tup [.int mv, .none]) σ) (h2 : ∀ mv val, T ply (d + 5) alpha beta val (dv w e.qd.toNat d pl) → Q (.tup [.int mv, .int val]) σ) :
   CallSat W r (.fn "look_up") [.ref e.ctx, .int ((pl : Int) + 1), .int alpha, .int beta, .int d, .int ply] σ Q := by
 have hC := S.ctxd
 refine call_up hr fun r hr => call_def (fb_look_up H) rfl ?_
 unfold b_look_up
 cases hT : e.hasT with
 | false =>
   exists fc_game B.ctx.1 hC, fc_table B.ctx.1 hC, fc_killers B.ctx.1 hC, fc_history B.ctx.1 hC, fc_qdepth B.ctx.1 hC, fc_is_exact B.ctx.1 hC, fc_max_nodes B.ctx.1 hC, fc_nodes B.ctx.1 hC, fc_made B.ctx.1 hC, fc_lines B.ctx.1 hC, rsa B.ctx.1 hC ao_SearchContext_nodes, rsa B.ctx.1 hC ao_SearchContext_made, os (B.ctx.1), os (hC), ctxF, hT
   exact ⟨by unfold sizeOk; decide, h1 _⟩
 | true =>
   obtain ⟨b1, b2⟩ := B.tab hT
   have sl := I.sl hT
   exists fc_game B.ctx.1 hC, fc_table B.ctx.1 hC, fc_killers B.ctx.1 hC, fc_history B.ctx.1 hC, fc_qdepth B.ctx.1 hC, fc_is_exact B.ctx.1 hC, fc_max_nodes B.ctx.1 hC, fc_nodes B.ctx.1 hC, fc_made B.ctx.1 hC, fc_lines B.ctx.1 hC, rsa B.ctx.1 hC ao_SearchContext_nodes, rsa B.ctx.1 hC ao_SearchContext_made, os (B.ctx.1), os (hC), ctxF, hT, os (a_inst b1.1 b2.1 mo_TransTable_probe (gi_tprobe e))
   refine x_probe H (by first | exact rk hr rfl | lia) C B S hT (I.sn hT) (fun s hs => (sl s hs).1) ?_ fun s hs hne hk => ?_
   · exists true_and
     exact ⟨by unfold sizeOk; decide, h1 _⟩
   · exists true_and
     refine (xE2 fun pl' d' => aE9 fun hp' hk' m1 m2 hd' d1 d2 hM hB => ?_) ((sl s hs).2 hne)
     have : pl' = pl := by lia
     subst this
     refine k_from_table H (by first | exact rk hr rfl | lia) ?_
     have hM' := hM.up (show d' + 5 ≤ 50 by lia)
     rw [fromT_sv hM' (by lia) (by lia)]
     exists fc_game B.ctx.1 hC, fc_table B.ctx.1 hC, fc_killers B.ctx.1 hC, fc_history B.ctx.1 hC, fc_qdepth B.ctx.1 hC, fc_is_exact B.ctx.1 hC, fc_max_nodes B.ctx.1 hC, fc_nodes B.ctx.1 hC, fc_made B.ctx.1 hC, fc_lines B.ctx.1 hC, rsa B.ctx.1 hC ao_SearchContext_nodes, rsa B.ctx.1 hC ao_SearchContext_made, os (B.ctx.1), os (hC), ctxF
     refine k_cutoff H (by first | exact rk hr rfl | lia) ?_
     exists true_and
     refine ⟨fun z => ?_, fun z => ?_⟩
     · obtain ⟨z1, z2⟩ := z
       have hdd : d' = d := by lia
       subst hdd
       refine ⟨by unfold sizeOk; decide, h2 _ _ ⟨eVal s, rfl, hM, ?_, ?_, ?_⟩⟩
       all_goals (unfold Bd at hB; intros; lia)
     · exact ⟨by unfold sizeOk; decide, h1 _⟩
theorem x_keep_value (H : IsK W) (hr : 5 ≤ r) (hw : w.Ok) (C : e.Cf) (B : Base σ e w) (S : St σ e v) (I : EI e w v) {ply : Nat} (hply : ply ≤ 20) {d : Nat} (d1 : 1 ≤ d) (d2 : d ≤ 5) (hpl : pl < w.n) {mv best start beta : Int} (hab : start < beta) (m1 : 0 ≤ mv) (m2 : mv ≤ (w.ways pl).length)
   (t : T ply (d + 5) start beta best (dv w e.qd.toNat d pl))
   (h : ∀ σ' l, Keep e.D σ σ' → St σ' e { v with slots := l } → EI e w { v with slots := l } → Q .none σ') :
   CallSat W r (.fn "keep_value") [.ref e.ctx, .int ((pl : Int) + 1), .int mv, .int best, .int start, .int beta, .int d, .int ply] σ Q := by
 have hC := S.ctxd
 have hf := hw.few pl
 have hn := hw.hi
 refine call_up hr fun r hr => call_def (fb_keep_value H) rfl ?_
 unfold b_keep_value
 cases hT : e.hasT with
 | false =>
   exists fc_game B.ctx.1 hC, fc_table B.ctx.1 hC, fc_killers B.ctx.1 hC, fc_history B.ctx.1 hC, fc_qdepth B.ctx.1 hC, fc_is_exact B.ctx.1 hC, fc_max_nodes B.ctx.1 hC, fc_nodes B.ctx.1 hC, fc_made B.ctx.1 hC, fc_lines B.ctx.1 hC, rsa B.ctx.1 hC ao_SearchContext_nodes, rsa B.ctx.1 hC ao_SearchContext_made, os (B.ctx.1), os (hC), ctxF, hT
   exact h σ v.slots .refl S I
 | true =>
   obtain ⟨b1, b2⟩ := B.tab hT
   have sl := I.sl hT
   revert t; refine xE1 fun u => aE5 fun eu hM t1 t2 t3 => ?_
   have hM' := hM.up (show d + 5 ≤ 50 by lia)
   have us : -32000 ≤ u ∧ u ≤ 32000 := hM'.bd (Nat.le_refl _)
   have fin : ∀ bnd : Int, Bd bnd u (dv w e.qd.toNat d pl) → CallSat W r (.me "TransTable" "save") [.ref e.tab, .int ((pl : Int) + 1), .int mv, .int u, .int d, .int bnd] σ fun _ σ => Q .none σ := fun bnd hB => by
     have b3 : 1 ≤ bnd ∧ bnd ≤ 3 := by unfold Bd at hB; lia
     have mk : ∀ m : Int, 0 ≤ m → m ≤ (w.ways pl).length → SlOk w e.qd.toNat (pk ((pl : Int) + 1) m u d bnd e.age) := fun m x1 x2 => by
       have a1 := C.a1
       have a2 := C.a2
       refine (aE5 fun f1 f2 f3 f4 f5 => ?_) (pk_fields (key := (pl : Int) + 1) (move := m) (value := u) (depth := d) (bound := bnd) (age := e.age) (by lia) x1 (by lia) (by lia) (by lia) (by lia) (by lia) (by lia) (by lia) a1 a2)
       exact ⟨pk_nn (by lia) x1 (by lia) (by lia) (by lia) a1, fun _ => ⟨pl, d, hpl, f1, by lia, by lia, f4, d1, d2, by rw [f3]; exact hM, by rw [f5, f3]; exact hB⟩⟩
     refine x_save H (by first | exact rk hr rfl | lia) C B S hT (I.sn hT) (fun s hs => (sl s hs).1) (P := SlOk w e.qd.toNat) sl (by lia) (by lia) m1 (by lia) (by lia) (by lia) (by lia) (by lia) (by lia) (by lia) (mk mv m1 m2) (fun s hs hne hk => ?_) fun σ' l B' S' K' hl hP => h σ' l K' S' ⟨⟨I.kok.f, I.kok.s, I.kok.h⟩, I.ln, fun _ => by show (l.length : Int) = _; rw [hl]; exact I.sn hT, fun _ => hP⟩
     refine (xE2 fun pl' d' => aE9 fun hp' hk' x1 x2 hd' y1 y2 hM2 hB2 => ?_) ((sl s hs).2 hne)
     have : pl' = pl := by lia
     subst this
     refine (aE6 fun f1 f2 f3 f4 f5 f6 => ?_) (wm_fields (m := mv) (sl s hs).1 m1 (by lia))
     exact ⟨mk _ x1 x2, ⟨f6, fun _ => ⟨pl', d', hp', by lia, by lia, by lia, by lia, y1, y2, by rw [f3]; exact hM2, by rw [f5, f3]; exact hB2⟩⟩, sl s hs⟩
   exists fc_game B.ctx.1 hC, fc_table B.ctx.1 hC, fc_killers B.ctx.1 hC, fc_history B.ctx.1 hC, fc_qdepth B.ctx.1 hC, fc_is_exact B.ctx.1 hC, fc_max_nodes B.ctx.1 hC, fc_nodes B.ctx.1 hC, fc_made B.ctx.1 hC, fc_lines B.ctx.1 hC, rsa B.ctx.1 hC ao_SearchContext_nodes, rsa B.ctx.1 hC ao_SearchContext_made, os (B.ctx.1), os (hC), ctxF, hT, os (a_inst b1.1 b2.1 mo_TransTable_save (gi_tsave e))
   rw [eu]
   refine ⟨fun z => ?_, fun z => ⟨fun z2 => ?_, fun z2 => ?_⟩⟩
   · refine k_to_table H (by first | exact rk hr rfl | lia) ?_
     rw [toT_sv hM' (by lia) (by lia)]
     exists hT
     exact fin 2 (.inr (.inl ⟨rfl, t2 (by lia)⟩))
   · refine k_to_table H (by first | exact rk hr rfl | lia) ?_
     rw [toT_sv hM' (by lia) (by lia)]
     exists hT
     exact fin 1 (.inr (.inr ⟨rfl, t1 (by lia)⟩))
   · refine k_to_table H (by first | exact rk hr rfl | lia) ?_
     rw [toT_sv hM' (by lia) (by lia)]
     exists hT
     exact fin 3 (.inl ⟨rfl, t3 (by lia) (by lia)⟩)
end
structure After (e : EA) (w : Wd) (σ : AH) (v : Sv) (n : Nat) (σ' : AH) (v' : Sv) : Prop where
 keep : Keep e.D σ σ'
 st : St σ' e v'
 ei : EI e w v'
 p : v'.p = v.p
 made : v'.made = v.made
 len : n < v'.lns.length
 low : ∀ (i : Nat) (a : Addr), i < n → v.lns[i]? = some a → v'.lns[i]? = some a
noncomputable def LineIs (e : EA) (σ : AH) (v : Sv) (n : Nat) (l : List Int) : Prop := ∃ a, v.lns[n]? = some a ∧ LnAt e σ a l
structure SPost (w : Wd) (P d pl ply : Nat) (pv : Bool) (alpha beta val : Int) (l : List Int) : Prop where
 t : T ply (d + 5) alpha beta val (dv w P d pl)
 nil : w.ways pl = [] → l = []
 leads : pv = true → alpha < val → val < beta → ∃ u, val = sv ply u ∧ Mg (d + 5) u ∧ Leads w P d pl l u
 len : l.length ≤ d
noncomputable def SeaOk (W : Wld) (e : EA) (w : Wd) (d r0 : Nat) : Prop := ∀ (r : Nat) (σ : AH) (v : Sv) (q : List Nat) (pl : Nat) (alpha beta : Int) (pv : Bool) (Q : V → AH → Prop), r0 ≤ r → Base σ e w → St σ e v → EI e w v → Nd w v q pl → alpha < beta → q.length ≤ v.lns.length →
 (∀ σ' v' val l, After e w σ v q.length σ' v' → LineIs e σ' v' q.length l → SPost w e.qd.toNat d pl q.length pv alpha beta val l → Q (.int val) σ') →
 CallSat W r (.fn "search") [.ref e.ctx, .int alpha, .int beta, .int d, .int q.length, .bool pv] σ Q
structure CPost (w : Wd) (P d c ply : Nat) (pv : Bool) (alpha beta val : Int) (l : List Int) : Prop where
 t : T ply (d + 6) alpha beta val (rsd (dv w P d c))
 nil : w.ways c = [] → l = []
 leads : pv = true → alpha < val → val < beta → ∃ uc, val = sv ply (rsd uc) ∧ Mg (d + 5) uc ∧ Leads w P d c l uc
 len : l.length ≤ d
section
variable {W : Wld} {r : Nat} {σ σ₀ σ' : AH} {Q : V → AH → Prop} {e : EA} {w : Wd} {v : Sv} {q : List Nat} {pl : Nat} {k k' : Pk}
theorem After.trans {σ₁ σ₂ : AH} {v₁ v₂ : Sv} {n : Nat} (x : After e w σ v n σ₁ v₁) (y : After e w σ₁ v₁ n σ₂ v₂) : After e w σ v n σ₂ v₂ :=
 ⟨x.keep.trans y.keep, y.st, y.ei, y.p.trans x.p, y.made.trans x.made, y.len, fun i a h z => y.low i a h (x.low i a h z)⟩
theorem SPost.child {w : Wd} (hw : w.Ok) {P d c ply : Nat} {pv pv' : Bool} {alpha beta val : Int} {l : List Int} (hP : P ≤ 2) (hd : d ≤ 10) (hc : c < w.n) (hply : ply ≤ 20) (s : SPost w P d c (ply + 1) pv (-beta) (-alpha) val l) (hpv : pv' = true → pv = true) : CPost w P d c ply pv' alpha beta (-val) l := by
 have e1 : ((ply + 1 : Nat) : Int) = (ply : Int) + 1 := by lia
 obtain ⟨t, h2, h3, h4⟩ := s
 rw [e1] at t h3
 refine ⟨t.neg (by lia) ((dv_mg hw hP d c hc (by lia)).up (by lia)) (by lia) (by lia), h2, fun z a b => ?_, h4⟩
 refine (xE1 fun u => aE3 fun eu hm hl => ?_) (h3 (hpv z) (by lia) (by lia))
 exact ⟨u, by rw [eu]; exact sv_neg (hm.up (by lia)) (by lia) (by lia), hm, hl⟩
theorem x_search_child (H : IsK W) (hw : w.Ok) (C : e.Cf) {d r0 : Nat} (hd : d ≤ 5) (ih : SeaOk W e w d r0) (hr : r0 + 1 ≤ r) (B : Base σ e w) (S : St σ e v) (I : EI e w v) {c : Nat} (N : Nd w v (q ++ [pl]) c) {alpha beta : Int} (hab : alpha < beta) {pv fst : Bool} (hln : q.length + 1 ≤ v.lns.length)
   (h : ∀ σ' v' val l, After e w σ v (q.length + 1) σ' v' → LineIs e σ' v' (q.length + 1) l → CPost w e.qd.toNat d c q.length pv alpha beta val l → Q (.int val) σ') :
   CallSat W r (.fn "search_child") [.ref e.ctx, .int alpha, .int beta, .int ((d + 1 : Nat) : Int), .int q.length, .bool pv, .bool fst] σ Q := by
 have hqs := N.small hw
 have e0 : (q ++ [pl]).length = q.length + 1 := by simp
 have e1 : (q.length : Int) + 1 = ((q ++ [pl]).length : Nat) := by rw [e0]; lia
 have e2 : ((d + 1 : Nat) : Int) - 1 = (d : Nat) := by lia
 have hP : e.qd.toNat ≤ 2 := by have := C.q2; lia
 rw [e0] at hqs
 refine call_up (n := r0) hr fun r hr => call_def (fb_search_child H) rfl ?_
 unfold b_search_child
 exists true_and
 rw [e1, e2]
 refine ⟨fun _ => ?_, fun _ => ?_⟩
 · refine ih r σ v _ _ _ _ pv _ hr B S I N (by lia) (by rw [e0]; exact hln) fun σ' v' val l A Ln s => ?_
   rw [e0] at A Ln s
   exists true_and
   exact h σ' v' _ l A Ln (s.child hw hP (by lia) N.lt (by lia) fun z => z)
 · refine ih r σ v _ _ _ _ false _ hr B S I N (by lia) (by rw [e0]; exact hln) fun σ₁ v₁ val₁ l₁ A₁ Ln₁ s₁ => ?_
   rw [e0] at A₁ Ln₁ s₁
   exists true_and
   rw [e1, e2]
   have s₁' : SPost w e.qd.toNat d c (q.length + 1) false (-(alpha + 1)) (-alpha) val₁ l₁ := by
     have : -(alpha + 1) = -alpha - 1 := by lia
     rw [this]; exact s₁
   have cp := s₁'.child (pv' := false) hw hP (by lia) N.lt (by lia) fun z => z
   have done : ¬ (alpha < -val₁ ∧ -val₁ < beta) → Q (.int (-val₁)) σ₁ := fun hno => by
     refine h σ₁ v₁ _ l₁ A₁ Ln₁ ⟨?_, cp.nil, fun _ a b => absurd ⟨a, b⟩ hno, cp.len⟩
     obtain ⟨u, eu, hm, t1, t2, t3⟩ := cp.t
     exact ⟨u, eu, hm, fun z => t1 z, fun z => t2 (by lia), fun a b => absurd ⟨a, b⟩ hno⟩
   refine ⟨fun y1 => ⟨fun y2 => ?_, fun y2 => ?_⟩, fun y1 => ?_⟩
   · have N₁ : Nd w v₁ (q ++ [pl]) c := ⟨by rw [A₁.p]; exact N.pe, N.ql, N.lt, N.root⟩
     refine ih r σ₁ v₁ _ _ _ _ pv _ hr (B.keep A₁.keep) A₁.st A₁.ei N₁ (by lia) (by rw [e0]; exact Nat.le_of_lt A₁.len) fun σ' v' val l A Ln s => ?_
     rw [e0] at A Ln s
     exists true_and
     exact h σ' v' _ l (A₁.trans A) Ln (s.child hw hP (by lia) N.lt (by lia) fun z => z)
   · exact done fun z => y2 z.2
   · exact done fun z => y1 z.1
end
structure MPost (w : Wd) (P d pl ply : Nat) (pv : Bool) (alpha beta val : Int) (l : List Int) : Prop where
 t : T ply (d + 6) alpha beta val (dv w P (d + 1) pl)
 low : val ≤ alpha → l = []
 leads : pv = true → alpha < val → val < beta → ∃ u, val = sv ply u ∧ Mg (d + 6) u ∧ Leads w P (d + 1) pl l u
 high : pv = true → beta ≤ val → ∃ m l', l = m :: l' ∧ 1 ≤ m ∧ m ≤ (w.ways pl).length ∧ (∃ u, val = sv ply u ∧ Mg (d + 6) u ∧ u ≤ rsd (dv w P d (w.kid pl m))) ∧ (w.ways (w.kid pl m) = [] → l' = [])
 len : l.length ≤ d + 1
section
variable {W : Wld} {r : Nat} {σ σ₀ σ' : AH} {Q : V → AH → Prop} {e : EA} {w : Wd} {v : Sv} {q : List Nat} {pl : Nat} {k k' : Pk}
structure LS (w : Wd) (P d pl ply : Nat) (pv : Bool) (start best : Int) (bm : Int) (l : List Int) : Prop where
 low : best ≤ start → l = []
 bm0 : 0 ≤ bm ∧ bm ≤ (w.ways pl).length
 leads : pv = true → start < best → ∃ u, best = sv ply u ∧ Mg (d + 6) u ∧ Leads w P (d + 1) pl l u
 len : l.length ≤ d + 1
theorem c_isnot_if {b : Bool} {a : Addr} {σ : AH} {Q : Bool → AH → Prop} : wpCmp .IsNot (if b = true then V.ref a else V.none) .none σ Q = Q b σ := by cases b <;> rfl
noncomputable def PS.wb : PS → PSs
 | .whl _ b => b
 | .ite _ b _ => b
 | _ => .nil
noncomputable def tailSM : PSs := b_search_moves.tl.tl
theorem sm_eq : b_search_moves = .cons (.asgn "game" (.attr (.loc "ctx") "game")) (.cons (.ite (.cmp .IsNot (.attr (.loc "ctx") "killers") .none) (.cons (.expr (.meth (.attr (.loc "ctx") "killers") "clear" (.cons (.bin .Add (.loc "ply") (.int 2)) .nil))) .nil) .nil) tailSM) := rfl
noncomputable def smW : PSs := tailSM.tl.tl.tl.tl.tl.tl.tl.tl
theorem sm_eq2 : tailSM = (.cons (.asgn "side" (.meth (.loc "game") "side" .nil))
   (.cons (.asgn "picker" (.call "Picker" (.cons (.loc "game") (.cons (.loc "moves") (.cons (.loc "table_move") (.cons (.attr (.loc "ctx") "killers") (.cons (.attr (.loc "ctx") "history") (.cons (.loc "ply") .nil))))))))
   (.cons (.asgn "start" (.loc "alpha"))
   (.cons (.asgn "best" (.neg (.glob "INFINITE" 32001)))
   (.cons (.asgn "best_move" (.glob "NO_MOVE" 0))
   (.cons (.asgn "quiets" (.lst .nil))
   (.cons (.asgn "is_first" (.bool true))
   (.cons (.asgn "move" (.meth (.loc "picker") "next" .nil)) smW)))))))) := rfl
noncomputable def smB : PSs := smW.hd.wb
noncomputable def smE : PSs := smW.tl
theorem sm_eq3 : smW = .cons (.whl (.cmp .NotEq (.loc "move") (.glob "NO_MOVE" 0)) smB) smE := rfl
noncomputable def smA : PSs := smB.tl.tl.tl.tl.tl.tl
noncomputable def smQ : PSs := smA.tl
noncomputable def smC : PSs := smA.hd.wb.tl.tl
theorem sm_eq4 : smB = (.cons (.asgn "is_noisy" (.meth (.loc "game") "is_noisy" (.cons (.loc "move") .nil)))
   (.cons (.expr (.call "step_into" (.cons (.loc "ctx") (.cons (.loc "move") .nil))))
   (.cons (.asgn "value" (.call "search_child" (.cons (.loc "ctx") (.cons (.loc "alpha") (.cons (.loc "beta") (.cons (.loc "depth") (.cons (.loc "ply") (.cons (.loc "is_pv") (.cons (.loc "is_first") .nil)))))))))
   (.cons (.expr (.call "step_back" (.cons (.loc "ctx") .nil)))
   (.cons (.asgn "is_first" (.bool false))
   (.cons (.ite (.cmp .Gt (.loc "value") (.loc "best")) (.cons (.asgn "best" (.loc "value"))
   .nil) .nil) smA)))))) := rfl
theorem sm_eq5 : smA = (.cons (.ite (.cmp .Gt (.loc "value") (.loc "alpha")) (.cons (.asgn "best_move" (.loc "move"))
   (.cons (.ite (.loc "is_pv") (.cons (.expr (.call "set_line" (.cons (.loc "ctx") (.cons (.loc "ply") (.cons (.loc "move") .nil)))))
   .nil) .nil) smC)) .nil) smQ) := rfl
theorem sm_eq8 : smC = (.cons (.ite (.cmp .GtE (.loc "value") (.loc "beta")) (.cons (.ite (.bop .And (.cons (.not (.loc "is_noisy")) (.cons (.cmp .IsNot (.attr (.loc "ctx") "history") .none) (.cons (.cmp .IsNot (.attr (.loc "ctx") "killers") .none) .nil)))) (.cons (.expr (.call "reward" (.cons (.attr (.loc "ctx") "history") (.cons (.attr (.loc "ctx") "killers") (.cons (.loc "side") (.cons (.loc "ply") (.cons (.loc "depth") (.cons (.loc "move") (.cons (.loc "quiets") .nil)))))))))
   .nil) .nil)
   (.cons .brk
   .nil)) .nil)
   (.cons (.asgn "alpha" (.loc "value"))
   .nil)) := rfl
theorem sm_eq6 : smQ = (.cons (.ite (.not (.loc "is_noisy")) (.cons (.expr (.meth (.loc "quiets") "append" (.cons (.loc "move") .nil)))
   .nil) .nil)
   (.cons (.asgn "move" (.meth (.loc "picker") "next" .nil)) .nil)) := rfl
theorem sm_eq7 : smE = (.cons (.expr (.call "keep_value" (.cons (.loc "ctx") (.cons (.loc "key") (.cons (.loc "best_move") (.cons (.loc "best") (.cons (.loc "start") (.cons (.loc "beta") (.cons (.loc "depth") (.cons (.loc "ply") .nil))))))))))
   (.cons (.ret (.loc "best")) .nil)) := rfl
theorem Lp.blt {p : Int} {k : Nat} {alpha0 beta best alpha : Int} {cs : List Int} (L : Lp p k alpha0 beta best alpha cs) (h : cs ≠ []) : best < beta := by
 cases L with
 | empty => exact absurd rfl h
 | some _ z => exact z
theorem Lp.al {p : Int} {k : Nat} {alpha0 beta best alpha : Int} {cs : List Int} (L : Lp p k alpha0 beta best alpha cs) (h : -32001 ≤ alpha0) : alpha = max alpha0 best := by
 cases L with
 | empty => lia
 | some _ z => rfl
structure SN (e : EA) (q : List Nat) (pl d : Nat) (alpha0 beta side : Int) (pv : Bool) (qa : Addr) (pk : Addr) (m : Loc) : Prop where
 ctx : m "ctx" = some (.ref e.ctx)
 key : m "key" = some (.int ((pl : Int) + 1))
 beta : m "beta" = some (.int beta)
 depth : m "depth" = some (.int ((d + 1 : Nat) : Int))
 ply : m "ply" = some (.int q.length)
 is_pv : m "is_pv" = some (.bool pv)
 game : m "game" = some (.ref e.game)
 side : m "side" = some (.int side)
 start : m "start" = some (.int alpha0)
 quiets : m "quiets" = some (.ref qa)
 picker : m "picker" = some (.ref pk)
theorem Loc.old {m : Loc} {x y : Str} {u v : V} (h : m y = some u) (n : sq y x = false) : m.set x v y = some u := by
 rw [Loc.set_eq, if_neg (of_decide_eq_false n)]; exact h
noncomputable def snF (x : Str) : Bool := !(sq "ctx" x || sq "key" x || sq "beta" x || sq "depth" x || sq "ply" x || sq "is_pv" x || sq "game" x || sq "side" x || sq "start" x || sq "quiets" x || sq "picker" x)
theorem SN.set {e : EA} {q : List Nat} {pl d : Nat} {a b c : Int} {pv : Bool} {qa pk : Addr} {m : Loc} (s : SN e q pl d a b c pv qa pk m) {x : Str} {v : V} (h : snF x = true) : SN e q pl d a b c pv qa pk (m.set x v) := by
 unfold snF at h
 simp only [Bool.not_eq_true', Bool.or_eq_false_iff, and_assoc] at h
 revert h; refine aE11 fun h1 h2 h3 h4 h5 h6 h7 h8 h9 h10 h11 => ?_
 exact ⟨Loc.old s.ctx h1, Loc.old s.key h2, Loc.old s.beta h3, Loc.old s.depth h4, Loc.old s.ply h5, Loc.old s.is_pv h6, Loc.old s.game h7, Loc.old s.side h8, Loc.old s.start h9, Loc.old s.quiets h10, Loc.old s.picker h11⟩
noncomputable def RR (w : Wd) (P d pl : Nat) (m : Int) : Int := rsd (dv w P d (w.kid pl m))
structure SE (e : EA) (w : Wd) (σ : AH) (v : Sv) (d pl ply : Nat) (pv : Bool) (alpha0 beta : Int) (qa : Addr) (k : Pk) (best alpha bm : Int) (cs l ql : List Int) (σ' : AH) (v' : Sv) : Prop where
 pk : PkAt σ' e k
 own : ∀ a, k.O a → σ a = Option.none
 aft : After e w σ v ply σ' v'
 qt : At e.D σ' qa (.list (ql.map .int))
 qo : ¬ k.O qa
 qm : ∀ m ∈ ql, 0 ≤ m ∧ m ≤ 7
 qz : ql.length ≤ 50
 line : ∃ a, v'.lns[ply]? = some a ∧ LnAt e σ' a l ∧ ¬ k.O a ∧ a ≠ qa
 ls : LS w e.qd.toNat d pl ply pv alpha0 best bm l
 lp : Lp ply (d + 6) alpha0 beta best alpha cs
 rem : ∀ m ∈ k.rem, 1 ≤ m ∧ m ≤ (w.ways pl).length
theorem x_search_moves (H : IsK W) (hw : w.Ok) (C : e.Cf) {d r0 : Nat} (hd : d ≤ 4) (ih : SeaOk W e w d r0) (h8 : 8 ≤ r0) (hr : r0 + 2 ≤ r) (B : Base σ e w) (S : St σ e v) (I : EI e w v) (N : Nd w v q pl) {mvA : Addr} {tm alpha0 beta : Int} {pv : Bool}
   (hm : σ mvA = some (.list ((w.mvs pl).map .int))) (hmD : ¬ e.D mvA) (hne : w.ways pl ≠ []) (hnd : ¬ (0 < pl ∧ w.drw pl = true)) (hab : alpha0 < beta) (ha0 : -32000 ≤ alpha0) (hln : q.length < v.lns.length) (hl0 : LineIs e σ v q.length [])
   (h : ∀ σ' v' val l, After e w σ v q.length σ' v' → LineIs e σ' v' q.length l → MPost w e.qd.toNat d pl q.length pv alpha0 beta val l → Q (.int val) σ') :
   CallSat W r (.fn "search_moves") [.ref e.ctx, .ref mvA, .int tm, .int ((pl : Int) + 1), .int alpha0, .int beta, .int ((d + 1 : Nat) : Int), .int q.length, .bool pv] σ Q := by
 have hC := S.ctxd
 have hqs := N.small hw
 have hP : e.qd.toNat ≤ 2 := by have := C.q2; lia
 have hfew := hw.few pl
 have hml : (w.mvs pl).length ≤ 7 := by rw [mvs_len]; exact hfew
 refine call_up (n := r0 + 1) (by lia) fun r hr => call_def (fb_search_moves H) rfl ?_
 have rest : ∀ σ₁ v₁ (m₁ : Loc), Keep e.D σ σ₁ ∧ St σ₁ e v₁ ∧ EI e w v₁ ∧ v₁.p = v.p ∧ v₁.made = v.made ∧ v₁.lns = v.lns → σ₁ mvA = some (.list ((w.mvs pl).map .int)) → m₁ "ctx" = some (.ref e.ctx) → m₁ "moves" = some (.ref mvA) → m₁ "table_move" = some (.int tm) → m₁ "key" = some (.int ((pl : Int) + 1)) →
     m₁ "alpha" = some (.int alpha0) → m₁ "beta" = some (.int beta) → m₁ "depth" = some (.int ((d + 1 : Nat) : Int)) → m₁ "ply" = some (.int q.length) → m₁ "is_pv" = some (.bool pv) → m₁ "game" = some (.ref e.game) → wpSs (CallSat W r) tailSM m₁ σ₁ (bodyQ Q) := ?rest
 · exists sm_eq, fc_game B.ctx.1 hC, fc_table B.ctx.1 hC, fc_killers B.ctx.1 hC, fc_history B.ctx.1 hC, fc_qdepth B.ctx.1 hC, fc_is_exact B.ctx.1 hC, fc_max_nodes B.ctx.1 hC, fc_nodes B.ctx.1 hC, fc_made B.ctx.1 hC, fc_lines B.ctx.1 hC, rsa B.ctx.1 hC ao_SearchContext_nodes, rsa B.ctx.1 hC ao_SearchContext_made, os (B.ctx.1), os (hC), ctxF, c_isnot_if
   refine ⟨fun hK => ?_, fun _ => rest σ v _ ⟨.refl, S, I, rfl, rfl, rfl⟩ hm ?_ ?_ ?_ ?_ ?_ ?_ ?_ ?_ ?_ ?_⟩
   · obtain ⟨b1, b2⟩ := B.kil hK
     exists fc_game B.ctx.1 hC, fc_table B.ctx.1 hC, fc_killers B.ctx.1 hC, fc_history B.ctx.1 hC, fc_qdepth B.ctx.1 hC, fc_is_exact B.ctx.1 hC, fc_max_nodes B.ctx.1 hC, fc_nodes B.ctx.1 hC, fc_made B.ctx.1 hC, fc_lines B.ctx.1 hC, rsa B.ctx.1 hC ao_SearchContext_nodes, rsa B.ctx.1 hC ao_SearchContext_made, os (B.ctx.1), os (hC), ctxF, hK, os (a_inst b1.1 b2.1 mo_Killers_clear (gi_kclear e))
     refine x_kclear H (by first | exact rk hr rfl | lia) C B S hK I.kok (by lia) fun σ' f s B' S' K' O' => ?_
     exists true_and
     refine rest σ' _ _ ⟨K', S', ⟨O', I.ln, I.sn, I.sl⟩, rfl, rfl, rfl⟩ (K' _ _ hmD hm) ?_ ?_ ?_ ?_ ?_ ?_ ?_ ?_ ?_ ?_
     all_goals exists true_and
   all_goals exists true_and
 clear hC
 intro σ₁ v₁ m₁ ⟨K₁, S₁, I₁, p₁, md₁, ln₁⟩ hm₁ y1 y2 y3 y4 y5 y6 y7 y8 y9 y10
 rw [sm_eq2]
 have B₁ := B.keep K₁
 have hC₁ := S₁.ctxd
 exists os (y1), os (y2), os (y3), os (y4), os (y5), os (y6), os (y7), os (y8), os (y9), os (y10), os (a_inst B₁.game.1 B₁.gd.1 mo_TreeGame_side (gi_side e))
 have pl₁ : v₁.p = q ++ [pl] := p₁.trans N.pe
 refine g_side H (by first | exact rk hr rfl | lia) B₁ S₁ (by rw [pl₁]; simp; lia) (by rw [pl₁]; simp) fun side sd1 sd2 => ?_
 exists os (y1), os (y2), os (y3), os (y4), os (y5), os (y6), os (y7), os (y8), os (y9), os (y10), fc_game B₁.ctx.1 hC₁, fc_table B₁.ctx.1 hC₁, fc_killers B₁.ctx.1 hC₁, fc_history B₁.ctx.1 hC₁, fc_qdepth B₁.ctx.1 hC₁, fc_is_exact B₁.ctx.1 hC₁, fc_max_nodes B₁.ctx.1 hC₁, fc_nodes B₁.ctx.1 hC₁, fc_made B₁.ctx.1 hC₁, fc_lines B₁.ctx.1 hC₁, rsa B₁.ctx.1 hC₁ ao_SearchContext_nodes, rsa B₁.ctx.1 hC₁ ao_SearchContext_made, os (B₁.ctx.1), os (hC₁), ctxF
 refine x_picker H (by first | exact rk hr rfl | lia) S₁ hm₁ (by lia) (by lia) fun σ₂ k A hst hrem hO hex => ?_
 exists os (y1), os (y2), os (y3), os (y4), os (y5), os (y6), os (y7), os (y8), os (y9), os (y10), fc_game B₁.ctx.1 hC₁, fc_table B₁.ctx.1 hC₁, fc_killers B₁.ctx.1 hC₁, fc_history B₁.ctx.1 hC₁, fc_qdepth B₁.ctx.1 hC₁, fc_is_exact B₁.ctx.1 hC₁, fc_max_nodes B₁.ctx.1 hC₁, fc_nodes B₁.ctx.1 hC₁, fc_made B₁.ctx.1 hC₁, fc_lines B₁.ctx.1 hC₁, rsa B₁.ctx.1 hC₁ ao_SearchContext_nodes, rsa B₁.ctx.1 hC₁ ao_SearchContext_made, os (B₁.ctx.1), os (hC₁), ctxF
 refine ⟨by unfold sizeOk; lia, fun qa hqa => ?_⟩
 have K₁₂ : Keep e.D σ₁ σ₂ := fun a o _ z => hex a o z
 have S₂ : St σ₂ e v₁ := fun m a z => hex a _ (S₁ m a z)
 have Kq : Keep e.D σ₂ (σ₂.set qa (.list [])) := .new hqa
 have S₃ : St (σ₂.set qa (.list [])) e v₁ := S₂.new hqa
 have A₃ := A.keep Kq
 have K₃ := K₁.trans (K₁₂.trans Kq)
 have nqD : ¬ e.D qa := S₂.notD hqa
 have nqO : ¬ k.O qa := by
   rintro (z | z | z | z)
   · rw [z, A.pd.1] at hqa; cases hqa
   · rw [z, (A.la (by lia)).1.1] at hqa; cases hqa
   · rw [z, A.ra.1] at hqa; cases hqa
   · rw [z, (A.ga (by lia)).1.1] at hqa; cases hqa
 have hO₃ : ∀ a, k.O a → σ a = Option.none := fun a ha => by
   have := hO a ha
   cases hs : σ a with
   | none => rfl
   | some o => rw [K₁ a o (S₁.notD this) hs] at this; cases this
 exists os (y1), os (y2), os (y3), os (y4), os (y5), os (y6), os (y7), os (y8), os (y9), os (y10), os (a_inst A₃.pk.1 A₃.pd.1 mo_Picker_next (gi_pnext e k))
 have hrz : k.rem.length ≤ 100 := by rw [hrem]; lia
 have hrm : ∀ m ∈ k.rem, 1 ≤ m ∧ m ≤ (w.ways pl).length := by rw [hrem]; exact fun m hm => mvs_mem hm
 have hqσ : σ qa = Option.none := by
   cases hs : σ qa with
   | none => rfl
   | some o => rw [hex qa o (K₁ qa o nqD hs)] at hqa; cases hqa
 have hqa₃ : At e.D (σ₂.set qa (.list [])) qa (.list (([] : List Int).map .int)) := ⟨set_at, nqD⟩
 refine p_next H (by first | exact rk hr rfl | lia) hw C B K₃ S₃ I₁.kok A₃ hO₃ pl₁ (by lia) N.lt hrz hrm fun σ₄ k₄ mv A₄ Ow₄ hk₄ hmv K₄ S₄ hO₄ => ?_
 exists os (y1), os (y2), os (y3), os (y4), os (y5), os (y6), os (y7), os (y8), os (y9), os (y10)
 have AF₄ : After e w σ v q.length σ₄ v₁ := ⟨K₄, S₄, I₁, p₁, md₁, by rw [ln₁]; exact hln, fun i a _ z => by rw [ln₁]; exact z⟩
 have qo₄ : ¬ k₄.O qa := fun z => by
   rcases Ow₄.own qa z with z | z
   · exact nqO z
   · rw [set_at] at z; cases z
 have hrl : k₄.rem.length ≤ 7 := by
   rcases hmv with ⟨_, z, _⟩ | z
   · rw [hrem] at z; exact absurd z (mvs_ne hne)
   · have := z.length_eq; simp only [List.length_cons] at this; rw [hrem] at this; lia
 have SE₄ : SE e w σ v d pl q.length pv alpha0 beta qa k₄ (-32001) alpha0 0 [] [] [] σ₄ v₁ := by
   refine ⟨A₄, hO₄, AF₄, ⟨Ow₄.keep qa _ nqO hqa₃.1, nqD⟩, qo₄, fun _ h => (nomatch h), by simp, ?_, ⟨fun _ => rfl, by lia, fun _ z => by lia, by simp⟩, .empty, ?_⟩
   · revert hl0; refine xE1 fun a => aE2 fun a1 a2 => ?_
     exact ⟨a, by rw [ln₁]; exact a1, a2.keep K₄, fun z => (by have := hO₄ a z; rw [a2.1] at this; cases this), fun z => (by have := a2.1; rw [z, hqσ] at this; cases this)⟩
   · rcases hmv with ⟨_, _, z⟩ | z
     · rw [z]; exact fun _ h => nomatch h
     · exact fun m hm => hrm m (z.mem_iff.mpr (.tail _ hm))
 have hD : dv w e.qd.toNat (d + 1) pl = mxl ((w.mvs pl).map (RR w e.qd.toNat d pl)) := by
   rw [dv, if_neg hnd, if_neg hne]; rfl
 have hall : (w.mvs pl).map (RR w e.qd.toNat d pl) ≠ [] := by simpa using mvs_ne hne
 have hE : ∀ σ' v' (m' : Loc) best bm l pk, SN e q pl d alpha0 beta side pv qa pk m' → m' "best" = some (.int best) → m' "best_move" = some (.int bm) → After e w σ v q.length σ' v' → LineIs e σ' v' q.length l → 0 ≤ bm ∧ bm ≤ (w.ways pl).length → MPost w e.qd.toNat d pl q.length pv alpha0 beta best l →
     wpSs (CallSat W r) smE m' σ' (bodyQ Q) := by
   intro σ' v' m' best bm l pk n g1 g2 AF Ln hbm M
   exists sm_eq7, os (n.ctx), os (n.key), os (g1), os (g2), os (n.start), os (n.beta), os (n.depth), os (n.ply)
   refine x_keep_value H (by first | exact rk hr rfl | lia) hw C (B.keep AF.keep) AF.st AF.ei (by lia) (d := d + 1) (by lia) (by lia) N.lt hab hbm.1 hbm.2 M.t fun σ₂ ls K₂ S₂ I₂ => ?_
   exists os (g2), os (n.ctx), os (n.key), os (g1)
   revert Ln; refine xE1 fun a => aE2 fun a1 a2 => ?_
   exact h σ₂ _ best l ⟨AF.keep.trans K₂, S₂, I₂, AF.p, AF.made, AF.len, AF.low⟩ ⟨a, a1, a2.keep K₂⟩ M
 exists sm_eq3
 refine ⟨k₄.rem.length + 1 + 1, while_inv (fun n m' σ' => ∃ k' mv v' best alpha bm cs l ql fst, SN e q pl d alpha0 beta side pv qa k'.pk m' ∧ m' "best" = some (.int best) ∧ m' "alpha" = some (.int alpha) ∧ m' "best_move" = some (.int bm) ∧ m' "move" = some (.int mv) ∧ m' "is_first" = some (.bool fst) ∧
     SE e w σ v d pl q.length pv alpha0 beta qa k' best alpha bm cs l ql σ' v' ∧ ((mv = 0 ∧ cs.Perm ((w.mvs pl).map (RR w e.qd.toNat d pl))) ∨ (1 ≤ mv ∧ mv ≤ (w.ways pl).length ∧ k'.rem.length < n ∧ k'.rem.length ≤ 100 ∧ ql.length + k'.rem.length + 1 ≤ 50 ∧ (cs ++ (mv :: k'.rem).map (RR w e.qd.toNat d pl)).Perm ((w.mvs pl).map (RR w e.qd.toNat d pl))))) ?_ (k₄.rem.length + 1)
   ⟨k₄, mv, v₁, -32001, alpha0, 0, [], [], [], true, ⟨?_, ?_, ?_, ?_, ?_, ?_, ?_, ?_, ?_, ?_, ?_⟩, ?_, ?_, ?_, ?_, ?_, SE₄, ?_⟩⟩
 · rintro n m' σ' oy0; revert oy0; refine xE10 fun k' mv' v' best' alpha' bm cs l ql fst => aE8 fun sn g1 g2 g3 g4 g5 E' hd' => ?_; rintro K c1 c2 c3 c4
   exists os (g4)
   refine ⟨fun hne0 => ?_, fun h0 => ?_⟩
   · rcases hd' with ⟨z, _⟩ | ⟨m1, m2, hn, hz', hq50, hp'⟩
     · exact absurd z hne0
     have AF := E'.aft
     have B' := B.keep AF.keep
     have N' : Nd w v' q pl := ⟨by rw [AF.p]; exact N.pe, N.ql, N.lt, N.root⟩
     have hal := E'.lp.al (by lia)
     have hlt := E'.lp.lt hab
     have hkid := kid_up hw N.lt m1 m2
     have nx : ∀ σ₅ v₅ best'' alpha'' bm'' cs'' l'' ql'' (m'' : Loc), SN e q pl d alpha0 beta side pv qa k'.pk m'' → m'' "best" = some (.int best'') → m'' "alpha" = some (.int alpha'') → m'' "best_move" = some (.int bm'') → m'' "is_first" = some (.bool false) →
         SE e w σ v d pl q.length pv alpha0 beta qa k' best'' alpha'' bm'' cs'' l'' ql'' σ₅ v₅ → ql''.length + k'.rem.length ≤ 50 → (cs'' ++ k'.rem.map (RR w e.qd.toNat d pl)).Perm ((w.mvs pl).map (RR w e.qd.toNat d pl)) →
         CallSat W r (.me "Picker" "next") [.ref k'.pk] σ₅ (fun v σ => K .next (m''.set "move" v) σ) := by
       intro σ₅ v₅ best'' alpha'' bm'' cs'' l'' ql'' m'' sn' x1 x2 x3 x4 E₅ hql hpp
       refine p_next H (by first | exact rk hr rfl | lia) hw C B E₅.aft.keep E₅.aft.st E₅.aft.ei.kok E₅.pk E₅.own (E₅.aft.p.trans N.pe) (by lia) N.lt hz' E₅.rem fun σ₆ k₆ mv₆ A₆ Ow₆ hk₆ hmv₆ K₆ S₆ hO₆ => ?_
       exists true_and
       cases n with
       | zero => lia
       | succ n =>
       obtain ⟨la, la1, la2, la3, la4⟩ := E₅.line
       have lat : ∃ a, v₅.lns[q.length]? = some a ∧ LnAt e σ₆ a l'' ∧ ¬ k₆.O a ∧ a ≠ qa := by
         refine ⟨la, la1, ⟨Ow₆.keep la _ la3 la2.1, la2.2⟩, fun z => ?_, la4⟩
         rcases Ow₆.own la z with z | z
         · exact la3 z
         · rw [la2.1] at z; cases z
       have qo₆ : ¬ k₆.O qa := fun z => by
         rcases Ow₆.own qa z with z | z
         · exact E₅.qo z
         · rw [E₅.qt.1] at z; cases z
       have E₆ : SE e w σ v d pl q.length pv alpha0 beta qa k₆ best'' alpha'' bm'' cs'' l'' ql'' σ₆ v₅ := by
         refine ⟨A₆, hO₆, ⟨K₆, S₆, E₅.aft.ei, E₅.aft.p, E₅.aft.made, E₅.aft.len, E₅.aft.low⟩, ⟨Ow₆.keep qa _ E₅.qo E₅.qt.1, E₅.qt.2⟩, qo₆, E₅.qm, E₅.qz, lat, E₅.ls, E₅.lp, ?_⟩
         rcases hmv₆ with ⟨_, _, z⟩ | z
         · rw [z]; exact fun _ h => nomatch h
         · exact fun m hm => E₅.rem m (z.mem_iff.mpr (.tail _ hm))
       refine c1 n _ _ rfl ⟨k₆, mv₆, v₅, best'', alpha'', bm'', cs'', l'', ql'', false, (by rw [hk₆]; repeat first | exact sn' | refine SN.set ?_ (by kernel_rfl)), ?_, ?_, ?_, ?_, ?_, E₆, ?_⟩
       any_goals (exists sn'.ctx, sn'.key, sn'.beta, sn'.depth, sn'.ply, sn'.is_pv, sn'.game, sn'.side, sn'.start, sn'.quiets, sn'.picker, x1, x2, x3, x4, hk₆; done)
       rcases hmv₆ with ⟨z1, z2, _⟩ | z
       · refine .inl ⟨z1, ?_⟩
         rw [z2, List.map_nil, List.append_nil] at hpp
         exact hpp
       · have z' := E₅.rem mv₆ (z.mem_iff.mpr (.head _))
         have zl := z.length_eq
         simp only [List.length_cons] at zl
         exact .inr ⟨z'.1, z'.2, by lia, by lia, by lia, ((z.map _).append_left _).symm.trans hpp⟩
     have hQ : ∀ σ₅ v₅ best'' alpha'' bm'' cs'' l'' isN (m'' : Loc), SN e q pl d alpha0 beta side pv qa k'.pk m'' → m'' "best" = some (.int best'') → m'' "alpha" = some (.int alpha'') → m'' "best_move" = some (.int bm'') → m'' "is_first" = some (.bool false) → m'' "move" = some (.int mv') → m'' "is_noisy" = some (.bool isN) →
         SE e w σ v d pl q.length pv alpha0 beta qa k' best'' alpha'' bm'' cs'' l'' ql σ₅ v₅ → (cs'' ++ k'.rem.map (RR w e.qd.toNat d pl)).Perm ((w.mvs pl).map (RR w e.qd.toNat d pl)) →
         wpSs (CallSat W r) smQ m'' σ₅ K := by
       intro σ₅ v₅ best'' alpha'' bm'' cs'' l'' isN m'' sn' x1 x2 x3 x4 x5 x6 E₅ hpp
       exists sm_eq6, os (x6), os (sn'.quiets), os (a_list E₅.qt.1 (.inl rfl)), os (sn'.picker), os (x5), m_app E₅.qt.1, os (a_inst E₅.pk.pk.1 E₅.pk.pd.1 mo_Picker_next (gi_pnext e k'))
       refine ⟨fun _ => ?_, fun _ => nx σ₅ v₅ best'' alpha'' bm'' cs'' l'' ql m'' sn' x1 x2 x3 x4 E₅ (by lia) hpp⟩
       have hql := E₅.qz
       refine ⟨by simp; unfold sizeOk; lia, ?_⟩
       have e1 : (ql.map V.int ++ [V.int mv']) = (ql ++ [mv']).map V.int := by rw [List.map_append]; rfl
       rw [e1]
       obtain ⟨la, la1, la2, la3, lne⟩ := E₅.line
       have npk : k'.pk ≠ qa := fun z => by have := E₅.pk.pk.1; rw [z, E₅.qt.1] at this; cases this
       have own : ∀ a, k'.O a → a ≠ qa := fun a ha z => E₅.qo (z ▸ ha)
       have Pk' : PkAt (σ₅.set qa (.list ((ql ++ [mv']).map .int))) e k' := ⟨E₅.pk.pk.setNe npk, E₅.pk.pd.setNe (own _ (.inl rfl)), E₅.pk.ra.setNe (own _ (.inr (.inr (.inl rfl)))), fun z => ⟨(E₅.pk.la z).1.setNe (own _ (.inr (.inl rfl))), (E₅.pk.la z).2⟩, fun z => ⟨(E₅.pk.ga z).1.setNe (own _ (.inr (.inr (.inr rfl)))), (E₅.pk.ga z).2⟩, E₅.pk.lt, E₅.pk.ply, E₅.pk.nd, fun a ha => ex_set (E₅.pk.ex a ha)⟩
       have Kx : Keep e.D σ (σ₅.set qa (.list ((ql ++ [mv']).map .int))) := fun a o dd z => by
         rw [set_ne (fun y => by rw [y, hqσ] at z; cases z)]; exact E₅.aft.keep a o dd z
       have Sx : St (σ₅.set qa (.list ((ql ++ [mv']).map .int))) e v₅ := fun m a z => by
         rw [set_ne (fun y => E₅.qt.2 ⟨m, by rw [← y]; exact z⟩)]; exact E₅.aft.st m a z
       have E₆ : SE e w σ v d pl q.length pv alpha0 beta qa k' best'' alpha'' bm'' cs'' l'' (ql ++ [mv']) (σ₅.set qa (.list ((ql ++ [mv']).map .int))) v₅ :=
         ⟨Pk', E₅.own, ⟨Kx, Sx, E₅.aft.ei, E₅.aft.p, E₅.aft.made, E₅.aft.len, E₅.aft.low⟩, ⟨set_at, E₅.qt.2⟩, E₅.qo, fun m hm => by
           rcases List.mem_append.mp hm with hm | hm
           · exact E₅.qm m hm
           · rw [List.mem_singleton] at hm; lia, by simp; lia, ⟨la, la1, At.setNe la2 lne, la3, lne⟩, E₅.ls, E₅.lp, E₅.rem⟩
       have z := nx _ v₅ best'' alpha'' bm'' cs'' l'' (ql ++ [mv']) m'' sn' x1 x2 x3 x4 E₆ (by simp; lia) hpp
       exists os (sn'.picker), os (a_inst E₆.pk.pk.1 E₆.pk.pd.1 mo_Picker_next (gi_pnext e k'))
       exact z
     have hC : ∀ val lc σ₆ v₆ l₆ isN (m₆ : Loc), SN e q pl d alpha0 beta side pv qa k'.pk m₆ → m₆ "best" = some (.int val) → m₆ "value" = some (.int val) → m₆ "alpha" = some (.int alpha') → m₆ "best_move" = some (.int mv') → m₆ "is_first" = some (.bool false) → m₆ "move" = some (.int mv') → m₆ "is_noisy" = some (.bool isN) →
         PkAt σ₆ e k' → After e w σ v q.length σ₆ v₆ → At e.D σ₆ qa (.list (ql.map .int)) → (∃ a, v₆.lns[q.length]? = some a ∧ LnAt e σ₆ a l₆ ∧ ¬ k'.O a ∧ a ≠ qa) → CPost w e.qd.toNat d (w.kid pl mv') q.length pv alpha' beta val lc → alpha' < val → (pv = true → l₆ = mv' :: lc) → l₆.length ≤ d + 1 →
         wpSs (CallSat W r) smC m₆ σ₆ (aft (fun m σ => wpSs (CallSat W r) smQ m σ K) K) := by
       intro val lc σ₆ v₆ l₆ isN m₆ sn' x1 x2 x3 x4 x5 x6 x7 P₆ AF₆ Q₆ Ln₆ cp hav hpv hlen
       have hC₆ := AF₆.st.ctxd
       have B₆ := B.keep AF₆.keep
       obtain ⟨u, eu, hM, t1, t2, t3⟩ := cp.t
       have brk : ∀ σ₇ v₇ (m₇ : Loc), SN e q pl d alpha0 beta side pv qa k'.pk m₇ → m₇ "best" = some (.int val) → m₇ "best_move" = some (.int mv') → After e w σ v q.length σ₇ v₇ → LineIs e σ₇ v₇ q.length l₆ → beta ≤ val → K .brk m₇ σ₇ := by
         intro σ₇ v₇ m₇ sn₇ z1 z2 AF₇ Ln₇ hb
         refine c3 _ _ (hE σ₇ v₇ m₇ val mv' l₆ _ sn₇ z1 z2 AF₇ Ln₇ ⟨by lia, m2⟩ ⟨⟨u, eu, hM, fun _ => by lia, fun _ => ?_, fun _ _ => by lia⟩, fun _ => by lia, fun _ _ _ => by lia, fun zp _ => ⟨mv', lc, hpv zp, m1, m2, ⟨u, eu, hM, t2 hb⟩, cp.nil⟩, hlen⟩)
         have : RR w e.qd.toNat d pl mv' ≤ dv w e.qd.toNat (d + 1) pl := by
           rw [hD]; exact mxl_ge (hp'.mem_iff.mp (by simp))
         have := t2 hb
         unfold RR at *
         lia
       exists sm_eq8, os (x2), os (x7), os (sn'.beta), os (sn'.ctx), fc_game B₆.ctx.1 hC₆, fc_table B₆.ctx.1 hC₆, fc_killers B₆.ctx.1 hC₆, fc_history B₆.ctx.1 hC₆, fc_qdepth B₆.ctx.1 hC₆, fc_is_exact B₆.ctx.1 hC₆, fc_max_nodes B₆.ctx.1 hC₆, fc_nodes B₆.ctx.1 hC₆, fc_made B₆.ctx.1 hC₆, fc_lines B₆.ctx.1 hC₆, rsa B₆.ctx.1 hC₆ ao_SearchContext_nodes, rsa B₆.ctx.1 hC₆ ao_SearchContext_made, os (B₆.ctx.1), os (hC₆), ctxF, c_isnot_if, os (sn'.side), os (sn'.ply), os (sn'.depth), os (x6), os (sn'.quiets)
       have Ln₆' : LineIs e σ₆ v₆ q.length l₆ := let ⟨a, b, c, _⟩ := Ln₆; ⟨a, b, c⟩
       refine ⟨fun hb => ⟨fun _ => ⟨fun hK => ⟨fun _ => ?_, fun z => by rw [hK] at z; cases z⟩, fun _ => brk σ₆ v₆ m₆ sn' x1 x4 AF₆ Ln₆' hb⟩, fun _ => brk σ₆ v₆ m₆ sn' x1 x4 AF₆ Ln₆' hb⟩, fun hb => ?_⟩
       · exists hK, os (x1), os (x2), os (x3), os (x4), os (x5), os (x6), os (x7), os (sn'.beta), os (sn'.ctx), fc_game B₆.ctx.1 hC₆, fc_table B₆.ctx.1 hC₆, fc_killers B₆.ctx.1 hC₆, fc_history B₆.ctx.1 hC₆, fc_qdepth B₆.ctx.1 hC₆, fc_is_exact B₆.ctx.1 hC₆, fc_max_nodes B₆.ctx.1 hC₆, fc_nodes B₆.ctx.1 hC₆, fc_made B₆.ctx.1 hC₆, fc_lines B₆.ctx.1 hC₆, rsa B₆.ctx.1 hC₆ ao_SearchContext_nodes, rsa B₆.ctx.1 hC₆ ao_SearchContext_made, os (B₆.ctx.1), os (hC₆), ctxF, c_isnot_if, os (sn'.side), os (sn'.ply), os (sn'.depth), os (sn'.quiets)
         refine x_reward H (by first | exact rk hr rfl | lia) C B₆ AF₆.st hK AF₆.ei.kok sd1 sd2 (by lia) (by lia) (by lia) (by lia) (by lia) Q₆ E'.qm (by have := E'.qz; lia) fun σ₇ f s sc B₇ S₇ K₇ O₇ => ?_
         exists os (x1), os (x2), os (x3), os (x4), os (x5), os (x6), os (x7), os (sn'.beta), os (sn'.ctx), os (sn'.side), os (sn'.ply), os (sn'.depth), os (sn'.quiets), os (sn'.is_pv)
         refine brk σ₇ _ m₆ sn' x1 x4 ⟨AF₆.keep.trans K₇, S₇, ⟨O₇, AF₆.ei.ln, AF₆.ei.sn, AF₆.ei.sl⟩, AF₆.p, AF₆.made, AF₆.len, AF₆.low⟩ ?_ hb
         revert Ln₆'; refine xE1 fun a => aE2 fun a1 a2 => ?_
         exact ⟨a, a1, a2.keep K₇⟩
       · have st := Lp.step E'.lp (by lia) (by lia) (by lia) cp.t (by lia)
         rw [if_pos (by lia), if_pos hav] at st
         refine hQ σ₆ v₆ val val mv' _ l₆ isN _ (by repeat first | exact sn' | refine SN.set ?_ (by kernel_rfl)) ?_ ?_ ?_ ?_ ?_ ?_ ⟨P₆, E'.own, AF₆, Q₆, E'.qo, E'.qm, E'.qz, Ln₆, ⟨fun _ => by lia, ⟨by lia, m2⟩, fun zp _ => ?_, hlen⟩, st, E'.rem⟩ ?_
         any_goals (exists sn'.ctx, sn'.key, sn'.beta, sn'.depth, sn'.ply, sn'.is_pv, sn'.game, sn'.side, sn'.start, sn'.quiets, sn'.picker, x1, x2, x3, x4, x5, x6, x7; done)
         · refine (xE1 fun uc => aE3 fun e1 e2 e3 => ?_) (cp.leads zp hav (by lia))
           refine ⟨rsd uc, e1, e2.rsd (by lia), ?_⟩
           rw [hpv zp]
           exact ⟨hnd, m1, m2, uc, e3, rfl⟩
         · rw [List.append_assoc]; exact hp'
     have hA : ∀ val lc σ₅ v₅ best'' isN (m₅ : Loc), SN e q pl d alpha0 beta side pv qa k'.pk m₅ → m₅ "best" = some (.int best'') → m₅ "value" = some (.int val) → m₅ "alpha" = some (.int alpha') → m₅ "best_move" = some (.int bm) → m₅ "is_first" = some (.bool false) → m₅ "move" = some (.int mv') → m₅ "is_noisy" = some (.bool isN) →
         best'' = (if best' < val then val else best') → PkAt σ₅ e k' → After e w σ v q.length σ₅ v₅ → At e.D σ₅ qa (.list (ql.map .int)) → (∃ a, v₅.lns[q.length]? = some a ∧ LnAt e σ₅ a l ∧ ¬ k'.O a ∧ a ≠ qa) → LineIs e σ₅ v₅ (q.length + 1) lc → CPost w e.qd.toNat d (w.kid pl mv') q.length pv alpha' beta val lc →
         wpSs (CallSat W r) smA m₅ σ₅ K := by
       intro val lc σ₅ v₅ best'' isN m₅ sn' x1 x2 x3 x4 x5 x6 x7 hb'' P₅ AF₅ Q₅ Ln₅ Lc₅ cp
       exists sm_eq5, os (x2), os (x3), os (x6), os (sn'.is_pv), os (sn'.ctx), os (sn'.ply)
       refine ⟨fun hav => ?_, fun hav => ?_⟩
       · have hbv : best'' = val := by rw [hb'', if_pos (by lia)]
         subst hbv
         refine ⟨fun hpv => ?_, fun hpv => ?_⟩
         · revert Lc₅; refine xE1 fun lb => aE2 fun lb1 lb2 => ?_
           have hll := cp.len
           have hlz := AF₅.ei.ln
           refine x_set_line H (by first | exact rk hr rfl | lia) (B.keep AF₅.keep) AF₅.st (by lia) lb1 lb2 (by lia) fun σ₆ a B₆ S₆ K₆ La ha => ?_
           exists os (x1), os (x2), os (x3), os (x4), os (x5), os (x6), os (x7), os (sn'.beta), os (sn'.ctx), os (sn'.side), os (sn'.ply), os (sn'.depth), os (sn'.quiets), os (sn'.is_pv)
           have hal := AF₅.len
           refine hC _ lc σ₆ _ (mv' :: lc) isN _ (by repeat first | exact sn' | refine SN.set ?_ (by kernel_rfl)) ?_ ?_ ?_ ?_ ?_ ?_ ?_ (P₅.keep K₆) ⟨AF₅.keep.trans K₆, S₆, ⟨⟨AF₅.ei.kok.f, AF₅.ei.kok.s, AF₅.ei.kok.h⟩, by simp; lia, AF₅.ei.sn, AF₅.ei.sl⟩, AF₅.p, AF₅.made, by simp; lia, fun i b hi hb => by rw [List.getElem?_set_ne (by lia)]; exact AF₅.low i b hi hb⟩ (Q₅.keep K₆)
             ⟨a, by rw [List.getElem?_set_self hal], La, fun z => ?_, fun z => ?_⟩ cp hav (fun _ => rfl) (by simp; lia)
           any_goals (exists sn'.ctx, sn'.key, sn'.beta, sn'.depth, sn'.ply, sn'.is_pv, sn'.game, sn'.side, sn'.start, sn'.quiets, sn'.picker, x1, x2, x3, x4, x5, x6, x7; done)
           · obtain ⟨o, ho⟩ := P₅.ex a z
             rw [ho] at ha; cases ha
           · rw [z, Q₅.1] at ha; cases ha
         · refine hC _ lc σ₅ v₅ l isN _ (by repeat first | exact sn' | refine SN.set ?_ (by kernel_rfl)) ?_ ?_ ?_ ?_ ?_ ?_ ?_ P₅ AF₅ Q₅ Ln₅ cp hav (fun z => by rw [hpv] at z; cases z) E'.ls.len
           any_goals (exists sn'.ctx, sn'.key, sn'.beta, sn'.depth, sn'.ply, sn'.is_pv, sn'.game, sn'.side, sn'.start, sn'.quiets, sn'.picker, x1, x2, x3, x4, x5, x6, x7; done)
       · have st := Lp.step E'.lp (by lia) (by lia) (by lia) cp.t (by lia)
         rw [← hb'', if_neg hav] at st
         refine hQ σ₅ v₅ best'' alpha' bm _ l isN m₅ sn' x1 x3 x4 x5 x6 x7 ⟨P₅, E'.own, AF₅, Q₅, E'.qo, E'.qm, E'.qz, Ln₅, ⟨fun z => ?_, E'.ls.bm0, fun zp z => ?_, E'.ls.len⟩, st, E'.rem⟩ (by rw [List.append_assoc]; exact hp')
         · refine E'.ls.low ?_
           split at hb'' <;> lia
         · have : best'' = best' := by split at hb'' <;> lia
           rw [this] at z ⊢
           exact E'.ls.leads zp z
     exists sm_eq4, os (sn.game), os (sn.ctx), os (sn.beta), os (sn.depth), os (sn.ply), os (sn.is_pv), os (g1), os (g2), os (g4), os (g5), os (a_inst B'.game.1 B'.gd.1 mo_TreeGame_is_noisy (gi_is_noisy e))
     refine g_is_noisy H (by first | exact rk hr rfl | lia) hw B' AF.st N'.pe (by lia) N.lt m1 m2 fun isN _ => ?_
     exists os (sn.game), os (sn.ctx), os (sn.beta), os (sn.depth), os (sn.ply), os (sn.is_pv), os (g1), os (g2), os (g3), os (g4), os (g5)
     refine x_step_into H (by first | exact rk hr rfl | lia) hw B' AF.st N'.pe (by lia) N.lt m1 m2 fun c σ₃ hc B₃ S₃ K₃ => ?_
     exists os (sn.game), os (sn.ctx), os (sn.beta), os (sn.depth), os (sn.ply), os (sn.is_pv), os (g1), os (g2), os (g3), os (g4), os (g5)
     have hcc : c = w.kid pl mv' := by have := kid_get m1 m2; rw [hc] at this; exact Option.some.inj this
     subst hcc
     have N₃ : Nd w { v' with p := v'.p ++ [w.kid pl mv'], made := v'.made + 1 } (q ++ [pl]) (w.kid pl mv') := N'.kid hw m1 m2 rfl
     refine x_search_child H hw C (by lia) ih (by lia) B₃ S₃ ⟨⟨AF.ei.kok.f, AF.ei.kok.s, AF.ei.kok.h⟩, AF.ei.ln, AF.ei.sn, AF.ei.sl⟩ N₃ (by lia) (by have := AF.len; show q.length + 1 ≤ v'.lns.length; lia) fun σ₄ v₄ val lc A₄ Lc₄ cp => ?_
     exists ck, os (sn.game), os (sn.ctx), os (sn.beta), os (sn.depth), os (sn.ply), os (sn.is_pv), os (g1), os (g2), os (g3), os (g4), os (g5)
     have p₄ : v₄.p = (q ++ [pl]) ++ [w.kid pl mv'] := by rw [A₄.p]; show v'.p ++ _ = _; rw [N'.pe]
     refine x_step_back H (by first | exact rk hr rfl | lia) (B₃.keep A₄.keep) A₄.st p₄ (by simp; lia) (by simp) fun σ₅ B₅ S₅ K₅ => ?_
     exists ck, os (sn.game), os (sn.ctx), os (sn.beta), os (sn.depth), os (sn.ply), os (sn.is_pv), os (g1), os (g2), os (g3), os (g4), os (g5)
     have K35 := K₃.trans (A₄.keep.trans K₅)
     have AF₅ : After e w σ v q.length σ₅ { v₄ with p := q ++ [pl], made := v₄.made - 1 } := by
       refine ⟨AF.keep.trans K35, S₅, ⟨⟨A₄.ei.kok.f, A₄.ei.kok.s, A₄.ei.kok.h⟩, A₄.ei.ln, A₄.ei.sn, A₄.ei.sl⟩, N.pe.symm, ?_, ?_, fun i a hi z => ?_⟩
       · show v₄.made - 1 = v.made
         have h1 := A₄.made
         have h2 := AF.made
         have h3 : ({ v' with p := v'.p ++ [w.kid pl mv'], made := v'.made + 1 } : Sv).made = v'.made + 1 := rfl
         lia
       · have := A₄.len; show q.length < v₄.lns.length; lia
       · exact A₄.low i a (by lia) (AF.low i a hi z)
     obtain ⟨la, la1, la2, la3, la4⟩ := E'.line
     have Ln₅ : ∃ a, ({ v₄ with p := q ++ [pl], made := v₄.made - 1 } : Sv).lns[q.length]? = some a ∧ LnAt e σ₅ a l ∧ ¬ k'.O a ∧ a ≠ qa := ⟨la, A₄.low q.length la (by lia) la1, la2.keep K35, la3, la4⟩
     have Lc₅ : LineIs e σ₅ { v₄ with p := q ++ [pl], made := v₄.made - 1 } (q.length + 1) lc := let ⟨a, a1, a2⟩ := Lc₄; ⟨a, a1, a2.keep K₅⟩
     exists ck, os (sn.game), os (sn.ctx), os (sn.beta), os (sn.depth), os (sn.ply), os (sn.is_pv), os (g1), os (g2), os (g3), os (g4), os (g5)
     refine ⟨fun hb => ?_, fun hb => ?_⟩
     · refine hA val lc σ₅ _ val isN _ (by repeat first | exact sn | refine SN.set ?_ (by kernel_rfl)) ?_ ?_ ?_ ?_ ?_ ?_ ?_ (by rw [if_pos hb]) (E'.pk.keep K35) AF₅ (E'.qt.keep K35) Ln₅ Lc₅ cp
       any_goals (exists ck, sn.ctx, sn.key, sn.beta, sn.depth, sn.ply, sn.is_pv, sn.game, sn.side, sn.start, sn.quiets, sn.picker, g1, g2, g3, g4, g5; done)
     · refine hA val lc σ₅ _ best' isN _ (by repeat first | exact sn | refine SN.set ?_ (by kernel_rfl)) ?_ ?_ ?_ ?_ ?_ ?_ ?_ (by rw [if_neg hb]) (E'.pk.keep K35) AF₅ (E'.qt.keep K35) Ln₅ Lc₅ cp
       any_goals (exists ck, sn.ctx, sn.key, sn.beta, sn.depth, sn.ply, sn.is_pv, sn.game, sn.side, sn.start, sn.quiets, sn.picker, g1, g2, g3, g4, g5; done)
   · rcases hd' with ⟨_, hp'⟩ | ⟨z, _⟩
     · have L := E'.lp.perm hp'
       refine hE σ' v' m' best' bm l _ sn g1 g3 E'.aft (let ⟨a, b, c, _⟩ := E'.line; ⟨a, b, c⟩) E'.ls.bm0 ⟨?_, E'.ls.low, fun a b c => E'.ls.leads a b, fun a b => ?_, E'.ls.len⟩
       · rw [hD]
         exact L.done hall (fun c hc => mxl_ge hc) (mxl_in hall)
       · have := L.blt hall; lia
     · lia
 all_goals try (exists ck, y1, y2, y3, y4, y5, y6, y7, y8, y9, y10, hk₄; done)
 · rcases hmv with ⟨_, z, _⟩ | z
   · rw [hrem] at z; exact absurd z (mvs_ne hne)
   · have z' := hrm mv (z.mem_iff.mpr (.head _))
     rw [hrem] at z
     exact .inr ⟨z'.1, z'.2, by lia, by lia, by simp; lia, by rw [List.nil_append]; exact (z.map _).symm⟩
end
noncomputable def seA : PSs := b_search.tl.tl
noncomputable def seB : PSs := seA.tl.tl.tl
noncomputable def seC : PSs := seB.tl.tl.tl.tl.tl.tl.tl
noncomputable def seD : PSs := seC.tl.tl
noncomputable def seM : PSs := seD.tl
theorem se_eq1 : b_search = (.cons (.expr (.call "clear_line" (.cons (.loc "ctx") (.cons (.loc "ply") .nil))))
   (.cons (.ite (.cmp .LtE (.loc "depth") (.int 0)) (.cons (.ret (.call "quiesce" (.cons (.loc "ctx") (.cons (.loc "alpha") (.cons (.loc "beta") (.cons (.loc "ply") (.cons (.attr (.loc "ctx") "qdepth") .nil)))))))
   .nil) .nil) seA)) := rfl
theorem se_eq2 : seA = (.cons (.expr (.meth (.loc "ctx") "tick" .nil))
   (.cons (.asgn "game" (.attr (.loc "ctx") "game"))
   (.cons (.ite (.bop .And (.cons (.cmp .Gt (.loc "ply") (.int 0)) (.cons (.meth (.loc "game") "is_draw" .nil) .nil))) (.cons (.ret (.glob "DRAW" 0))
   .nil) .nil) seB))) := rfl
theorem se_eq3 : seB = (.cons (.asgn "low" (.call "mated_in" (.cons (.loc "ply") .nil)))
   (.cons (.asgn "high" (.call "mate_in" (.cons (.bin .Add (.loc "ply") (.int 1)) .nil)))
   (.cons (.ite (.cmp .GtE (.loc "alpha") (.loc "high")) (.cons (.ret (.loc "high"))
   .nil) .nil)
   (.cons (.ite (.cmp .LtE (.loc "beta") (.loc "low")) (.cons (.ret (.loc "low"))
   .nil) .nil)
   (.cons (.asgn "alpha" (.bi .max (.cons (.loc "alpha") (.cons (.loc "low") .nil))))
   (.cons (.asgn "beta" (.bi .min (.cons (.loc "beta") (.cons (.loc "high") .nil))))
   (.cons (.asgn "key" (.meth (.loc "game") "key" .nil)) seC))))))) := rfl
theorem se_eq4 : seC = (.cons (.asgnT ["table_move", "value"] (.call "look_up" (.cons (.loc "ctx") (.cons (.loc "key") (.cons (.loc "alpha") (.cons (.loc "beta") (.cons (.loc "depth") (.cons (.loc "ply") .nil))))))))
   (.cons (.ite (.bop .And (.cons (.cmp .IsNot (.loc "value") .none) (.cons (.not (.loc "is_pv")) .nil))) (.cons (.ret (.loc "value"))
   .nil) .nil) seD)) := rfl
theorem se_eq5 : seD = (.cons (.ite (.bop .And (.cons (.loc "is_pv") (.cons (.cmp .Eq (.loc "table_move") (.glob "NO_MOVE" 0)) (.cons (.cmp .GtE (.loc "depth") (.glob "IID_DEPTH" 4)) (.cons (.cmp .IsNot (.attr (.loc "ctx") "table") .none) .nil))))) (.cons (.expr (.call "search" (.cons (.loc "ctx") (.cons (.loc "alpha") (.cons (.loc "beta") (.cons (.bin .Sub (.loc "depth") (.int 2)) (.cons (.loc "ply") (.cons (.loc "is_pv") .nil))))))))
   (.cons (.asgnT ["table_move", "value"] (.call "look_up" (.cons (.loc "ctx") (.cons (.loc "key") (.cons (.loc "alpha") (.cons (.loc "beta") (.cons (.loc "depth") (.cons (.loc "ply") .nil))))))))
   (.cons (.expr (.call "clear_line" (.cons (.loc "ctx") (.cons (.loc "ply") .nil))))
   .nil))) .nil) seM) := rfl
theorem se_eq6 : seM = (.cons (.asgn "moves" (.meth (.loc "game") "moves" .nil))
   (.cons (.ite (.not (.loc "moves")) (.cons (.ite (.meth (.loc "game") "in_check" .nil) (.cons (.ret (.call "mated_in" (.cons (.loc "ply") .nil)))
   .nil) .nil)
   (.cons (.ret (.glob "DRAW" 0))
   .nil)) .nil)
   (.cons (.ret (.call "search_moves" (.cons (.loc "ctx") (.cons (.loc "moves") (.cons (.loc "table_move") (.cons (.loc "key") (.cons (.loc "alpha") (.cons (.loc "beta") (.cons (.loc "depth") (.cons (.loc "ply") (.cons (.loc "is_pv") .nil)))))))))))
   .nil))) := rfl
section
variable {W : Wld} {r : Nat} {σ σ₀ σ' : AH} {Q : V → AH → Prop} {e : EA} {w : Wd} {v : Sv} {q : List Nat} {pl : Nat} {k k' : Pk}
set_option tactic.hygienic true in
theorem dv_high {w : Wd} (hw : w.Ok) {P d pl : Nat} (hP : P ≤ 2) (hpl : pl < w.n) (hd : d ≤ 15) : dv w P (d + 1) pl ≤ 31999 := by
 rw [dv]
 split
 · decide
 · split
   · split <;> decide
   · rename_i hne
     refine mxl_all (P := (· ≤ 31999)) (mvs_ne hne) fun m hm => ?_
     obtain ⟨a, b⟩ := mvs_mem hm
     exact rsd_lt (dv_mg hw hP d _ (kid_up hw hpl a b).2 (Nat.le_trans hd (by decide))) (by lia)
theorem x_clear (H : IsK W) (hr : 1 ≤ r) (B : Base σ e w) (S : St σ e v) (I : EI e w v) {n : Nat} (hn : n ≤ 20) (hl : n ≤ v.lns.length)
   (h : ∀ σ' v', After e w σ v n σ' v' → LineIs e σ' v' n [] → Q .none σ') : CallSat W r (.fn "clear_line") [.ref e.ctx, .int n] σ Q := by
 have := I.ln
 refine x_clear_line H hr B S (by lia) (by lia) fun σ' l B' S' K' h1 h2 h3 h4 => ?_
 exists true_and
 exact h σ' _ ⟨K', S', ⟨⟨I.kok.f, I.kok.s, I.kok.h⟩, by show l.length ≤ 60; lia, I.sn, I.sl⟩, rfl, rfl, h1, h3⟩ h4
theorem leads_nil {w : Wd} {P d pl : Nat} {u : Int} : Leads w P d pl [] u = (dv w P d pl = u) := by cases d <;> rfl
theorem exactPost {w : Wd} (hw : w.Ok) {P d pl n : Nat} (hP : P ≤ 2) (hpl : pl < w.n) (hd : d ≤ 10) {pv : Bool} {alpha beta val : Int} (h : val = sv n (dv w P d pl)) : SPost w P d pl n pv alpha beta val [] :=
 ⟨⟨_, h, dv_mg hw hP d pl hpl (by lia), fun _ => by lia, fun _ => by lia, fun _ _ => rfl⟩, fun _ => rfl, fun _ _ _ => ⟨_, h, dv_mg hw hP d pl hpl (by lia), by unfold Leads; cases d <;> rfl⟩, by simp⟩
structure Win (n : Nat) (alpha beta al be : Int) : Prop where
 a : al = max alpha ((n : Int) - 32000)
 b : be = min beta (32000 - ((n : Int) + 1))
 ha : alpha < 32000 - ((n : Int) + 1)
 hb : (n : Int) - 32000 < beta
 ab : alpha < beta
theorem svH {n : Nat} : sv n 31999 = 32000 - ((n : Int) + 1) := (sv_hi (by decide)).trans (by lia)
theorem svL {n : Nat} : sv n (-32000) = (n : Int) - 32000 := (sv_lo (by decide)).trans (Int.add_comm ..)
theorem mn_le {a b c : Int} (h : min a b ≤ c) (h' : c < a) : b ≤ c := by lia
theorem le_mx {a b c : Int} (h : c ≤ max a b) (h' : a < c) : c ≤ b := by lia
theorem Win.lt {n : Nat} {alpha beta al be : Int} (W : Win n alpha beta al be) (hn : n ≤ 7) : al < be := by
 obtain ⟨a, b, ha, hb, ab⟩ := W
 rw [a, b]; exact Int.max_lt.mpr ⟨Int.lt_min.mpr ⟨ab, ha⟩, Int.lt_min.mpr ⟨hb, by lia⟩⟩
theorem Win.lo {n : Nat} {alpha beta al be : Int} (W : Win n alpha beta al be) : -32000 ≤ al := W.a ▸ le_tr _ (by lia) (Int.le_max_right ..)
theorem Win.T {w : Wd} (hw : w.Ok) {P d pl n : Nat} (hP : P ≤ 2) (hpl : pl < w.n) (hd : d ≤ 10) (hn : n ≤ 20) {alpha beta al be val : Int} (W : Win n alpha beta al be) (t : T n (d + 6) al be val (dv w P (d + 1) pl)) :
   T n (d + 6) alpha beta val (dv w P (d + 1) pl) ∧ (∀ u, val = sv n u → Mg (d + 6) u → alpha < val → val < beta → u = dv w P (d + 1) pl) ∧ (alpha < val → val < beta → be ≤ val → dv w P (d + 1) pl = 31999) := by
 revert t; refine xE1 fun u => aE5 fun eu hM t1 t2 t3 => ?_
 obtain ⟨a, b, ha, hb, ab⟩ := W
 have hM' := hM.up (show d + 6 ≤ 50 by lia)
 have n0 : (0 : Int) ≤ n := Int.natCast_nonneg n
 have n1 : (n : Int) ≤ 50 := by lia
 have hDl := ((dv_mg hw hP (d + 1) pl hpl (by lia)).bd (by lia)).1
 have hDh := dv_high hw hP hpl (show d ≤ 15 by lia)
 have hi : be ≤ val → val < beta → u = dv w P (d + 1) pl ∧ dv w P (d + 1) pl = 31999 := fun z y => by
   have q : 31999 ≤ u := (sv_le (mgh (by decide)) hM' n0 n1).mp (by rw [svH, ← eu]; exact mn_le (b ▸ z) y)
   exact ⟨Int.le_antisymm (t2 z) (le_tr _ hDh q), Int.le_antisymm hDh (le_tr _ q (t2 z))⟩
 have key : alpha < val → val < beta → u = dv w P (d + 1) pl := fun x y => by
   by_cases z1 : val ≤ al
   · have q : u ≤ -32000 := (sv_le hM' mgl n0 n1).mp (by rw [svL, ← eu]; exact le_mx (a ▸ z1) x)
     exact Int.le_antisymm (le_tr _ q hDl) (t1 z1)
   · by_cases z2 : be ≤ val
     · exact (hi z2 y).1
     · exact t3 (Int.not_le.mp z1) (Int.not_le.mp z2)
 refine ⟨⟨u, eu, hM, fun x => t1 (le_tr _ x (a ▸ Int.le_max_left ..)), fun x => t2 (le_tr _ (b ▸ Int.min_le_left ..) x), key⟩, fun u' e1 m1 x y => ?_, fun x y z => (hi z y).2⟩
 rw [sv_inj (m1.up (by lia)) hM' n0 n1 (e1.symm.trans eu)]; exact key x y
theorem Win.post {w : Wd} (hw : w.Ok) {P d pl n : Nat} (hP : P ≤ 2) (hpl : pl < w.n) (hd : d ≤ 10) (hn : n ≤ 20) {pv : Bool} {alpha beta al be val : Int} {l : List Int} (W : Win n alpha beta al be) (hne : w.ways pl ≠ []) (hnd : ¬ (0 < pl ∧ w.drw pl = true)) (M : MPost w P d pl n pv al be val l) : SPost w P (d + 1) pl n pv alpha beta val l := by
 refine (aE3 fun t ex hi => ?_) (W.T hw hP hpl hd hn M.t)
 refine ⟨t, fun z => absurd z hne, fun zp x y => ?_, M.len⟩
 revert t; refine xE1 fun u => aE5 fun eu hM _ _ _ => ?_
 have hu := ex u eu hM x y
 by_cases z1 : val ≤ al
 · rw [M.low z1]
   exact ⟨u, eu, hM, hu.symm⟩
 · by_cases z2 : be ≤ val
   · refine (xE2 fun m l' => aE5 fun e1 m1 m2 oy0 oy1 => ?_) (M.high zp z2); revert oy0; refine xE1 fun u' => aE3 fun e2 hM2 h3 => ?_; revert oy1; intro h4
     have hu' := ex u' e2 hM2 x y
     have h31 := hi x y z2
     have kid := kid_up hw hpl m1 m2
     have hk := dv_mg hw hP d (w.kid pl m) kid.2 (by lia)
     have hk0 : dv w P d (w.kid pl m) = -32000 := rsd_top hk (by lia) (by lia)
     rw [e1, h4 (dv_mate hw hP kid.2 (by lia) hk0)]
     refine ⟨u, eu, hM, hnd, m1, m2, -32000, by rw [leads_nil]; exact hk0, ?_⟩
     rw [hu, h31]; decide
   · exact M.leads zp (by lia) (by lia)
theorem x_search1 (H : IsK W) (hw : w.Ok) (C : e.Cf) (d : Nat) (hd : d ≤ 5) (ih : ∀ j, j < d → SeaOk W e w j (20 + 3 * j)) : SeaOk W e w d (20 + 3 * d) := by
 intro r σ v q pl alpha beta pv Q hr B S I N hab hln h
 have hqs := N.small hw
 have hql := N.ql
 have hP : e.qd.toNat ≤ 2 := by have := C.q2; lia
 have hlt := N.lt
 refine call_up (n := 19 + 3 * d) (by lia) fun r hr => call_def (fb_search H) rfl ?_
 exists se_eq1
 refine x_clear H (by first | exact rk hr rfl | lia) B S I (by lia) hln fun σ₁ v₁ A₁ L₁ => ?_
 exists true_and
 have B₁ := B.keep A₁.keep
 have N₁ : Nd w v₁ q pl := ⟨by rw [A₁.p]; exact N.pe, N.ql, N.lt, N.root⟩
 have hC₁ := A₁.st.ctxd
 exists fc_game B₁.ctx.1 hC₁, fc_table B₁.ctx.1 hC₁, fc_killers B₁.ctx.1 hC₁, fc_history B₁.ctx.1 hC₁, fc_qdepth B₁.ctx.1 hC₁, fc_is_exact B₁.ctx.1 hC₁, fc_max_nodes B₁.ctx.1 hC₁, fc_nodes B₁.ctx.1 hC₁, fc_made B₁.ctx.1 hC₁, fc_lines B₁.ctx.1 hC₁, rsa B₁.ctx.1 hC₁ ao_SearchContext_nodes, rsa B₁.ctx.1 hC₁ ao_SearchContext_made, os (B₁.ctx.1), os (hC₁), ctxF
 refine ⟨fun hd0 => ?_, fun hd0 => ?_⟩
 · have hd0' : d = 0 := by lia
   subst hd0'
   have e1 : e.qd = ((e.qd.toNat : Nat) : Int) := by have := C.q1; lia
   rw [e1]
   refine x_quiesce H hw C e.qd.toNat (by lia) r σ₁ v₁ q pl alpha beta _ (by lia) B₁ A₁.st A₁.ei.kok N₁ hab fun σ₂ n' val K₂ S₂ t => ?_
   exists true_and
   revert L₁; refine xE1 fun a => aE2 fun a1 a2 => ?_
   revert t; refine xE1 fun u => aE5 fun eu hM t1 t2 t3 => ?_
   refine h σ₂ _ val [] ⟨A₁.keep.trans K₂, S₂, ⟨⟨A₁.ei.kok.f, A₁.ei.kok.s, A₁.ei.kok.h⟩, A₁.ei.ln, A₁.ei.sn, A₁.ei.sl⟩, A₁.p, A₁.made, A₁.len, A₁.low⟩ ⟨a, a1, a2.keep K₂⟩ ⟨⟨u, eu, hM.up (by lia), t1, t2, t3⟩, fun _ => rfl, fun _ x y => ⟨u, eu, hM.up (by lia), (t3 x y).symm⟩, by simp⟩
 obtain ⟨d, rfl⟩ : ∃ j, d = j + 1 := ⟨d - 1, by lia⟩
 have ex : ∀ σ₂ v₂ val, After e w σ v q.length σ₂ v₂ → LineIs e σ₂ v₂ q.length [] → val = sv q.length (dv w e.qd.toNat (d + 1) pl) → Q (.int val) σ₂ := fun σ₂ v₂ val A L hv => h σ₂ v₂ val [] A L (exactPost hw hP N.lt (by lia) hv)
 have hM : ∀ σ₂ v₂ tm al be (m₂ : Loc), m₂ "ctx" = some (.ref e.ctx) → m₂ "depth" = some (.int ((d + 1 : Nat) : Int)) → m₂ "ply" = some (.int q.length) → m₂ "is_pv" = some (.bool pv) → m₂ "game" = some (.ref e.game) → m₂ "key" = some (.int ((pl : Int) + 1)) → m₂ "alpha" = some (.int al) → m₂ "beta" = some (.int be) → m₂ "table_move" = some (.int tm) →
     After e w σ v q.length σ₂ v₂ → LineIs e σ₂ v₂ q.length [] → ¬ (0 < pl ∧ w.drw pl = true) → Win q.length alpha beta al be → wpSs (CallSat W r) seM m₂ σ₂ (bodyQ Q) := by
   intro σ₂ v₂ tm al be m₂ x1 x2 x3 x4 x5 x6 x7 x8 x9 A₂ L₂ hnd Wn
   have B₂ := B.keep A₂.keep
   have N₂ : Nd w v₂ q pl := ⟨by rw [A₂.p]; exact N.pe, N.ql, N.lt, N.root⟩
   have hml : (w.mvs pl).length ≤ 7 := by rw [mvs_len]; exact hw.few pl
   exists se_eq6, os (x1), os (x2), os (x3), os (x4), os (x5), os (x6), os (x7), os (x8), os (x9), os (a_inst B₂.game.1 B₂.gd.1 mo_TreeGame_moves (gi_moves e))
   refine g_moves H (by first | exact rk hr rfl | lia) hw B₂ A₂.st N₂.pe (by lia) N.lt fun c hc => ?_
   exists true_and
   have e0 : rngItems 1 ((w.ways pl).length + 1) 1 = w.mvs pl := rfl
   rw [e0]
   have K₃ : Keep e.D σ₂ (σ₂.set c (.list ((w.mvs pl).map .int))) := .new hc
   have B₃ := B₂.keep K₃
   have S₃ := A₂.st.new hc (o := .list ((w.mvs pl).map .int))
   have A₃ : After e w σ v q.length (σ₂.set c (.list ((w.mvs pl).map .int))) v₂ := ⟨A₂.keep.trans K₃, S₃, A₂.ei, A₂.p, A₂.made, A₂.len, A₂.low⟩
   have L₃ : LineIs e (σ₂.set c (.list ((w.mvs pl).map .int))) v₂ q.length [] := let ⟨a, a1, a2⟩ := L₂; ⟨a, a1, a2.keep K₃⟩
   exists os (x1), os (x2), os (x3), os (x4), os (x5), os (x6), os (x7), os (x8), os (x9), a_truth (set_at (σ := σ₂) (a := c) (o := .list ((w.mvs pl).map .int))), os (a_inst B₃.game.1 B₃.gd.1 mo_TreeGame_in_check (gi_in_check e))
   refine ⟨by simp; unfold sizeOk; lia, fun hemp => ?_, fun hne => ?_⟩
   · have hw0 : w.ways pl = [] := by
       have : w.mvs pl = [] := by simpa using hemp
       rw [← List.length_eq_zero_iff, ← mvs_len, this]; rfl
     refine g_in_check H (by first | exact rk hr rfl | lia) hw B₃ S₃ N₂.pe (by lia) N.lt ?_
     exists os (x1), os (x2), os (x3), os (x4), os (x5), os (x6), os (x7), os (x8), os (x9)
     refine ⟨fun hc => ?_, fun hc => ?_⟩
     · refine k_mated_in H (by first | exact rk hr rfl | lia) (ex _ _ _ A₃ L₃ ?_)
       rw [dv, if_neg hnd, if_pos hw0, if_pos hc]
       exact svL.symm
     · refine ex _ _ _ A₃ L₃ ?_
       rw [dv, if_neg hnd, if_pos hw0, if_neg (by rw [hc]; decide)]
       exact (sv_mid (by decide) (by decide)).symm
   · have hw0 : w.ways pl ≠ [] := fun z => by
       have h0 : w.mvs pl = [] := by rw [← List.length_eq_zero_iff, mvs_len, z]; rfl
       rw [h0] at hne; simp at hne
     refine x_search_moves H hw C (d := d) (by lia) (ih d (by lia)) (by lia) (by lia) B₃ S₃ A₂.ei ⟨N₂.pe, N.ql, N.lt, N.root⟩ set_at (A₂.st.notD hc) hw0 hnd (Wn.lt hqs) Wn.lo A₂.len L₃ fun σ' v' val l A Ln M => ?_
     exists true_and
     exact h σ' v' val l (A₃.trans A) Ln (Wn.post hw hP N.lt (by lia) (by lia) hw0 hnd M)
 have hDp : ∀ σ₂ v₂ tm al be (m₂ : Loc), m₂ "ctx" = some (.ref e.ctx) → m₂ "depth" = some (.int ((d + 1 : Nat) : Int)) → m₂ "ply" = some (.int q.length) → m₂ "is_pv" = some (.bool pv) → m₂ "game" = some (.ref e.game) → m₂ "key" = some (.int ((pl : Int) + 1)) → m₂ "alpha" = some (.int al) → m₂ "beta" = some (.int be) → m₂ "table_move" = some (.int tm) →
     After e w σ v q.length σ₂ v₂ → LineIs e σ₂ v₂ q.length [] → ¬ (0 < pl ∧ w.drw pl = true) → Win q.length alpha beta al be → wpSs (CallSat W r) seD m₂ σ₂ (bodyQ Q) := by
   intro σ₂ v₂ tm al be m₂ x1 x2 x3 x4 x5 x6 x7 x8 x9 A₂ L₂ hnd Wn
   have B₂ := B.keep A₂.keep
   have N₂ : Nd w v₂ q pl := ⟨by rw [A₂.p]; exact N.pe, N.ql, N.lt, N.root⟩
   have hC₂ := A₂.st.ctxd
   have plain := hM σ₂ v₂ tm al be m₂ x1 x2 x3 x4 x5 x6 x7 x8 x9 A₂ L₂ hnd Wn
   exists se_eq5, os (x1), os (x2), os (x3), os (x4), os (x5), os (x6), os (x7), os (x8), os (x9), fc_game B₂.ctx.1 hC₂, fc_table B₂.ctx.1 hC₂, fc_killers B₂.ctx.1 hC₂, fc_history B₂.ctx.1 hC₂, fc_qdepth B₂.ctx.1 hC₂, fc_is_exact B₂.ctx.1 hC₂, fc_max_nodes B₂.ctx.1 hC₂, fc_nodes B₂.ctx.1 hC₂, fc_made B₂.ctx.1 hC₂, fc_lines B₂.ctx.1 hC₂, rsa B₂.ctx.1 hC₂ ao_SearchContext_nodes, rsa B₂.ctx.1 hC₂ ao_SearchContext_made, os (B₂.ctx.1), os (hC₂), ctxF, c_isnot_if
   refine ⟨fun zp => ⟨fun zt => ⟨fun zd => ⟨fun zT => ?_, fun _ => plain⟩, fun _ => plain⟩, fun _ => plain⟩, fun _ => plain⟩
   have e2 : ((d + 1 : Nat) : Int) - 2 = ((d - 1 : Nat) : Int) := by lia
   rw [e2]
   refine ih (d - 1) (by lia) r σ₂ v₂ q pl al be pv _ (by lia) B₂ A₂.st A₂.ei N₂ (Wn.lt hqs) (Nat.le_of_lt A₂.len) fun σ₃ v₃ val l A₃ L₃ _ => ?_
   exists os (x1), os (x2), os (x3), os (x4), os (x5), os (x6), os (x7), os (x8), os (x9)
   have B₃ := B₂.keep A₃.keep
   have fin : ∀ tm' w', CallSat W r (.fn "clear_line") [.ref e.ctx, .int q.length] σ₃ (fun _ σ => wpSs (CallSat W r) seM ((m₂.set "table_move" (.int tm')).set "value" w') σ (bodyQ Q)) := fun tm' w' => by
     refine x_clear H (by first | exact rk hr rfl | lia) B₃ A₃.st A₃.ei (by lia) (Nat.le_of_lt A₃.len) fun σ₄ v₄ A₄ L₄ => ?_
     exists true_and
     refine hM σ₄ v₄ tm' al be _ ?_ ?_ ?_ ?_ ?_ ?_ ?_ ?_ ?_ (A₂.trans (A₃.trans A₄)) L₄ hnd Wn
     all_goals exists x1, x2, x3, x4, x5, x6, x7, x8, x9
   refine x_look_up H (by first | exact rk hr rfl | lia) hw C B₃ A₃.st A₃.ei (by lia) (d := d + 1) N.lt (Wn.lt hqs) (fun mv => ?_) fun mv val _ => ?_
   exists true_and
   · exists os (x1), os (x3)
     exact fin mv .none
   · exists os (x1), os (x3)
     exact fin mv (.int val)
 have hLk : ∀ σ₂ v₂ al be (m₂ : Loc), m₂ "ctx" = some (.ref e.ctx) → m₂ "depth" = some (.int ((d + 1 : Nat) : Int)) → m₂ "ply" = some (.int q.length) → m₂ "is_pv" = some (.bool pv) → m₂ "game" = some (.ref e.game) → m₂ "key" = some (.int ((pl : Int) + 1)) → m₂ "alpha" = some (.int al) → m₂ "beta" = some (.int be) →
     After e w σ v q.length σ₂ v₂ → LineIs e σ₂ v₂ q.length [] → ¬ (0 < pl ∧ w.drw pl = true) → Win q.length alpha beta al be → wpSs (CallSat W r) seC m₂ σ₂ (bodyQ Q) := by
   intro σ₂ v₂ al be m₂ x1 x2 x3 x4 x5 x6 x7 x8 A₂ L₂ hnd Wn
   have B₂ := B.keep A₂.keep
   exists se_eq4, os (x1), os (x2), os (x3), os (x4), os (x5), os (x6), os (x7), os (x8)
   refine x_look_up H (by first | exact rk hr rfl | lia) hw C B₂ A₂.st A₂.ei (by lia) (d := d + 1) N.lt (Wn.lt hqs) (fun mv => ?_) fun mv val t => ?_
   exists true_and
   · exists true_and
     refine hDp σ₂ v₂ mv al be _ ?_ ?_ ?_ ?_ ?_ ?_ ?_ ?_ ?_ A₂ L₂ hnd Wn
     all_goals exists x1, x2, x3, x4, x5, x6, x7, x8
   · exists x4
     have sd : wpSs (CallSat W r) seD ((m₂.set "table_move" (.int mv)).set "value" (.int val)) σ₂ (bodyQ Q) := by
       refine hDp σ₂ v₂ mv al be _ ?_ ?_ ?_ ?_ ?_ ?_ ?_ ?_ ?_ A₂ L₂ hnd Wn
       all_goals exists x1, x2, x3, x4, x5, x6, x7, x8
     have rt : pv = false → Q (.int val) σ₂ := fun zp => h σ₂ v₂ val [] A₂ L₂ ⟨(Wn.T hw hP N.lt (by lia) (by lia) t).1, fun _ => rfl, fun z => (by rw [zp] at z; cases z), by simp⟩
     exact ⟨rt, fun _ => sd⟩
 have hWn : ∀ σ₂ v₂ (m₂ : Loc), m₂ "ctx" = some (.ref e.ctx) → m₂ "depth" = some (.int ((d + 1 : Nat) : Int)) → m₂ "ply" = some (.int q.length) → m₂ "is_pv" = some (.bool pv) → m₂ "game" = some (.ref e.game) → m₂ "alpha" = some (.int alpha) → m₂ "beta" = some (.int beta) →
     After e w σ v q.length σ₂ v₂ → LineIs e σ₂ v₂ q.length [] → ¬ (0 < pl ∧ w.drw pl = true) → wpSs (CallSat W r) seB m₂ σ₂ (bodyQ Q) := by
   intro σ₂ v₂ m₂ x1 x2 x3 x4 x5 x7 x8 A₂ L₂ hnd
   have B₂ := B.keep A₂.keep
   have N₂ : Nd w v₂ q pl := ⟨by rw [A₂.p]; exact N.pe, N.ql, N.lt, N.root⟩
   have hD := dv_mg hw hP (d + 1) pl N.lt (by lia)
   have hDl := (hD.bd (by lia)).1
   have hDh := dv_high hw hP N.lt (show d ≤ 15 by lia)
   exists se_eq3, os (x1), os (x2), os (x3), os (x4), os (x5), os (x7), os (x8)
   refine k_mated_in H (by first | exact rk hr rfl | lia) ?_
   exists os (x1), os (x2), os (x3), os (x4), os (x5), os (x7), os (x8)
   refine k_mate_in H (by first | exact rk hr rfl | lia) ?_
   exists os (x1), os (x2), os (x3), os (x4), os (x5), os (x7), os (x8), os (a_inst B₂.game.1 B₂.gd.1 mo_TreeGame_key (gi_key e))
   refine ⟨fun z => ?_, fun z => ⟨fun z2 => ?_, fun z2 => ?_⟩⟩
   · exact h σ₂ v₂ _ [] A₂ L₂ ⟨⟨31999, svH.symm, mgh (Nat.le_add_left 1 _), fun _ => hDh, fun y => absurd hab (Int.not_lt.mpr (le_tr _ y z)), fun y _ => absurd y (Int.not_lt.mpr z)⟩, fun _ => rfl, fun _ y _ => absurd y (Int.not_lt.mpr z), Nat.zero_le _⟩
   · exact h σ₂ v₂ _ [] A₂ L₂ ⟨⟨-32000, svL.symm, mgl, fun y => absurd hab (Int.not_lt.mpr (le_tr _ z2 y)), fun _ => hDl, fun _ y => absurd y (Int.not_lt.mpr z2)⟩, fun _ => rfl, fun _ _ y => absurd y (Int.not_lt.mpr z2), Nat.zero_le _⟩
   · refine g_key H (by first | exact rk hr rfl | lia) hw B₂ A₂.st N₂.pe (by lia) ?_
     refine hLk σ₂ v₂ _ _ _ ?_ ?_ ?_ ?_ ?_ ?_ ?_ ?_ A₂ L₂ hnd ⟨rfl, rfl, Int.not_le.mp z, Int.not_le.mp z2, hab⟩
     all_goals exists x1, x2, x3, x4, x5, x7, x8
 exists se_eq2, os (a_inst B₁.ctx.1 hC₁ mo_SearchContext_tick (gi_tick e _ _))
 refine x_tick H (by first | exact rk hr rfl | lia) B₁ A₁.st fun σ₂ B₂ S₂ K₂ => ?_
 exists true_and
 have hC₂ := S₂.ctxd
 have A₂ : After e w σ v q.length σ₂ { v₁ with nodes := v₁.nodes + 1 } := ⟨A₁.keep.trans K₂, S₂, ⟨⟨A₁.ei.kok.f, A₁.ei.kok.s, A₁.ei.kok.h⟩, A₁.ei.ln, A₁.ei.sn, A₁.ei.sl⟩, A₁.p, A₁.made, A₁.len, A₁.low⟩
 have L₂ : LineIs e σ₂ { v₁ with nodes := v₁.nodes + 1 } q.length [] := let ⟨a, a1, a2⟩ := L₁; ⟨a, a1, a2.keep K₂⟩
 exists fc_game B₂.ctx.1 hC₂, fc_table B₂.ctx.1 hC₂, fc_killers B₂.ctx.1 hC₂, fc_history B₂.ctx.1 hC₂, fc_qdepth B₂.ctx.1 hC₂, fc_is_exact B₂.ctx.1 hC₂, fc_max_nodes B₂.ctx.1 hC₂, fc_nodes B₂.ctx.1 hC₂, fc_made B₂.ctx.1 hC₂, fc_lines B₂.ctx.1 hC₂, rsa B₂.ctx.1 hC₂ ao_SearchContext_nodes, rsa B₂.ctx.1 hC₂ ao_SearchContext_made, os (B₂.ctx.1), os (hC₂), ctxF, os (a_inst B₂.game.1 B₂.gd.1 mo_TreeGame_is_draw (gi_is_draw e))
 have nxt : ∀ (m₂ : Loc), m₂ "ctx" = some (.ref e.ctx) → m₂ "depth" = some (.int ((d + 1 : Nat) : Int)) → m₂ "ply" = some (.int q.length) → m₂ "is_pv" = some (.bool pv) → m₂ "game" = some (.ref e.game) → m₂ "alpha" = some (.int alpha) → m₂ "beta" = some (.int beta) → ¬ (0 < pl ∧ w.drw pl = true) → wpSs (CallSat W r) seB m₂ σ₂ (bodyQ Q) :=
   fun m₂ a b c d e f g hnd => hWn σ₂ _ m₂ a b c d e f g A₂ L₂ hnd
 refine ⟨fun c => g_is_draw H (by first | exact rk hr rfl | lia) hw B₂ S₂ N₁.pe (by lia) N.lt ?_, fun c => nxt _ ?_ ?_ ?_ ?_ ?_ ?_ ?_ ?_⟩
 · exists true_and
   refine ⟨fun z => ?_, fun z => nxt _ ?_ ?_ ?_ ?_ ?_ ?_ ?_ (fun y => by rw [y.2] at z; cases z)⟩
   · refine ex _ _ _ A₂ L₂ ?_
     rw [dv, if_pos ⟨by lia, z⟩]
     exact (sv_mid (by decide) (by decide)).symm
   all_goals exists true_and
 all_goals try (exists true_and; done)
 intro z
 have : q = [] := by
   cases q with
   | nil => rfl
   | cons a b => exact absurd (show (0 : Int) < ((a :: b).length : Nat) by simp only [List.length_cons]; lia) c
 have := N.root this
 lia
theorem x_search (H : IsK W) (hw : w.Ok) (C : e.Cf) : ∀ d : Nat, d ≤ 5 → SeaOk W e w d (20 + 3 * d) := by
 intro d
 induction d using Nat.strongRecOn with
 | _ d ih => exact fun hd => x_search1 H hw C d hd fun j hj => ih j hj (by lia)
end
noncomputable def reelF (nb : Addr) (at' sd : Int) : List (Str × V) := [("numbers", .ref nb), ("at", .int at'), ("seed", .int sd)]
structure ReelC (σ : AH) (rl nb : Addr) (ns : List Int) (n at' sd : Int) : Prop where
 rl : σ rl = some (.dict (reelF nb at' sd))
 a0 : 0 ≤ at'
 a1 : at' ≤ n
 s0 : 0 ≤ sd
 s1 : sd < 65537
 nb : σ nb = some (.list (ns.map .int))
 nz : ns.length ≤ 100
noncomputable def Reel (σ : AH) (rl nb : Addr) (ns : List Int) (n : Int) : Prop := ∃ at' sd, ReelC σ rl nb ns n at' sd
noncomputable def KeepR (rl : Addr) (σ σ' : AH) : Prop := Keep (fun a => a = rl) σ σ'
section
variable {W : Wld} {r : Nat} {σ σ₀ σ' : AH} {Q : V → AH → Prop} {rl nb : Addr} {ns : List Int} {n : Int}
theorem Reel.up {m : Int} (x : Reel σ rl nb ns n) (h : n ≤ m) : Reel σ rl nb ns m := by
 revert x; refine xE2 fun a s c => ?_
 exact ⟨a, s, c.rl, c.a0, by have := c.a1; lia, c.s0, c.s1, c.nb, c.nz⟩
theorem Reel.new {a : Addr} {o : AO} (x : Reel σ rl nb ns n) (h : σ a = Option.none) : Reel (σ.set a o) rl nb ns n := by
 revert x; refine xE2 fun b s c => ?_
 exact ⟨b, s, set_old c.rl h, c.a0, c.a1, c.s0, c.s1, set_old c.nb h, c.nz⟩
theorem Reel.other {a : Addr} {o : AO} (x : Reel σ rl nb ns n) (h1 : a ≠ rl) (h2 : a ≠ nb) : Reel (σ.set a o) rl nb ns n := by
 revert x; refine xE2 fun b s c => ?_
 exact ⟨b, s, by rw [set_ne h1.symm]; exact c.rl, c.a0, c.a1, c.s0, c.s1, by rw [set_ne h2.symm]; exact c.nb, c.nz⟩
theorem k_pull (H : IsK W) (hr : 1 ≤ r) (R : Reel σ rl nb ns n) (hn : n ≤ 1000000) {many : Int} (hm : 1 ≤ many) (hm2 : many ≤ 1000)
   (h : ∀ σ' i, 0 ≤ i → i < many → Reel σ' rl nb ns (n + 1) → KeepR rl σ σ' → Q (.int i) σ') : CallSat W r (.fn "_law_pull") [.ref rl, .int many] σ Q := by
 revert R; refine xE2 fun at' sd c => ?_
 have h1 := c.rl
 have h2 := c.nb
 have hne : nb ≠ rl := fun z => by rw [z, h1] at h2; cases h2
 have a0 := c.a0
 have a1 := c.a1
 have s0 := c.s0
 have s1 := c.s1
 have nz := c.nz
 refine call_up hr fun r hr => call_def (fb__law_pull H) rfl ?_
 unfold b__law_pull
 exists os (h1), reelF, a_setSubF h1
 have hs : ∀ o : AO, (σ.set rl o) nb = some (.list (ns.map .int)) := fun o => by rw [set_ne hne]; exact h2
 have rs : ∀ o o' : AO, (σ.set rl o).set rl o' = σ.set rl o' := fun o o' => by
   funext x; unfold AH.set; split <;> rfl
 exists set_at, hs, reelF, a_len (hs _)
 rw [len_ints]
 refine ⟨by decide, by unfold sizeOk; lia, fun z => ?_, fun z => ?_⟩
 · have hi : (at' + 1 - 1).toNat < ns.length := by lia
   rw [r_sub (hs _) (show 0 ≤ at' + 1 - 1 by lia) (ints_get hi) (by rw [len_ints]; lia)]
   exists true_and
   rw [fmod_pos _ _ (by lia)]
   exact ⟨by lia, h _ _ (Int.emod_nonneg _ (by lia)) (Int.emod_lt_of_pos _ (by lia)) ⟨at' + 1, sd, set_at, by lia, by lia, s0, s1, hs _, nz⟩ (.set rfl)⟩
 · rw [a_setSubF set_at]
   exists rs, set_at
   rw [fmod_pos _ _ (by lia), fdiv_pos _ _ (Int.emod_nonneg _ (by lia)) (by lia), fmod_pos _ _ (by lia)]
   have e0 := Int.emod_nonneg (sd * 1103 + 337 * (at' + 1) + 12) (show (65537 : Int) ≠ 0 by lia)
   have e1 := Int.emod_lt_of_pos (sd * 1103 + 337 * (at' + 1) + 12) (show (0 : Int) < 65537 by lia)
   refine ⟨smallOf (by lia) (by lia), smallOf (by lia) (by lia), smallOf (by lia) (by lia), smallOf (by lia) (by lia), by lia, by decide, smallOf (by lia) (by lia), smallOf (by lia) (by lia), by lia, by lia, ?_⟩
   exact h _ _ (Int.emod_nonneg _ (by lia)) (Int.emod_lt_of_pos _ (by lia)) ⟨at' + 1, _, set_at, by lia, by lia, e0, e1, hs _, nz⟩ (.set rfl)
theorem k_raised (H : IsK W) (hr : 1 ≤ r) {m : Int} (h : Q (.int (rsd m)) σ) : CallSat W r (.fn "_law_raised") [.int m] σ Q := by
 refine call_up hr fun r hr => call_def (fb__law_raised H) rfl ?_
 unfold b__law_raised
 exists true_and
 unfold rsd at h
 refine ⟨fun z => ?_, fun z => ⟨fun z2 => ?_, fun z2 => ?_⟩⟩
 · rw [if_pos (by lia)] at h; exact h
 · rw [if_neg (by lia), if_pos (by lia)] at h; exact h
 · rw [if_neg (by lia), if_neg (by lia)] at h; exact h
theorem k_told_well (H : IsK W) (hr : 1 ≤ r) {told merit low high : Int} (h : Q (.bool (decide (if told ≤ low then merit ≤ told else if high ≤ told then told ≤ merit else told = merit))) σ) :
   CallSat W r (.fn "_law_is_told_well") [.int told, .int merit, .int low, .int high] σ Q := by
 refine call_up hr fun r hr => call_def (fb__law_is_told_well H) rfl ?_
 unfold b__law_is_told_well
 exists true_and
 refine ⟨fun z => ?_, fun z => ⟨fun z2 => ?_, fun z2 => ?_⟩⟩
 · simp only [z, if_true] at h; exact h
 · simp only [z, z2, if_true, if_false] at h; exact h
 · simp only [z, z2, if_false] at h; exact h
theorem k_window (H : IsK W) (hr : 2 ≤ r) (R : Reel σ rl nb ns n) (hn : n ≤ 900000) {merit : Int} (h1 : -40000 ≤ merit) (h2 : merit ≤ 40000)
   (h : ∀ σ' lo hi, lo < hi → Reel σ' rl nb ns (n + 5) → KeepR rl σ σ' → Q (.tup [.int lo, .int hi]) σ') : CallSat W r (.fn "_law_window") [.ref rl, .int merit] σ Q := by
 refine call_up hr fun r hr => call_def (fb__law_window H) rfl ?_
 unfold b__law_window
 exists true_and
 refine k_pull H (by first | exact rk hr rfl | lia) R (by lia) (by lia) (by lia) fun σ₁ so so1 so2 R₁ K₁ => ?_
 exists true_and
 refine ⟨fun z => ⟨by unfold sizeOk; decide, h σ₁ _ _ (by lia) (R₁.up (by lia)) K₁⟩, fun z => ⟨fun z2 => ?_, fun z2 => ?_⟩⟩
 · refine k_pull H (by first | exact rk hr rfl | lia) R₁ (by lia) (by lia) (by lia) fun σ₂ i i1 i2 R₂ K₂ => ?_
   exists true_and
   exact ⟨by unfold sizeOk; decide, h σ₂ _ _ (by lia) (R₂.up (by lia)) (K₁.trans K₂)⟩
 · have fin : ∀ (σ₂ : AH) (T : Prop), True := fun _ _ => trivial
   refine ⟨fun z3 => ?_, fun z3 => ?_⟩
   · refine k_pull H (by first | exact rk hr rfl | lia) R₁ (by lia) (by lia) (by lia) fun σ₂ i i1 i2 R₂ K₂ => ?_
     exists true_and
     refine ⟨fun z4 => ?_, fun z4 => ?_⟩
     · refine k_pull H (by first | exact rk hr rfl | lia) R₂ (by lia) (by lia) (by lia) fun σ₃ j j1 j2 R₃ K₃ => ?_
       exists true_and
       exact ⟨by unfold sizeOk; decide, h σ₃ _ _ (by lia) (R₃.up (by lia)) (K₁.trans (K₂.trans K₃))⟩
     · refine k_pull H (by first | exact rk hr rfl | lia) R₂ (by lia) (by lia) (by lia) fun σ₃ j j1 j2 R₃ K₃ => ?_
       exists true_and
       refine k_pull H (by first | exact rk hr rfl | lia) R₃ (by lia) (by lia) (by lia) fun σ₄ g g1 g2 R₄ K₄ => ?_
       exists true_and
       exact ⟨by unfold sizeOk; decide, h σ₄ _ _ (by lia) (R₄.up (by lia)) (K₁.trans (K₂.trans (K₃.trans K₄)))⟩
   · refine k_pull H (by first | exact rk hr rfl | lia) R₁ (by lia) (by lia) (by lia) fun σ₃ j j1 j2 R₃ K₃ => ?_
     exists true_and
     refine k_pull H (by first | exact rk hr rfl | lia) R₃ (by lia) (by lia) (by lia) fun σ₄ g g1 g2 R₄ K₄ => ?_
     exists true_and
     exact ⟨by unfold sizeOk; decide, h σ₄ _ _ (by lia) (R₄.up (by lia)) (K₁.trans (K₃.trans K₄))⟩
end
section
variable {W : Wld} {r : Nat} {σ σ₀ σ' : AH} {Q : V → AH → Prop} {rl nb : Addr} {ns : List Int} {n : Int}
theorem KeepR.reel_ne {a : Addr} {o : AO} (R : Reel σ rl nb ns n) (h : σ a = Option.none) : a ≠ rl ∧ a ≠ nb := by
 revert R; refine xE2 fun _ _ c => ?_
 exact ⟨fun z => (by rw [z, c.rl] at h; cases h), fun z => (by rw [z, c.nb] at h; cases h)⟩
noncomputable def RowOk (size place : Nat) (row : List Nat) : Prop := (∀ c ∈ row, place < c ∧ c < size) ∧ row.length ≤ 7
noncomputable def RowsAt (rl : Addr) (σ : AH) (rs : List Addr) (rows : List (List Nat)) : Prop := rs.length = rows.length ∧ ∀ (i : Nat) a row, rs[i]? = some a → rows[i]? = some row → σ a = some (.list (natsV row)) ∧ a ≠ rl
theorem rng_cons : ∀ (n : Nat) (a : Int) (x : Int) (rest : List Int), rngFrom 1 n a = x :: rest → x = a ∧ rest = rngFrom 1 (n - 1) (a + 1) ∧ 0 < n
 | 0, _, _, _, h => by cases h
 | n + 1, a, x, rest, h => by cases h; exact ⟨rfl, rfl, by lia⟩
theorem k_ways (H : IsK W) (hr : 3 ≤ r) (R : Reel σ rl nb ns n) (hn : n ≤ 800000) (hn0 : 0 ≤ n) {size : Nat} (hs : 2 ≤ size) (hs7 : size ≤ 7)
   (h : ∀ σ' a rs rows, KeepR rl σ σ' → Reel σ' rl nb ns (n + 8 * size) → σ' a = some (.list (rs.map .ref)) → a ≠ rl → RowsAt rl σ' rs rows → rows.length = size → (∀ (i : Nat) row, rows[i]? = some row → RowOk size i row) → Q (.ref a) σ') :
   CallSat W r (.fn "_law_ways") [.ref rl, .int size] σ Q := by
 refine call_up hr fun r hr => call_def (fb__law_ways H) rfl ?_
 unfold b__law_ways
 exists true_and
 refine ⟨by unfold sizeOk; lia, fun A hA => ⟨smallOf (by lia) (by lia), ?_⟩⟩
 have hAr := KeepR.reel_ne (o := .list []) R hA
 refine iter_inv (fun rest m' σ' => m' "reel" = some (.ref rl) ∧ m' "size" = some (.int size) ∧ m' "ways" = some (.ref A) ∧ ∃ (L : Int) (rs : List Addr) (rows : List (List Nat)), m' "left" = some (.int L) ∧ 0 ≤ L ∧ L ≤ 7 ∧
     rest = (rngFrom 1 (size - rows.length) rows.length).map .int ∧ rows.length ≤ size ∧ Reel σ' rl nb ns (n + 8 * rows.length) ∧ (∀ a o, a ≠ rl → σ a = some o → σ' a = some o) ∧ σ' A = some (.list (rs.map .ref)) ∧ RowsAt rl σ' rs rows ∧ (∀ a ∈ rs, a ≠ A) ∧ (∀ (i : Nat) row, rows[i]? = some row → RowOk size i row)) ?_ ?_ ?_ ?_
 · intro rest m' σ' _; exact ⟨smallOf (by lia) (by lia), smallOf (by lia) (by lia), .inl rfl⟩
 · rintro m' σ' oy0; revert oy0; refine aE4 fun g1 g2 g3 => xE3 fun L rs rows => aE11 fun g4 l0 l7 er hle R' Kp hW hR hnA hOk => ?_
   have hsz : rows.length = size := by
     have := congrArg List.length er
     rw [List.length_map, rngFrom_len] at this
     simp at this; lia
   exists os (g3)
   exact h σ' A rs rows (fun a o d e => Kp a o d e) (by rw [← hsz]; exact R') hW hAr.1 hR hsz hOk
 · rintro v' rest m' σ' oy1; revert oy1; refine aE4 fun g1 g2 g3 => xE3 fun L rs rows => aE11 fun g4 l0 l7 er hle R' Kp hW hR hnA hOk => ?_; rintro K k1 k2 k3 k4
   cases hrg : rngFrom 1 (size - rows.length) rows.length with
   | nil => rw [hrg] at er; cases er
   | cons x rest' =>
   rw [hrg] at er
   refine (aE3 fun ex erest hpos => ?_) (rng_cons _ _ _ _ hrg)
   subst ex
   cases er
   exists os (g1), os (g2), os (g3), os (g4)
   refine ⟨by unfold sizeOk; lia, fun ra hra => ?_⟩
   refine ⟨by unfold sizeOk; lia, fun c hc => ?_⟩
   have hra' := KeepR.reel_ne (o := .list []) R' hra
   have R1 := R'.new hra (o := .list [])
   have hcr := KeepR.reel_ne (o := .list []) R1 hc
   have nrc : ra ≠ c := fun z => by rw [z, set_at] at hc; cases hc
   have hcσ : σ' c = Option.none := by rw [set_ne nrc.symm] at hc; exact hc
   have R2 := R1.new hc (o := .list [V.int 2, V.int 1, V.int 3, V.int 2, V.int 0])
   refine k_pull H (by first | exact rk hr rfl | lia) R2 (by lia) (by lia) (by lia) fun σ₂ i i1 i2 R₃ K₃ => ?_
   exists true_and
   have hc2 : σ₂ c = some (.list [V.int 2, V.int 1, V.int 3, V.int 2, V.int 0]) := K₃ c _ hcr.1 set_at
   have hra2 : σ₂ ra = some (.list (natsV [])) := K₃ ra _ hra'.1 (by rw [set_ne nrc, set_at]; rfl)
   have keep2 : ∀ a o, a ≠ rl → a ≠ ra → σ' a = some o → σ₂ a = some o := fun a o h1 h2 e' => K₃ a o h1 (set_old (set_old e' hra) hc)
   have hb : ∃ b : Int, [V.int 2, V.int 1, V.int 3, V.int 2, V.int 0][i.toNat]? = some (.int b) ∧ 0 ≤ b ∧ b ≤ 3 := by
     have : i = 0 ∨ i = 1 ∨ i = 2 ∨ i = 3 ∨ i = 4 := by lia
     rcases this with rfl | rfl | rfl | rfl | rfl
     · exact ⟨2, rfl, by lia, by lia⟩
     · exact ⟨1, rfl, by lia, by lia⟩
     · exact ⟨3, rfl, by lia, by lia⟩
     · exact ⟨2, rfl, by lia, by lia⟩
     · exact ⟨0, rfl, by lia, by lia⟩
   revert hb; refine xE1 fun b => aE3 fun eb b0 b3 => ?_
   rw [r_sub hc2 i1 eb (by simp)]
   exists true_and
   refine ⟨smallOf (by lia) (by lia), ?_⟩
   have hlt : rows.length < size := by lia
   have hAra : A ≠ ra := fun z => by rw [z] at hW; rw [hW] at hra; cases hra
   refine iter_inv (fun rest m'' σ'' => m'' "reel" = some (.ref rl) ∧ m'' "size" = some (.int size) ∧ m'' "ways" = some (.ref A) ∧ m'' "left" = some (.int L) ∧ m'' "place" = some (.int rows.length) ∧ m'' "row" = some (.ref ra) ∧ ∃ (row : List Nat), σ'' ra = some (.list (natsV row)) ∧
       (row.length : Int) + rest.length ≤ min L b ∧ (rows.length + 1 < size → ∀ c ∈ row, rows.length < c ∧ c < size) ∧ Reel σ'' rl nb ns (n + 8 * rows.length + 1 + row.length) ∧ (∀ a o, a ≠ rl → a ≠ ra → σ' a = some o → σ'' a = some o)) ?_ ?_ ?_ ?_
   · intro rest m'' σ'' _; exact ⟨smallOf (by lia) (by lia), smallOf (by lia) (by lia), .inl rfl⟩
   · rintro m'' σ'' oy2; revert oy2; refine aE7 fun y1 y2 y3 y4 y5 y6 => xE1 fun row => aE5 fun hrow hlen hup R₄ K₄ => ?_
     simp only [List.length_nil] at hlen
     exists os (y1), os (y2), os (y3), os (y4), os (y5), os (y6)
     have hW4 : σ'' A = some (.list (rs.map .ref)) := K₄ A _ hAr.1 hAra hW
     have fin : ∀ σ₅ (r₅ : Addr) (row₅ : List Nat) (m₅ : Loc), m₅ "reel" = some (.ref rl) → m₅ "size" = some (.int size) → m₅ "ways" = some (.ref A) → m₅ "left" = some (.int (L - row₅.length)) → σ₅ r₅ = some (.list (natsV row₅)) → r₅ ≠ rl → r₅ ≠ A → σ' r₅ = Option.none → (row₅.length : Int) ≤ L → RowOk size rows.length row₅ →
         Reel σ₅ rl nb ns (n + 8 * (rows.length + 1 : Nat)) → (∀ a o, a ≠ rl → a ≠ A → σ' a = some o → σ₅ a = some o) → σ₅ A = some (.list ((rs ++ [r₅]).map .ref)) → K .next m₅ σ₅ := by
       intro σ₅ r₅ row₅ m₅ z1 z2 z3 z4 hr5 n1 n2 hf5 hl5 ok5 R₅ K₅ hA5
       refine k1 _ _ ⟨z1, z2, z3, L - row₅.length, rs ++ [r₅], rows ++ [row₅], z4, by lia, by lia, ?_, by simp; lia, by simpa using R₅, fun a o d e' => ?_, hA5, ⟨by simp [hR.1], fun i a row' h1 h2 => ?_⟩, fun a ha => ?_, fun i row' h2 => ?_⟩
       · rw [erest]
         have e1 : size - (rows ++ [row₅]).length = size - rows.length - 1 := by simp; lia
         have e2 : (((rows ++ [row₅]).length : Nat) : Int) = (rows.length : Int) + 1 := by simp
         rw [e1, e2]
       · have e1 := Kp a o d e'
         exact K₅ a o d (fun z => by rw [z, hA] at e'; cases e') e1
       · by_cases hi : i < rows.length
         · rw [List.getElem?_append_left (by rw [hR.1]; exact hi)] at h1
           rw [List.getElem?_append_left hi] at h2
           obtain ⟨p1, p2⟩ := hR.2 i a row' h1 h2
           exact ⟨K₅ a _ p2 (hnA a (List.mem_of_getElem? h1)) p1, p2⟩
         · have hi' : i = rows.length := by
             have : i < (rows ++ [row₅]).length := by
               rcases Nat.lt_or_ge i (rows ++ [row₅]).length with q | q
               · exact q
               · rw [List.getElem?_eq_none q] at h2; cases h2
             simp at this; lia
           subst hi'
           rw [List.getElem?_append_right (by rw [hR.1]; exact Nat.le_refl _), hR.1] at h1
           rw [List.getElem?_append_right (Nat.le_refl _)] at h2
           simp at h1 h2
           subst h1; subst h2
           exact ⟨hr5, n1⟩
       · rcases List.mem_append.mp ha with ha | ha
         · exact hnA a ha
         · rw [List.mem_singleton] at ha; rw [ha]; exact n2
       · by_cases hi : i < rows.length
         · rw [List.getElem?_append_left hi] at h2
           exact hOk i row' h2
         · have hi' : i = rows.length := by
             have : i < (rows ++ [row₅]).length := by
               rcases Nat.lt_or_ge i (rows ++ [row₅]).length with q | q
               · exact q
               · rw [List.getElem?_eq_none q] at h2; cases h2
             simp at this; lia
           subst hi'
           rw [List.getElem?_append_right (Nat.le_refl _)] at h2
           simp at h2
           subst h2; exact ok5
     have frσ : ∀ a, a ≠ rl → a ≠ ra → σ'' a = Option.none → σ' a = Option.none := fun a h1 h2 h3 => by
       cases hs : σ' a with
       | none => rfl
       | some o => rw [K₄ a o h1 h2 hs] at h3; cases h3
     have hl0 : (natsV row).length = row.length := by simp [natsV]
     refine ⟨fun z => ⟨by unfold sizeOk; lia, fun dd hd => ?_⟩, fun z => ?_⟩
     · have hA5 : (σ''.set dd (.list [])) A = some (.list (rs.map .ref)) := set_old hW4 hd
       have hdr := KeepR.reel_ne (o := .list []) R₄ hd
       have ndra : dd ≠ ra := fun y => by rw [y, hrow] at hd; cases hd
       have ndA : dd ≠ A := fun y => by rw [y, hW4] at hd; cases hd
       rw [a_len set_at]
       exists os (y1), os (y2), os (y3), os (y4), os (y5), os (y6), os (a_list hA5 (.inl rfl)), m_app hA5
       refine ⟨by unfold sizeOk; decide, by simp; unfold sizeOk; have := hR.1; lia, ?_⟩
       refine fin _ dd [] _ ?_ ?_ ?_ ?_ ?_ hdr.1 ndA (frσ dd hdr.1 ndra hd) (by simp; lia) ⟨fun _ h => (nomatch h), by simp⟩ ?_ ?_ ?_
       any_goals (exists y1, y2, y3, y4, y5, y6; done)
       · rw [set_ne ndA, set_at]; rfl
       · exact ((R₄.new hd).other hAr.1 hAr.2).up (by lia)
       · intro a o h1 h2 e'
         by_cases h3 : a = ra
         · rw [h3, hra] at e'; cases e'
         · rw [set_ne h2]; exact set_old (K₄ a o h1 h3 e') hd
       · rw [set_at, List.map_append]; rfl
     · rw [a_len hrow]
       exists os (y1), os (y2), os (y3), os (y4), os (y5), os (y6), os (a_list hW4 (.inl rfl)), m_app hW4, hl0
       refine ⟨by unfold sizeOk; lia, by simp; unfold sizeOk; have := hR.1; lia, ?_⟩
       refine fin _ ra row _ ?_ ?_ ?_ ?_ ?_ hra'.1 hAra.symm hra (by lia) ⟨hup (by lia), by lia⟩ ?_ ?_ ?_
       any_goals (exists y1, y2, y3, y4, y5, y6; done)
       · rw [set_ne hAra.symm]; exact hrow
       · exact (R₄.other hAr.1 hAr.2).up (by lia)
       · intro a o h1 h2 e'
         by_cases h3 : a = ra
         · rw [h3, hra] at e'; cases e'
         · rw [set_ne h2]; exact K₄ a o h1 h3 e'
       · rw [set_at, List.map_append]; rfl
   · rintro v'' rest m'' σ'' oy3; revert oy3; refine aE7 fun y1 y2 y3 y4 y5 y6 => xE1 fun row => aE5 fun hrow hlen hup R₄ K₄ => ?_; rintro K' k1' k2' k3' k4'
     simp only [List.length_cons] at hlen
     have hl0 : (natsV row).length = row.length := by simp [natsV]
     exists os (y1), os (y2), os (y3), os (y4), os (y5), os (y6), os (a_list hrow (.inl rfl))
     refine k_pull H (by first | exact rk hr rfl | lia) R₄ (by lia) (by lia) (by lia) fun σ₅ p p1 p2 R₅ K₅ => ?_
     exists true_and
     have hrow5 := K₅ ra _ hra'.1 hrow
     exists os (y1), os (y2), os (y3), os (y4), os (y5), os (y6), m_app hrow5, hl0
     refine ⟨by unfold sizeOk; lia, ?_⟩
     have ec : ∃ cN : Nat, min ((rows.length : Int) + 1 + p) ((size : Int) - 1) = cN ∧ (rows.length + 1 < size → rows.length < cN ∧ cN < size) := ⟨(min ((rows.length : Int) + 1 + p) ((size : Int) - 1)).toNat, by lia, fun _ => by lia⟩
     revert ec; refine xE1 fun cN => aE2 fun ec hcN => ?_
     rw [ec]
     have e1 : natsV row ++ [V.int cN] = natsV (row ++ [cN]) := by unfold natsV; rw [List.map_append]; rfl
     rw [e1]
     refine k1' _ _ ⟨?_, ?_, ?_, ?_, ?_, ?_, row ++ [cN], set_at, by simp; lia, fun hh x hx => ?_, ?_, fun a o h1 h2 e' => ?_⟩
     any_goals (exists y1, y2, y3, y4, y5, y6; done)
     · rcases List.mem_append.mp hx with hx | hx
       · exact hup hh x hx
       · rw [List.mem_singleton] at hx; rw [hx]; exact hcN hh
     · exact (R₅.other hra'.1 hra'.2).up (by simp; lia)
     · rw [set_ne h2]; exact K₅ a o h1 (K₄ a o h1 h2 e')
   · refine ⟨?_, ?_, ?_, ?_, ?_, ?_, [], hra2, ?_, fun _ x hx => (nomatch hx), by simpa using R₃.up (by lia), keep2⟩
     any_goals (exists g1, g2, g3, g4; done)
     rw [List.length_map]
     unfold rngItems rngSize
     rw [rngFrom_len, if_pos (by decide)]
     simp; lia
 · refine ⟨?_, ?_, ?_, 7, [], [], ?_, by lia, by lia, ?_, by simp, by simpa using (R.new hA).up (by lia), fun a o d e => set_old e hA, by rw [set_at]; rfl, ⟨rfl, fun i a row h => by simp at h⟩, fun a h => (nomatch h), fun i row h => by simp at h⟩
   any_goals (exists true_and; done)
   unfold rngItems rngSize
   rw [if_pos (by decide)]
   simp
end
structure WA where
 (wd ch va ck dr no ga : Addr)
 (chR noR gaR : Nat → Addr)
noncomputable def worldF (g : WA) : List (Str × V) := [("ways", .ref g.ch), ("values", .ref g.va), ("checks", .ref g.ck), ("draws", .ref g.dr), ("noisy", .ref g.no), ("gains", .ref g.ga)]
structure WorldAt (D : Addr → Prop) (σ : AH) (g : WA) (w : Wd) : Prop where
 wd : At D σ g.wd (.dict (worldF g))
 ch : Lst D σ g.ch w.n fun i => .ref (g.chR i)
 chR : ∀ i, i < w.n → At D σ (g.chR i) (.list (natsV (w.ways i)))
 va : Lst D σ g.va w.n fun i => .int (w.val i)
 ck : Lst D σ g.ck w.n fun i => .bool (w.chk i)
 dr : Lst D σ g.dr w.n fun i => .bool (w.drw i)
 no : Lst D σ g.no w.n fun i => .ref (g.noR i)
 noR : ∀ i, i < w.n → At D σ (g.noR i) (.list ((w.nsy i).map .bool))
 ga : Lst D σ g.ga w.n fun i => .ref (g.gaR i)
 gaR : ∀ i, i < w.n → At D σ (g.gaR i) (.list ((w.gain i).map .int))
theorem WorldAt.keep {D : Addr → Prop} {σ σ' : AH} {g : WA} {w : Wd} (B : WorldAt D σ g w) (k : Keep D σ σ') : WorldAt D σ' g w :=
 ⟨B.wd.keep k, B.ch.keep k, fun i h => (B.chR i h).keep k, B.va.keep k, B.ck.keep k, B.dr.keep k, B.no.keep k, fun i h => (B.noR i h).keep k, B.ga.keep k, fun i h => (B.gaR i h).keep k⟩
section
variable {W : Wld} {r : Nat} {σ σ₀ σ' : AH} {Q : V → AH → Prop} {rl nb : Addr} {ns : List Int} {n : Int}
theorem pulls (H : IsK W) (hr : 1 ≤ r) {src : V} {whole : List V} {x : Str} {m : Loc} {many : Int} (hm : 1 ≤ many) (hm2 : many ≤ 1000) {turn : Loc → AH → (Option V → AH → Prop) → Prop} {f : Int → Int} {Qe : List V → AH → Prop} {l : List V} (hl : l.length ≤ 100)
   (hok : ∀ σ', KeepR rl σ σ' → iterOk src whole σ') (hn : n ≤ 900000)
   (hreel : m "reel" = some (.ref rl)) (he : ∀ (m' : Loc) (σ' : AH) (Q : Option V → AH → Prop), m' "reel" = some (.ref rl) → CallSat W r (.fn "_law_pull") [.ref rl, .int many] σ' (fun v σ => ∃ i, v = .int i ∧ Q (some (.int (f i))) σ) → turn m' σ' Q) (hx : x ≠ "reel")
   (R : Reel σ rl nb ns n) (fin : ∀ σ' (is : List Int), is.length = l.length → (∀ i ∈ is, 0 ≤ i ∧ i < many) → Reel σ' rl nb ns (n + l.length) → KeepR rl σ σ' → Qe ((is.map f).map .int) σ') :
   wpComp turn src whole x m l σ [] Qe := by
 refine comp_inv (fun rest σ' acc => ∃ is : List Int, acc = (is.map f).map .int ∧ is.length + rest.length = l.length ∧ (∀ i ∈ is, 0 ≤ i ∧ i < many) ∧ Reel σ' rl nb ns (n + is.length) ∧ KeepR rl σ σ') ?_ ?_ ?_ ?_ ?_
 · (rintro rest σ' acc oy0; revert oy0; refine xE1 fun is => aE5 fun _ _ _ _ K => ?_); exact hok σ' K
 · (rintro rest σ' acc oy1; revert oy1; refine xE1 fun is => aE2 fun oy2 oy3 => ?_; obtain rfl := oy2; obtain ⟨e1, _⟩ := oy3); simp; unfold sizeOk; lia
 · rintro σ' acc oy4; revert oy4; refine xE1 fun is => aE2 fun oy5 oy6 => ?_; obtain rfl := oy5; revert oy6; refine aE4 fun e1 e2 e3 e4 => ?_
   simp only [List.length_nil, Nat.add_zero] at e1
   exact fin σ' is e1 e2 (by rw [← e1]; exact e3) e4
 · rintro v rest σ' acc oy7; revert oy7; refine xE1 fun is => aE2 fun oy8 oy9 => ?_; obtain rfl := oy8; revert oy9; refine aE4 fun e1 e2 e3 e4 => ?_; rintro K k1 k2
   simp only [List.length_cons] at e1
   refine he _ _ _ (by rw [Loc.set_eq, if_neg (Ne.symm hx)]; exact hreel) (k_pull H hr e3 (by lia) hm hm2 fun σ₂ i i1 i2 R₂ K₂ => ⟨i, rfl, ?_⟩)
   have e5 : (is.map f).map V.int ++ [V.int (f i)] = ((is ++ [i]).map f).map V.int := by simp
   refine k1 _ _ ⟨is ++ [i], e5, by simp; lia, fun j hj => ?_, by simpa [Int.add_assoc] using R₂, e4.trans K₂⟩
   rcases List.mem_append.mp hj with hj | hj
   · exact e2 j hj
   · rw [List.mem_singleton] at hj; rw [hj]; exact ⟨i1, i2⟩
 · exact ⟨[], rfl, by simp, fun _ h => (nomatch h), by simpa using R, .refl⟩
theorem pures {turn : Loc → AH → (Option V → AH → Prop) → Prop} {src : V} {whole : List V} {x : Str} {m : Loc} {g : Int → V} {Qe : List V → AH → Prop} (hok : iterOk src whole σ) {P : Int → Prop} (he : ∀ (i : Int) (Q : Option V → AH → Prop), P i → Q (some (g i)) σ → turn (m.set x (.int i)) σ Q) :
   ∀ (is : List Int) (acc : List V), (∀ i ∈ is, P i) → is.length + acc.length ≤ 100 → Qe (acc ++ is.map g) σ → wpComp turn src whole x m (is.map .int) σ acc Qe
 | [], acc, _, _, fin => ⟨hok, by simpa using fin⟩
 | i :: is, acc, hp, hl, fin => by
   unfold List.map wpComp
   simp only [List.length_cons] at hl
   refine ⟨hok, he i _ (hp i (.head _)) ⟨by unfold sizeOk; lia, pures hok he is (acc ++ [g i]) (fun j hj => hp j (.tail _ hj)) (by simp; lia) (by simpa using fin)⟩⟩
noncomputable def ColAt (rl c2 c3 c4 c5 : Addr) (σ : AH) (as : List Addr) (l : List (List V)) : Prop := as.length = l.length ∧ ∀ (i : Nat) a b, as[i]? = some a → l[i]? = some b → σ a = some (.list b) ∧ a ≠ rl ∧ a ≠ c2 ∧ a ≠ c3 ∧ a ≠ c4 ∧ a ≠ c5
theorem get_snoc {α : Type} {l : List α} {x y : α} {i : Nat} (h : (l ++ [x])[i]? = some y) : (i < l.length ∧ l[i]? = some y) ∨ (i = l.length ∧ y = x) := by
 by_cases hi : i < l.length
 · rw [List.getElem?_append_left hi] at h; exact .inl ⟨hi, h⟩
 · rw [List.getElem?_append_right (by lia)] at h
   have : i - l.length = 0 := by
     rcases Nat.eq_zero_or_pos (i - l.length) with q | q
     · exact q
     · rw [List.getElem?_eq_none (by simp; lia)] at h; cases h
   rw [this] at h
   simp at h
   exact .inr ⟨by lia, h.symm⟩
theorem ColAt.snoc {rl c2 c3 c4 c5 : Addr} {σ σ' : AH} {as : List Addr} {l : List (List V)} {a : Addr} {b : List V} (h : ColAt rl c2 c3 c4 c5 σ as l) (k : ∀ a o, a ≠ rl → a ≠ c2 → a ≠ c3 → a ≠ c4 → a ≠ c5 → σ a = some o → σ' a = some o) (ha : σ' a = some (.list b)) (n : a ≠ rl ∧ a ≠ c2 ∧ a ≠ c3 ∧ a ≠ c4 ∧ a ≠ c5) :
   ColAt rl c2 c3 c4 c5 σ' (as ++ [a]) (l ++ [b]) := by
 refine ⟨by simp [h.1], fun i x y h1 h2 => ?_⟩
 rcases get_snoc h1 with ⟨i1, h1⟩ | ⟨i1, rfl⟩
 · rcases get_snoc h2 with ⟨_, h2⟩ | ⟨i2, _⟩
   · obtain ⟨p, q⟩ := h.2 i x y h1 h2
     exact ⟨k x _ q.1 q.2.1 q.2.2.1 q.2.2.2.1 q.2.2.2.2 p, q⟩
   · have := h.1; lia
 · rcases get_snoc h2 with ⟨i2, _⟩ | ⟨_, rfl⟩
   · have := h.1; lia
   · exact ⟨ha, n⟩
theorem lst_of {α : Type} {a : Addr} {xs : List α} {f : α → V} {dflt : α} {k : Nat} (h : σ a = some (.list (xs.map f))) (hr : a ≠ rl) (hl : xs.length = k) : Lst (fun a => a = rl) σ a k fun i => f (xs.getD i dflt) := by
 refine ⟨_, ⟨h, hr⟩, by simpa using hl, fun i hi => ?_⟩
 dsimp only
 rw [List.getElem?_map, List.getD_eq_getElem?_getD, List.getElem?_eq_getElem (by lia)]; rfl
theorem getD_some {α : Type} {xs : List α} {d : α} {i : Nat} (h : i < xs.length) : xs[i]? = some (xs.getD i d) := by
 rw [List.getD_eq_getElem?_getD, List.getElem?_eq_getElem h]; rfl
theorem k_world (H : IsK W) (hr : 4 ≤ r) (R : Reel σ rl nb ns n) (hn : n ≤ 700000) (hn0 : 0 ≤ n)
   (h : ∀ σ' g w, w.Ok → WorldAt (fun a => a = rl) σ' g w → Reel σ' rl nb ns (n + 200) → KeepR rl σ σ' → Q (.ref g.wd) σ') : CallSat W r (.fn "_law_world") [.ref rl] σ Q := by
 refine call_up hr fun r hr => call_def (fb__law_world H) rfl ?_
 unfold b__law_world
 exists true_and
 refine k_pull H (by first | exact rk hr rfl | lia) R (by lia) (by lia) (by lia) fun σ₁ p p1 p2 R₁ K₁ => ?_
 exists true_and
 obtain ⟨size, es⟩ : ∃ size : Nat, 2 + p = size := ⟨(2 + p).toNat, by lia⟩
 rw [es]
 refine k_ways H (by first | exact rk hr rfl | lia) R₁ (by lia) (by lia) (by lia) (by lia) fun σ₂ A rs rows K₂ R₂ hA hAr hRA hsz hOk => ?_
 exists true_and
 refine ⟨smallOf (by lia) (by lia), ?_⟩
 refine pulls (r := r) H (by first | exact rk hr rfl | lia) (many := 61) (f := fun i => i - 30) (by lia) (by lia) ?_ (fun σ' K => ⟨smallOf (by lia) (by lia), smallOf (by lia) (by lia), .inl rfl⟩) (by lia) ?_ (fun m' σ' Q hm he => ?_) (by decide) R₂ fun σ₃ vs hvl hvb R₃ K₃ c1 hc1 => ?_
 · simp only [List.length_map]; unfold rngItems rngSize; rw [rngFrom_len, if_pos (by decide)]; lia
 · exists true_and
 · exists os (hm)
   refine he.mono fun v σ z => ?_
   revert z; refine xE1 fun i => aE2 fun oy0 oy1 => ?_; obtain rfl := oy0; revert oy1; intro z
   exists true_and
   exact z
 exists true_and
 refine ⟨by unfold sizeOk; decide, fun c2 hc2 => ⟨by unfold sizeOk; decide, fun c3 hc3 => ⟨by unfold sizeOk; decide, fun c4 hc4 => ⟨by unfold sizeOk; decide, fun c5 hc5 => ⟨by simp [str_eq], fun wd hwd => ?_⟩⟩⟩⟩⟩
 have hlen : (List.map V.int (rngItems 0 (size : Int) 1)).length = size := by
   simp only [List.length_map]; unfold rngItems rngSize; rw [rngFrom_len, if_pos (by decide)]; lia
 rw [hlen] at hvl R₃
 have hA3 : σ₃ A = some (.list (rs.map .ref)) := K₃ A _ hAr hA
 obtain ⟨τ, hτ⟩ : ∃ τ, τ = (((((σ₃.set c1 (.list ((vs.map fun i => i - 30).map .int))).set c2 (.list [])).set c3 (.list [])).set c4 (.list [])).set c5 (.list [])).set wd (.dict [("ways", .ref A), ("values", .ref c1), ("checks", .ref c2), ("draws", .ref c3), ("noisy", .ref c4), ("gains", .ref c5)]) := ⟨_, rfl⟩
 have r1 := KeepR.reel_ne (o := .list []) R₃ hc1
 have Rt1 := R₃.new hc1 (o := .list ((vs.map fun i => i - 30).map .int))
 have r2 := KeepR.reel_ne (o := .list []) Rt1 hc2
 have Rt2 := Rt1.new hc2 (o := .list [])
 have r3 := KeepR.reel_ne (o := .list []) Rt2 hc3
 have Rt3 := Rt2.new hc3 (o := .list [])
 have r4 := KeepR.reel_ne (o := .list []) Rt3 hc4
 have Rt4 := Rt3.new hc4 (o := .list [])
 have r5 := KeepR.reel_ne (o := .list []) Rt4 hc5
 have Rt5 := Rt4.new hc5 (o := .list [])
 have rw' := KeepR.reel_ne (o := .list []) Rt5 hwd
 have Rτ : Reel τ rl nb ns (n + 1 + 8 * size + size) := by rw [hτ]; exact Rt5.new hwd
 have old : ∀ a o, σ₃ a = some o → τ a = some o := fun a o z => by
   rw [hτ]; exact set_old (set_old (set_old (set_old (set_old (set_old z hc1) hc2) hc3) hc4) hc5) hwd
 have t1 : τ c1 = some (.list ((vs.map fun i => i - 30).map .int)) := by rw [hτ]; exact set_old (set_old (set_old (set_old (set_old set_at hc2) hc3) hc4) hc5) hwd
 have t2 : τ c2 = some (.list []) := by rw [hτ]; exact set_old (set_old (set_old (set_old set_at hc3) hc4) hc5) hwd
 have t3 : τ c3 = some (.list []) := by rw [hτ]; exact set_old (set_old (set_old set_at hc4) hc5) hwd
 have t4 : τ c4 = some (.list []) := by rw [hτ]; exact set_old (set_old set_at hc5) hwd
 have t5 : τ c5 = some (.list []) := by rw [hτ]; exact set_old set_at hwd
 have t6 : τ wd = some (.dict [("ways", .ref A), ("values", .ref c1), ("checks", .ref c2), ("draws", .ref c3), ("noisy", .ref c4), ("gains", .ref c5)]) := by rw [hτ]; exact set_at
 have n23 : c2 ≠ c3 := fun z => by rw [← z, set_at] at hc3; cases hc3
 have n34 : c3 ≠ c4 := fun z => by rw [← z, set_at] at hc4; cases hc4
 have n45 : c4 ≠ c5 := fun z => by rw [← z, set_at] at hc5; cases hc5
 have n24 : c2 ≠ c4 := fun z => by rw [← z, set_ne n23, set_at] at hc4; cases hc4
 have n35 : c3 ≠ c5 := fun z => by rw [← z, set_ne n34, set_at] at hc5; cases hc5
 have n25 : c2 ≠ c5 := fun z => by rw [← z, set_ne n24, set_ne n23, set_at] at hc5; cases hc5
 rw [← hτ]
 exists os (a_iter (old _ _ hA3))
 have oldne : ∀ a o, σ₃ a = some o → a ≠ c2 ∧ a ≠ c3 ∧ a ≠ c4 ∧ a ≠ c5 := fun a o z =>
   have z1 := set_old z hc1 (o := .list ((vs.map fun i => i - 30).map .int))
   have z2 := set_old z1 hc2 (o := .list [])
   have z3 := set_old z2 hc3 (o := .list [])
   have z4 := set_old z3 hc4 (o := .list [])
   ⟨ne_of hc2 z1, ne_of hc3 z2, ne_of hc4 z3, ne_of hc5 z4⟩
 have c1ne : c1 ≠ c2 ∧ c1 ≠ c3 ∧ c1 ≠ c4 ∧ c1 ≠ c5 :=
   have z1 : (σ₃.set c1 (.list ((vs.map fun i => i - 30).map .int))) c1 = _ := set_at
   have z2 := set_old z1 hc2 (o := .list [])
   have z3 := set_old z2 hc3 (o := .list [])
   have z4 := set_old z3 hc4 (o := .list [])
   ⟨ne_of hc2 z1, ne_of hc3 z2, ne_of hc4 z3, ne_of hc5 z4⟩
 have wdne : wd ≠ c2 ∧ wd ≠ c3 ∧ wd ≠ c4 ∧ wd ≠ c5 := ⟨(ne_dl t6 t2).symm, (ne_dl t6 t3).symm, (ne_dl t6 t4).symm, (ne_dl t6 t5).symm⟩
 clear hτ hc2 hc3 hc4 hc5 hwd Rt1 Rt2 Rt3 Rt4 Rt5
 have hs7 : size ≤ 7 := by lia
 refine iter_inv (fun rest m' σ' => m' "reel" = some (.ref rl) ∧ m' "world" = some (.ref wd) ∧ ∃ (cks drs : List Bool) (nrs grs : List Addr) (nss : List (List Bool)) (gns : List (List Int)), rest = (rs.drop cks.length).map .ref ∧ cks.length ≤ size ∧ drs.length = cks.length ∧ nrs.length = cks.length ∧ grs.length = cks.length ∧
     σ' c2 = some (.list (cks.map .bool)) ∧ σ' c3 = some (.list (drs.map .bool)) ∧ σ' c4 = some (.list (nrs.map .ref)) ∧ σ' c5 = some (.list (grs.map .ref)) ∧ ColAt rl c2 c3 c4 c5 σ' nrs (nss.map fun b => b.map .bool) ∧ ColAt rl c2 c3 c4 c5 σ' grs (gns.map fun b => b.map .int) ∧
     (∀ (i : Nat) b row, nss[i]? = some b → rows[i]? = some row → b.length = row.length) ∧ (∀ (i : Nat) b row, gns[i]? = some b → rows[i]? = some row → b.length = row.length) ∧ Reel σ' rl nb ns (n + 1 + 9 * size + 8 * cks.length) ∧
     (∀ a o, a ≠ rl → a ≠ c2 → a ≠ c3 → a ≠ c4 → a ≠ c5 → τ a = some o → σ' a = some o)) ?_ ?_ ?_ ?_
 · rintro rest m' σ' oy2; revert oy2; refine aE3 fun _ _ => xE6 fun cks drs nrs grs nss gns => aE15 fun _ _ _ _ _ _ _ _ _ _ _ _ _ _ Kp => ?_
   refine (aE4 fun q1 q2 q3 q4 => ?_) (oldne A _ hA3)
   refine ⟨Kp A _ hAr q1 q2 q3 q4 (old _ _ hA3), ?_⟩
   have := hRA.1; simp; unfold sizeOk; lia
 · rintro m' σ' oy3; revert oy3; refine aE3 fun g1 g2 => xE6 fun cks drs nrs grs nss gns => aE15 fun er l1 l2 l3 l4 s2 s3 s4 s5 N1 G1 N2 G2 R' Kp => ?_
   exists os (g2)
   have hrl := hRA.1
   have hck : cks.length = size := by
     have := congrArg List.length er
     simp at this; lia
   have hnl : nss.length = size := by have := N1.1; simp at this; lia
   have hgl : gns.length = size := by have := G1.1; simp at this; lia
   have tr : ∀ a o, a ≠ rl → σ₃ a = some o → σ' a = some o := fun a o h1 z => let ⟨q1, q2, q3, q4⟩ := oldne a o z; Kp a o h1 q1 q2 q3 q4 (old a o z)
   refine h σ' ⟨wd, A, c1, c2, c3, c4, c5, fun i => rs.getD i 0, fun i => nrs.getD i 0, fun i => grs.getD i 0⟩
     ⟨size, fun i => rows.getD i [], fun i => (vs.map fun i => i - 30).getD i 0, fun i => cks.getD i false, fun i => drs.getD i false, fun i => nss.getD i [], fun i => gns.getD i []⟩
     ⟨by show 2 ≤ size; lia, by show size ≤ 7; lia, fun i hi c hc => ?_, fun i => ?_, fun i hi => ?_, fun i hi => ?_, fun i hi => ?_⟩
     ⟨⟨Kp _ _ rw'.1 wdne.1 wdne.2.1 wdne.2.2.1 wdne.2.2.2 t6, rw'.1⟩, lst_of (tr A _ hAr hA3) hAr (by show _ = size; lia), fun i hi => ?_, lst_of (f := V.int) (Kp _ _ r1.1 c1ne.1 c1ne.2.1 c1ne.2.2.1 c1ne.2.2.2 t1) r1.1 (by show _ = size; simp; lia), lst_of (f := V.bool) s2 r2.1 hck, lst_of (f := V.bool) s3 r3.1 (by show _ = size; lia), lst_of (f := V.ref) s4 r4.1 (by show _ = size; lia), fun i hi => ?_, lst_of (f := V.ref) s5 r5.1 (by show _ = size; lia), fun i hi => ?_⟩
     (R'.up (by lia)) (K₁.trans (K₂.trans (K₃.trans fun a o d z => tr a o d z)))
   · have hi' : i < rows.length := by rw [hsz]; exact hi
     exact (hOk i _ (getD_some hi')).1 c hc
   · by_cases hi' : i < rows.length
     · exact (hOk i _ (getD_some hi')).2
     · show (rows.getD i []).length ≤ 7
       rw [List.getD_eq_getElem?_getD, List.getElem?_eq_none (by lia)]; simp
   · have hi2 : i < size := hi
     exact N2 i _ _ (getD_some (by lia)) (getD_some (by lia))
   · have hi2 : i < size := hi
     exact G2 i _ _ (getD_some (by lia)) (getD_some (by lia))
   · have hi2 : i < size := hi
     have hi3 : i < (vs.map fun i => i - 30).length := by simp; lia
     have := List.mem_of_getElem? (getD_some (d := (0 : Int)) hi3)
     refine (xE1 fun x => aE2 fun hx ex => ?_) (List.mem_map.mp this)
     have := hvb x hx
     show -30 ≤ (vs.map fun i => i - 30).getD i 0 ∧ (vs.map fun i => i - 30).getD i 0 ≤ 30
     rw [← ex]; lia
   · have hi2 : i < size := hi
     obtain ⟨p1, p2⟩ := hRA.2 i _ _ (getD_some (d := (0 : Addr)) (by lia)) (getD_some (d := ([] : List Nat)) (by lia))
     exact ⟨tr _ _ p2 (K₃ _ _ p2 p1), p2⟩
   · have hi2 : i < size := hi
     obtain ⟨p1, p2⟩ := N1.2 i _ _ (getD_some (d := (0 : Addr)) (by lia)) (by rw [List.getElem?_map, getD_some (d := ([] : List Bool)) (by lia)]; rfl)
     exact ⟨p1, p2.1⟩
   · have hi2 : i < size := hi
     obtain ⟨p1, p2⟩ := G1.2 i _ _ (getD_some (d := (0 : Addr)) (by lia)) (by rw [List.getElem?_map, getD_some (d := ([] : List Int)) (by lia)]; rfl)
     exact ⟨p1, p2.1⟩
 · rintro v' rest m' σ' oy4; revert oy4; refine aE3 fun g1 g2 => xE6 fun cks drs nrs grs nss gns => aE15 fun er l1 l2 l3 l4 s2 s3 s4 s5 N1 G1 N2 G2 R' Kp => ?_; rintro K k1 k2 k3 k4
   have hl : cks.length < rs.length := by
     rcases Nat.lt_or_ge cks.length rs.length with z | z
     · exact z
     · rw [List.drop_eq_nil_of_le z] at er; cases er
   rw [List.drop_eq_getElem_cons hl] at er
   cases er
   have hlr : cks.length < rows.length := by rw [← hRA.1]; exact hl
   obtain ⟨ρ1, ρ2⟩ := hRA.2 cks.length rs[cks.length] rows[cks.length] (List.getElem?_eq_getElem hl) (List.getElem?_eq_getElem hlr)
   have hrowOk := hOk cks.length rows[cks.length] (List.getElem?_eq_getElem hlr)
   have ρ3 := K₃ _ _ ρ2 ρ1
   refine (aE4 fun o1 o2 o3 o4 => ?_) (oldne _ _ ρ3)
   have hx := Kp _ _ ρ2 o1 o2 o3 o4 (old _ _ ρ3)
   have hw := Kp _ _ rw'.1 wdne.1 wdne.2.1 wdne.2.2.1 wdne.2.2.2 t6
   exists os (g1), os (g2)
   refine k_pull H (by first | exact rk hr rfl | lia) R' (by lia) (by lia) (by lia) fun σ₅ mk k5 k6 R₅ K₅ => ?_
   exists true_and
   have hw5 := K₅ _ _ rw'.1 hw
   have hx5 := K₅ _ _ ρ2 hx
   have s25 := K₅ _ _ r2.1 s2
   have s35 := K₅ _ _ r3.1 s3
   have s45 := K₅ _ _ r4.1 s4
   have s55 := K₅ _ _ r5.1 s5
   exists os (g1), os (g2), os (hw5), os (a_list s25 (.inl rfl)), c_in (l := [V.int 1, V.int 2, V.int 3]) (xs := [1, 2, 3]) rfl, m_app s25, set_ne wdne.1
   have s36 : (σ₅.set c2 (.list (cks.map .bool ++ [.bool ([1, 2, 3].contains mk)]))) c3 = some (.list (drs.map .bool)) := by rw [set_ne n23.symm]; exact s35
   have s37 : ∀ o o' : AO, ((σ₅.set c2 o).set c3 o') rs[cks.length] = some (.list (natsV rows[cks.length])) := fun o o' => by rw [set_ne o2, set_ne o1]; exact hx5
   have hln : (natsV rows[cks.length]).length = rows[cks.length].length := by simp [natsV]
   have hr7 := hrowOk.2
   exists os (g1), os (g2), os (hw5), set_ne wdne.1, set_ne wdne.2.1, os (a_list s36 (.inl rfl)), m_app s36, os (a_iter (s37 _ _))
   refine ⟨by unfold sizeOk; decide, by simp; unfold sizeOk; lia, by simp; unfold sizeOk; lia, ?_⟩
   have R₅' : Reel ((σ₅.set c2 (.list (cks.map .bool ++ [.bool ([1, 2, 3].contains mk)]))).set c3 (.list (drs.map .bool ++ [.bool (decide (mk = 4))]))) rl nb ns (n + 1 + 9 * size + 8 * cks.length + 1) := (R₅.other r2.1 r2.2).other r3.1 r3.2
   have w37 : ((σ₅.set c2 (.list (cks.map .bool ++ [.bool ([1, 2, 3].contains mk)]))).set c3 (.list (drs.map .bool ++ [.bool (decide (mk = 4))]))) wd = some (.dict [("ways", .ref A), ("values", .ref c1), ("checks", .ref c2), ("draws", .ref c3), ("noisy", .ref c4), ("gains", .ref c5)]) := by rw [set_ne wdne.2.1, set_ne wdne.1]; exact hw5
   have s47 : ((σ₅.set c2 (.list (cks.map .bool ++ [.bool ([1, 2, 3].contains mk)]))).set c3 (.list (drs.map .bool ++ [.bool (decide (mk = 4))]))) c4 = some (.list (nrs.map .ref)) := by rw [set_ne n34.symm, set_ne n24.symm]; exact s45
   have s57 : ((σ₅.set c2 (.list (cks.map .bool ++ [.bool ([1, 2, 3].contains mk)]))).set c3 (.list (drs.map .bool ++ [.bool (decide (mk = 4))]))) c5 = some (.list (grs.map .ref)) := by rw [set_ne n35.symm, set_ne n25.symm]; exact s55
   have s27 : ((σ₅.set c2 (.list (cks.map .bool ++ [.bool ([1, 2, 3].contains mk)]))).set c3 (.list (drs.map .bool ++ [.bool (decide (mk = 4))]))) c2 = some (.list ((cks ++ [[1, 2, 3].contains mk]).map .bool)) := by rw [set_ne n23, set_at, List.map_append]; rfl
   have s38 : ((σ₅.set c2 (.list (cks.map .bool ++ [.bool ([1, 2, 3].contains mk)]))).set c3 (.list (drs.map .bool ++ [.bool (decide (mk = 4))]))) c3 = some (.list ((drs ++ [decide (mk = 4)]).map .bool)) := by rw [set_at, List.map_append]; rfl
   have kp7 : ∀ a o, a ≠ rl → a ≠ c2 → a ≠ c3 → a ≠ c4 → a ≠ c5 → σ' a = some o → ((σ₅.set c2 (.list (cks.map .bool ++ [.bool ([1, 2, 3].contains mk)]))).set c3 (.list (drs.map .bool ++ [.bool (decide (mk = 4))]))) a = some o := fun a o h1 h2 h3 _ _ z => by
     rw [set_ne h3, set_ne h2]; exact K₅ a o h1 z
   have x37 := s37 (.list (cks.map .bool ++ [.bool ([1, 2, 3].contains mk)])) (.list (drs.map .bool ++ [.bool (decide (mk = 4))]))
   generalize ((σ₅.set c2 (.list (cks.map .bool ++ [.bool ([1, 2, 3].contains mk)]))).set c3 (.list (drs.map .bool ++ [.bool (decide (mk = 4))]))) = σ₇ at *
   refine pulls (r := r) H (by first | exact rk hr rfl | lia) (many := 6) (f := fun i => i) (by lia) (by lia) (by rw [hln]; lia) (fun σ'' K => ⟨K _ _ ρ2 x37, by rw [hln]; unfold sizeOk; lia⟩) (by lia) ?_ (fun m'' σ'' Q hm he => ?_) (by decide) R₅' fun σ₈ is isl isb R₈ K₈ c hc => ?_
   · exists g1
   · exists os (hm)
     refine he.mono fun v σ z => ?_
     revert z; refine xE1 fun i => aE2 fun oy5 oy6 => ?_; obtain rfl := oy5; revert oy6; intro z
     exact z
   rw [hln] at isl R₈
   have e1 : is.map (fun i => i) = is := by simp
   rw [e1]
   have w8 := set_old (K₈ _ _ rw'.1 w37) hc (o := .list (is.map .int))
   have s48 := set_old (K₈ _ _ r4.1 s47) hc (o := .list (is.map .int))
   have s58 := set_old (K₈ _ _ r5.1 s57) hc (o := .list (is.map .int))
   have s28 := set_old (K₈ _ _ r2.1 s27) hc (o := .list (is.map .int))
   have s39 := set_old (K₈ _ _ r3.1 s38) hc (o := .list (is.map .int))
   have kp8 : ∀ a o, a ≠ rl → a ≠ c2 → a ≠ c3 → a ≠ c4 → a ≠ c5 → σ' a = some o → (σ₈.set c (.list (is.map .int))) a = some o := fun a o h1 h2 h3 h4 h5 z => set_old (K₈ a o h1 (kp7 a o h1 h2 h3 h4 h5 z)) hc
   have R₉ := R₈.new hc (o := .list (is.map .int))
   have hcc : (σ₈.set c (.list (is.map .int))) c = some (.list (is.map .int)) := set_at
   have ncr := KeepR.reel_ne (o := .list []) R₈ hc
   generalize (σ₈.set c (.list (is.map .int))) = σ₉ at *
   exists os (g1), os (g2), os (w8), os (a_list s48 (.inl rfl)), os (a_iter hcc)
   have hcN : c ≠ c4 ∧ c ≠ c5 := ⟨fun z => (by rw [z] at hc; have := K₈ _ _ r4.1 s47; rw [this] at hc; cases hc), fun z => (by rw [z] at hc; have := K₈ _ _ r5.1 s57; rw [this] at hc; cases hc)⟩
   refine pures (g := fun i => .bool (decide (3 < i))) (P := fun _ => True) ?_ (fun i Q _ z => ?_) is [] (fun _ _ => trivial) (by simp; lia) ?_
   · exact ⟨hcc, by rw [len_ints]; unfold sizeOk; lia⟩
   · exists true_and
     exact z
   intro d1 hd1
   rw [List.nil_append]
   have s4a := set_old s48 hd1 (o := .list (is.map fun i => V.bool (decide (3 < i))))
   have s5a := set_old s58 hd1 (o := .list (is.map fun i => V.bool (decide (3 < i))))
   have wa := set_old w8 hd1 (o := .list (is.map fun i => V.bool (decide (3 < i))))
   have ca := set_old hcc hd1 (o := .list (is.map fun i => V.bool (decide (3 < i))))
   exists os (g1), os (g2), m_app s4a
   refine ⟨by simp; unfold sizeOk; lia, ?_⟩
   have wb := (set_ne (o := .list (nrs.map V.ref ++ [V.ref d1])) wdne.2.2.1).trans wa
   have sb5 := (set_ne (o := .list (nrs.map V.ref ++ [V.ref d1])) n45.symm).trans s5a
   have cb := (set_ne (o := .list (nrs.map V.ref ++ [V.ref d1])) hcN.1).trans ca
   have d1a : (σ₉.set d1 (.list (is.map fun i => V.bool (decide (3 < i))))) d1 = some (.list (is.map fun i => V.bool (decide (3 < i)))) := set_at
   have nd1 : d1 ≠ c2 ∧ d1 ≠ c3 ∧ d1 ≠ c4 ∧ d1 ≠ c5 := ⟨(ne_of hd1 s28).symm, (ne_of hd1 s39).symm, (ne_of hd1 s48).symm, (ne_of hd1 s58).symm⟩
   have nd1r := KeepR.reel_ne (o := .list []) R₉ hd1
   have Rb := (R₉.new hd1 (o := .list (is.map fun i => V.bool (decide (3 < i))))).other r4.1 r4.2 (o := .list (nrs.map V.ref ++ [V.ref d1]))
   have kpb : ∀ a o, a ≠ rl → a ≠ c2 → a ≠ c3 → a ≠ c4 → a ≠ c5 → σ' a = some o → ((σ₉.set d1 (.list (is.map fun i => V.bool (decide (3 < i))))).set c4 (.list (nrs.map V.ref ++ [V.ref d1]))) a = some o := fun a o h1 h2 h3 h4 h5 z => by
     rw [set_ne h4]; exact set_old (kp8 a o h1 h2 h3 h4 h5 z) hd1
   have d1b := (set_ne (o := .list (nrs.map V.ref ++ [V.ref d1])) nd1.2.2.1).trans d1a
   have s2b := (set_ne (o := .list (nrs.map V.ref ++ [V.ref d1])) n24).trans (set_old s28 hd1 (o := .list (is.map fun i => V.bool (decide (3 < i)))))
   have s3b := (set_ne (o := .list (nrs.map V.ref ++ [V.ref d1])) n34).trans (set_old s39 hd1 (o := .list (is.map fun i => V.bool (decide (3 < i)))))
   have s4b : ((σ₉.set d1 (.list (is.map fun i => V.bool (decide (3 < i))))).set c4 (.list (nrs.map V.ref ++ [V.ref d1]))) c4 = some (.list ((nrs ++ [d1]).map .ref)) := by rw [set_at, List.map_append]; rfl
   generalize ((σ₉.set d1 (.list (is.map fun i => V.bool (decide (3 < i))))).set c4 (.list (nrs.map V.ref ++ [V.ref d1]))) = σb at *
   exists os (g1), os (g2), os (wb), os (a_list sb5 (.inl rfl)), os (a_iter cb)
   refine pures (g := fun i => .int (3 * i - 13)) (P := fun i => 0 ≤ i ∧ i < 6) ?_ (fun i Q hi z => ?_) is [] isb (by simp; lia) ?_
   · exact ⟨cb, by rw [len_ints]; unfold sizeOk; lia⟩
   · exists true_and
     exact ⟨smallOf (by lia) (by lia), smallOf (by lia) (by lia), z⟩
   intro d2 hd2
   rw [List.nil_append]
   have s5c := set_old sb5 hd2 (o := .list (is.map fun i => V.int (3 * i - 13)))
   exists os (g1), os (g2), m_app s5c
   refine ⟨by simp; unfold sizeOk; lia, ?_⟩
   have nd2 : d2 ≠ c2 ∧ d2 ≠ c3 ∧ d2 ≠ c4 ∧ d2 ≠ c5 := ⟨(ne_of hd2 s2b).symm, (ne_of hd2 s3b).symm, (ne_of hd2 s4b).symm, (ne_of hd2 sb5).symm⟩
   have nd2r := KeepR.reel_ne (o := .list []) Rb hd2
   have kpc : ∀ a o, a ≠ rl → a ≠ c2 → a ≠ c3 → a ≠ c4 → a ≠ c5 → σ' a = some o → ((σb.set d2 (.list (is.map fun i => V.int (3 * i - 13)))).set c5 (.list (grs.map V.ref ++ [V.ref d2]))) a = some o := fun a o h1 h2 h3 h4 h5 z => by
     rw [set_ne h5]; exact set_old (kpb a o h1 h2 h3 h4 h5 z) hd2
   have e3 : (is.map fun i => V.bool (decide (3 < i))) = (is.map fun i => decide (3 < i)).map V.bool := by simp
   have e4 : (is.map fun i => V.int (3 * i - 13)) = (is.map fun i => 3 * i - 13).map V.int := by simp
   refine k1 _ _ ⟨?_, ?_, cks ++ [[1, 2, 3].contains mk], drs ++ [decide (mk = 4)], nrs ++ [d1], grs ++ [d2], nss ++ [is.map fun i => decide (3 < i)], gns ++ [is.map fun i => 3 * i - 13], by simp, by simp; lia, by simp [l2], by simp [l3], by simp [l4], ?_, ?_, ?_, ?_, ?_, ?_, ?_, ?_, ?_, ?_⟩
   any_goals (exists g1, g2; done)
   · rw [set_ne n25]; exact set_old s2b hd2
   · rw [set_ne n35]; exact set_old s3b hd2
   · rw [set_ne n45]; exact set_old s4b hd2
   · rw [set_at, List.map_append]; rfl
   · rw [List.map_append]
     refine N1.snoc kpc ?_ ⟨nd1r.1, nd1⟩
     rw [set_ne nd1.2.2.2]
     show _ = some (AO.list ((is.map fun i => decide (3 < i)).map V.bool))
     rw [← e3]; exact set_old d1b hd2
   · rw [List.map_append]
     refine G1.snoc kpc ?_ ⟨nd2r.1, nd2⟩
     rw [set_ne nd2.2.2.2, set_at, e4]
   · intro i b row h1 h2
     rcases get_snoc h1 with ⟨_, h1⟩ | ⟨i1, rfl⟩
     · exact N2 i b row h1 h2
     · have : nss.length = cks.length := by have := N1.1; simp at this; lia
       rw [i1, this, List.getElem?_eq_getElem hlr] at h2
       cases h2
       simp [isl]
   · intro i b row h1 h2
     rcases get_snoc h1 with ⟨_, h1⟩ | ⟨i1, rfl⟩
     · exact G2 i b row h1 h2
     · have : gns.length = cks.length := by have := G1.1; simp at this; lia
       rw [i1, this, List.getElem?_eq_getElem hlr] at h2
       cases h2
       simp [isl]
   · exact ((Rb.new hd2).other r5.1 r5.2).up (by simp; lia)
   · intro a o h1 h2 h3 h4 h5 z
     exact kpc a o h1 h2 h3 h4 h5 (Kp a o h1 h2 h3 h4 h5 z)
 · refine ⟨?_, ?_, [], [], [], [], [], [], by simp, by simp, rfl, rfl, rfl, t2, t3, t4, t5, ⟨rfl, fun i a b h => by simp at h⟩, ⟨rfl, fun i a b h => by simp at h⟩, fun i b row h => by simp at h, fun i b row h => by simp at h, Rτ.up (by simp; lia), fun a o _ _ _ _ _ z => z⟩ <;> exists true_and
end
theorem rng_at : ∀ (n : Nat) (a : Int) (i : Nat), i < n → (rngFrom 1 n a)[i]? = some (a + i)
 | 0, _, _, h => by lia
 | n + 1, a, 0, _ => by simp [rngFrom]
 | n + 1, a, i + 1, h => by
   unfold rngFrom
   rw [List.getElem?_cons_succ, rng_at n (a + 1) i (by lia)]
   congr 1; lia
theorem mvs_map {β : Type} (w : Wd) (pl : Nat) (F : Nat → β) : (w.mvs pl).map (fun m => F (w.kid pl m)) = (w.ways pl).map F := by
 apply List.ext_getElem?
 intro i
 rw [List.getElem?_map, List.getElem?_map]
 by_cases hi : i < (w.ways pl).length
 · have h1 : (w.mvs pl)[i]? = some ((1 : Int) + i) := by
     unfold Wd.mvs rngItems rngSize
     rw [if_pos (by decide)]
     exact rng_at _ _ _ (by lia)
   rw [h1]
   have h2 : w.kid pl (1 + (i : Int)) = (w.ways pl)[i] := by
     unfold Wd.kid
     have : ((1 : Int) + i - 1).toNat = i := by lia
     rw [this, List.getD_eq_getElem?_getD, List.getElem?_eq_getElem hi]; rfl
   simp [h2, List.getElem?_eq_getElem hi]
 · rw [List.getElem?_eq_none (by rw [mvs_len]; lia), List.getElem?_eq_none (by lia)]; rfl
theorem rng_shift : ∀ (n : Nat) (a : Int), rngFrom 1 n (a + 1) = (rngFrom 1 n a).map (· + 1)
 | 0, _ => rfl
 | n + 1, a => by simp only [rngFrom, List.map_cons]; rw [rng_shift n (a + 1)]
noncomputable def Wd.loudC (w : Wd) (pl : Nat) : List Nat := ((rngItems 0 (w.ways pl).length 1).filter fun i => (w.nsy pl).getD i.toNat false).map fun i => (w.ways pl).getD i.toNat 0
theorem loud_map {β : Type} (w : Wd) (pl : Nat) (F : Nat → β) : (w.loud pl).map (fun m => F (w.kid pl m)) = (w.loudC pl).map F := by
 unfold Wd.loud Wd.loudC Wd.mvs rngItems rngSize
 simp only [show (0 : Int) < 1 from by decide, if_true]
 have e1 : (((w.ways pl).length : Int) + 1 - 1).toNat = (w.ways pl).length := by lia
 have e2 : (((w.ways pl).length : Int) - 0).toNat = (w.ways pl).length := by lia
 have e0 : rngFrom 1 (w.ways pl).length 1 = (rngFrom 1 (w.ways pl).length 0).map (· + 1) := rng_shift _ 0
 rw [e1, e2, e0, List.filter_map, List.map_map, List.map_map]
 have e3 : (w.isN pl ∘ fun x => x + 1) = fun i : Int => (w.nsy pl).getD i.toNat false := by
   funext i; show (w.nsy pl).getD (i + 1 - 1).toNat false = _
   rw [show i + 1 - 1 = i by lia]
 rw [e3]
 congr 1
 funext i
 show F ((w.ways pl).getD (i + 1 - 1).toNat 0) = F ((w.ways pl).getD i.toNat 0)
 rw [show i + 1 - 1 = i by lia]
section
variable {W : Wld} {r : Nat} {σ σ₀ σ' : AH} {Q : V → AH → Prop} {D : Addr → Prop} {g : WA} {w : Wd}
theorem raiseds (H : IsK W) (hr : 1 ≤ r) {turn : Loc → AH → (Option V → AH → Prop) → Prop} {src : V} {whole : List V} {x : Str} {m : Loc} {f : Nat → Int} {Qe : List V → AH → Prop} (hok : iterOk src whole σ)
   {P : Nat → Prop} (he : ∀ (c : Nat) (Q : Option V → AH → Prop), P c → CallSat W r (.fn "_law_raised") [.int (f c)] σ (fun v σ => Q (some v) σ) → turn (m.set x (.int c)) σ Q) :
   ∀ (cs : List Nat) (acc : List V), (∀ c ∈ cs, P c) → cs.length + acc.length ≤ 100 → Qe (acc ++ (cs.map fun c => rsd (f c)).map .int) σ → wpComp turn src whole x m (natsV cs) σ acc Qe
 | [], acc, _, _, fin => ⟨hok, by simpa using fin⟩
 | c :: cs, acc, hp, hl, fin => by
   show wpComp turn src whole x m (V.int (c : Int) :: natsV cs) σ acc Qe
   unfold wpComp
   simp only [List.length_cons] at hl
   refine ⟨hok, he c _ (hp c (.head _)) (k_raised H hr ⟨by unfold sizeOk; lia, raiseds H hr hok he cs (acc ++ [.int (rsd (f c))]) (fun x hx => hp x (.tail _ hx)) (by simp; lia) (by simpa using fin)⟩)⟩
noncomputable def MRows (D : Addr → Prop) (σ : AH) (a : Addr) (k n : Nat) (f : Nat → Nat → Int) : Prop := ∃ ra : Nat → Addr, Lst D σ a k (fun j => .ref (ra j)) ∧ ∀ j, j < k → Lst D σ (ra j) n fun p => .int (f j p)
theorem MRows.keep {σ' : AH} {a : Addr} {k n : Nat} {f : Nat → Nat → Int} (x : MRows D σ a k n f) (K : Keep D σ σ') : MRows D σ' a k n f := let ⟨ra, h1, h2⟩ := x; ⟨ra, h1.keep K, fun j hj => (h2 j hj).keep K⟩
end
theorem natsV_ints (l : List Nat) : asInts (natsV l) = some (l.map fun n : Nat => (n : Int)) := by
 have : natsV l = (l.map fun n : Nat => (n : Int)).map V.int := by unfold natsV; rw [List.map_map]; rfl
 rw [this]; exact map_asInts _
noncomputable def lqT : PSs := b__law_quiet.tl
theorem lq_eq : b__law_quiet = (.cons (.ite (.bop .And (.cons (.sub (.sub (.loc "world") (.str "draws")) (.loc "place")) (.cons (.cmp .Gt (.loc "place") (.int 0)) .nil))) (.cons (.ret (.int 0))
   .nil) .nil) lqT) := rfl
section
variable {W : Wld} {r : Nat} {σ σ₀ σ' : AH} {Q : V → AH → Prop} {D : Addr → Prop} {g : WA} {w : Wd}
theorem k_quiet (H : IsK W) (hr : 2 ≤ r) (hw : w.Ok) (B : WorldAt D σ g w) {rows : Addr} {pl k : Nat} (hpl : pl < w.n) (hk : k ≤ 20)
   (hrows : ∀ j, k = j + 1 → ∃ l rr, σ rows = some (.list l) ∧ l.length ≤ 100 ∧ l[j]? = some (.ref rr) ∧ Lst D σ rr w.n fun p => .int (qv w j p))
   (h : ∀ σ', (∀ a o, σ a = some o → σ' a = some o) → Q (.int (qv w k pl)) σ') : CallSat W r (.fn "_law_quiet") [.ref g.wd, .ref rows, .int pl, .int k] σ Q := by
 have hn := hw.hi
 have hf := hw.few pl
 refine call_up hr fun r hr => call_def (fb__law_quiet H) rfl ?_
 have main : ∀ m₁ : Loc, m₁ "world" = some (.ref g.wd) → m₁ "rows" = some (.ref rows) → m₁ "place" = some (.int pl) → m₁ "plies" = some (.int k) → ¬ (0 < pl ∧ w.drw pl = true) → wpSs (CallSat W r) lqT m₁ σ (bodyQ Q) := by
   intro m₁ x1 x2 x3 x4 hnd
   unfold lqT b__law_quiet
   simp only [PSs.tl]
   exists os (x1), os (x2), os (x3), os (x4), os (B.wd.1), worldF, r_lst B.dr hpl (by lia), r_lst B.ch hpl (by lia), r_lst B.va hpl (by lia), r_lst B.ck hpl (by lia)
   have hch := B.chR pl hpl
   refine ⟨fun hc => ⟨by unfold sizeOk; lia, fun c hcf => ?_⟩, fun hc => ?_⟩
   · have hch1 := set_old hch.1 hcf (o := .list [])
     rw [a_eqL hch1 (set_at (σ := σ) (a := c) (o := .list [])) (natsV_ints _) (show asInts [] = some [] from rfl)]
     exists os (x1), os (x2), os (x3), os (x4), os (a_iter hch1)
     have ex1 : ∀ a o, σ a = some o → (σ.set c (.list [])) a = some o := fun a o e => set_old e hcf
     refine ⟨fun z => ?_, fun z => ⟨fun z2 => ?_, fun z2 => ?_⟩⟩
     · have hw0 : w.ways pl = [] := by simpa using z
       have : qv w k pl = -32000 := by
         cases k with
         | zero => rw [qv, if_neg hnd, if_pos ⟨hc, hw0⟩]
         | succ k => rw [qv, if_neg hnd, if_pos hc, if_pos hw0]
       have q := h _ ex1
       rw [this] at q; exact q
     · have hw0 : w.ways pl ≠ [] := by simpa using z
       have hk0 : k = 0 := by lia
       subst hk0
       have : qv w 0 pl = w.val pl := by rw [qv, if_neg hnd, if_neg (fun y => hw0 y.2)]
       have q := h _ ex1
       rw [this] at q; exact q
     · have hw0 : w.ways pl ≠ [] := by simpa using z
       obtain ⟨j, rfl⟩ : ∃ j, k = j + 1 := ⟨k - 1, by lia⟩
       refine (xE2 fun l rr => aE4 fun e1 e2 e3 e4 => ?_) (hrows j rfl)
       have e1' := set_old e1 hcf (o := .list [])
       have e4' : Lst D (σ.set c (.list [])) rr w.n fun p => .int (qv w j p) := e4.keep (.new hcf)
       have hi : (((j + 1 : Nat) : Int) - 1).toNat = j := by lia
       have hlen : (natsV (w.ways pl)).length = (w.ways pl).length := by simp [natsV]
       refine raiseds (r := r) H (by first | exact rk hr rfl | lia) (f := qv w j) (P := fun c => c < w.n) ?_ (fun c Q hcn he => ?_) (w.ways pl) [] (fun c hc => (hw.up pl hpl c hc).2) (by simp; lia) ?_
       · exact ⟨hch1, by rw [hlen]; unfold sizeOk; lia⟩
       · exists os (x2), os (x4), r_sub e1' (show 0 ≤ ((j + 1 : Nat) : Int) - 1 by lia) (by rw [hi]; exact e3) (Nat.le_trans e2 (by lia)), r_lst e4' hcn (by lia)
         exact he
       · intro d hd
         rw [List.nil_append]
         have hne : (w.ways pl).map (fun c => rsd (qv w j c)) ≠ [] := by simpa using hw0
         have hq : qv w (j + 1) pl = mxl ((w.ways pl).map fun c => rsd (qv w j c)) := by
           rw [qv, if_neg hnd, if_pos hc, if_neg hw0, mvs_map w pl (fun c => rsd (qv w j c))]
         have q := h ((σ.set c (.list [])).set d (.list (((w.ways pl).map fun c => rsd (qv w j c)).map .int))) fun a o e => set_old (ex1 a o e) hd
         rw [hq] at q
         have hl : ((w.ways pl).map fun c => rsd (qv w j c)).length ≤ 7 := by simpa using hf
         generalize (w.ways pl).map (fun c => rsd (qv w j c)) = L at *
         cases L with
         | nil => exact absurd rfl hne
         | cons x xs =>
           exists a_max set_at (map_asInts (x :: xs))
           exact ⟨by rw [len_ints]; unfold sizeOk; lia, q⟩
   · refine ⟨fun z2 => ?_, fun z2 => ?_⟩
     · have hk0 : k = 0 := by lia
       subst hk0
       have : qv w 0 pl = w.val pl := by rw [qv, if_neg hnd, if_neg (fun y => by rw [hc] at y; cases y.1)]
       have q := h σ fun _ _ e => e
       rw [this] at q; exact q
     · obtain ⟨j, rfl⟩ : ∃ j, k = j + 1 := ⟨k - 1, by lia⟩
       refine (xE2 fun l rr => aE4 fun e1 e2 e3 e4 => ?_) (hrows j rfl)
       have hlen : (natsV (w.ways pl)).length = (w.ways pl).length := by simp [natsV]
       exists os (x1), os (x2), os (x3), os (x4), a_len hch.1, hlen
       refine ⟨by unfold sizeOk; lia, smallOf (by lia) (by lia), ?_⟩
       have rl0 : (rngItems 0 ((w.ways pl).length : Int) 1).length = (w.ways pl).length := by unfold rngItems rngSize; rw [rngFrom_len, if_pos (by decide)]; lia
       have hns := hw.nsl pl hpl
       have hno := B.noR pl hpl
       refine comp_inv (fun rest σ' acc => σ' = σ ∧ ∃ dn ms : List Int, rest = ms.map .int ∧ acc = natsV ((dn.filter fun i => (w.nsy pl).getD i.toNat false).map fun i => (w.ways pl).getD i.toNat 0) ∧ dn ++ ms = rngItems 0 (w.ways pl).length 1) ?_ ?_ ?_ ?_ ?_
       · rintro rest σ' acc ⟨rfl, _⟩
         exact ⟨smallOf (by lia) (by lia), smallOf (by lia) (by lia), .inl rfl⟩
       · rintro rest σ' acc oy0; revert oy0; refine aE2 fun oy1 oy2 => ?_; obtain rfl := oy1; revert oy2; refine xE2 fun dn ms => aE3 fun _ oy3 oy4 => ?_; obtain rfl := oy3; revert oy4; intro hh
         have q1 := congrArg List.length hh
         have q2 := List.length_filter_le (fun i : Int => (w.nsy pl).getD i.toNat false) dn
         simp only [List.length_append] at q1
         simp only [natsV, List.length_map]; unfold sizeOk; lia
       · rintro σ' acc oy5; revert oy5; refine aE2 fun oy6 oy7 => ?_; obtain rfl := oy6; revert oy7; refine xE2 fun dn ms => aE3 fun em oy8 oy9 => ?_; obtain rfl := oy8; revert oy9; intro hh; rintro c hcf
         cases ms with
         | cons => cases em
         | nil =>
         rw [List.append_nil] at hh
         subst hh
         have eL : natsV (((rngItems 0 (w.ways pl).length 1).filter fun i => (w.nsy pl).getD i.toNat false).map fun i => (w.ways pl).getD i.toNat 0) = natsV (w.loudC pl) := rfl
         rw [eL] at *
         exists os (x1), os (x2), os (x3), os (x4)
         refine ⟨by unfold sizeOk; decide, fun b hb => ?_⟩
         have hc2 := set_old (set_at (σ := σ') (a := c) (o := .list (natsV (w.loudC pl)))) hb (o := .list [V.int (w.val pl)])
         have ex2 : ∀ a o, σ' a = some o → ((σ'.set c (.list (natsV (w.loudC pl)))).set b (.list [V.int (w.val pl)])) a = some o := fun a o z => set_old (set_old z hcf) hb
         have hb2 : ((σ'.set c (.list (natsV (w.loudC pl)))).set b (.list [V.int (w.val pl)])) b = some (.list [V.int (w.val pl)]) := set_at
         generalize ((σ'.set c (.list (natsV (w.loudC pl)))).set b (.list [V.int (w.val pl)])) = σb at *
         have lz : (w.loudC pl).length ≤ 7 := by
           unfold Wd.loudC
           have := List.length_filter_le (fun i : Int => (w.nsy pl).getD i.toNat false) (rngItems 0 ((w.ways pl).length : Int) 1)
           simp only [List.length_map]; lia
         exists os (x1), os (x2), os (x3), os (x4), os (a_iter hc2)
         have lmem : ∀ x ∈ w.loudC pl, x < w.n := fun x hx => by
           refine (xE1 fun i => aE2 fun hi oy10 => ?_) (List.mem_map.mp hx); obtain rfl := oy10
           have hir := rng_mem (List.mem_filter.mp hi).1
           exact (hw.up pl hpl _ (List.mem_of_getElem? (getD_some (d := 0) (by lia)))).2
         have e1' := ex2 _ _ e1
         have e4' : Lst D σb rr w.n fun p => .int (qv w j p) := let ⟨l', a1, a2⟩ := e4; ⟨l', ⟨ex2 _ _ a1.1, a1.2⟩, a2⟩
         have hi : (((j + 1 : Nat) : Int) - 1).toNat = j := by lia
         have hl2 : (natsV (w.loudC pl)).length = (w.loudC pl).length := by simp [natsV]
         refine raiseds (r := r) H (by first | exact rk hr rfl | lia) (f := qv w j) (P := fun c => c < w.n) ?_ (fun c Q hcn he => ?_) (w.loudC pl) [] lmem (by simp; lia) ?_
         · exact ⟨hc2, by rw [hl2]; unfold sizeOk; lia⟩
         · exists os (x2), os (x4), r_sub e1' (show 0 ≤ ((j + 1 : Nat) : Int) - 1 by lia) (by rw [hi]; exact e3) (Nat.le_trans e2 (by lia)), r_lst e4' hcn (by lia)
           exact he
         · intro d hd
           rw [List.nil_append]
           have hb3 := set_old hb2 hd (o := .list (((w.loudC pl).map fun c => rsd (qv w j c)).map .int))
           exists a_cat hb3 set_at
           refine ⟨by simp; unfold sizeOk; lia, fun f hf' => ?_⟩
           have hq : qv w (j + 1) pl = mxl (w.val pl :: (w.loudC pl).map fun c => rsd (qv w j c)) := by
             rw [qv, if_neg hnd, if_neg (by rw [hc]; decide), loud_map w pl (fun c => rsd (qv w j c))]
           have hk2 := fun (a : Addr) (o : AO) (e : σ' a = some o) => set_old (set_old (ex2 a o e) hd (o := .list (((w.loudC pl).map fun c => rsd (qv w j c)).map .int))) hf' (o := .list ([V.int (w.val pl)] ++ ((w.loudC pl).map fun c => rsd (qv w j c)).map V.int))
           have q := h _ hk2
           rw [hq] at q
           have e5 : [V.int (w.val pl)] ++ ((w.loudC pl).map fun c => rsd (qv w j c)).map V.int = (w.val pl :: (w.loudC pl).map fun c => rsd (qv w j c)).map V.int := rfl
           have e6 : asInts ([V.int (w.val pl)] ++ ((w.loudC pl).map fun c => rsd (qv w j c)).map V.int) = some (w.val pl :: (w.loudC pl).map fun c => rsd (qv w j c)) := by rw [e5]; exact map_asInts _
           exists a_max set_at e6
           exact ⟨by simp; unfold sizeOk; lia, q⟩
       · rintro v' rest σ' acc oy11; revert oy11; refine aE2 fun oy12 oy13 => ?_; obtain rfl := oy12; revert oy13; refine xE2 fun dn ms => aE3 fun em oy14 oy15 => ?_; obtain rfl := oy14; revert oy15; intro hh; rintro K k1 k2
         cases ms with
         | nil => cases em
         | cons i ms =>
           cases em
           have hir := rng_mem (a := 0) (b := ((w.ways pl).length : Int)) (i := i) (by rw [← hh]; simp)
           have hi1 : i.toNat < (w.nsy pl).length := by lia
           have hi2 : i.toNat < (w.ways pl).length := by lia
           have g1 : ((w.nsy pl).map V.bool)[i.toNat]? = some (.bool ((w.nsy pl).getD i.toNat false)) := by rw [List.getElem?_map, getD_some (d := false) hi1]; rfl
           have g2 : (natsV (w.ways pl))[i.toNat]? = some (.int ((w.ways pl).getD i.toNat 0 : Nat)) := by unfold natsV; rw [List.getElem?_map, getD_some (d := 0) hi2]; rfl
           exists os (x1), os (x3), os (B.wd.1), worldF, r_lst B.no hpl (by lia), r_sub hno.1 hir.1 g1 (by simp; lia), r_sub hch.1 hir.1 g2 (by rw [hlen]; lia)
           refine ⟨fun z => k1 _ _ ⟨rfl, dn ++ [i], ms, rfl, ?_, by rw [← hh]; simp⟩, fun z => k2 _ ⟨rfl, dn ++ [i], ms, rfl, ?_, by rw [← hh]; simp⟩⟩
           · rw [List.filter_append, List.filter_cons, z]; simp [natsV]
           · rw [List.filter_append, List.filter_cons, z]; simp [natsV]
       · exact ⟨rfl, [], rngItems 0 (w.ways pl).length 1, rfl, rfl, rfl⟩
 exists lq_eq, os (B.wd.1), worldF, r_lst B.dr hpl (by lia)
 refine ⟨fun z => ⟨fun z2 => ?_, fun z2 => main _ ?_ ?_ ?_ ?_ fun y => ?_⟩, fun z => main _ ?_ ?_ ?_ ?_ fun y => ?_⟩
 · have : qv w k pl = 0 := by cases k <;> (rw [qv, if_pos ⟨by lia, z⟩])
   have q := h σ fun _ _ e => e
   rw [this] at q; exact q
 all_goals try (exists true_and; done)
 · lia
 · rw [y.2] at z; cases z
end
section
variable {W : Wld} {r : Nat} {σ σ₀ σ' : AH} {Q : V → AH → Prop} {D : Addr → Prop} {g : WA} {w : Wd}
theorem k_quiet_rows (H : IsK W) (hr : 3 ≤ r) (hw : w.Ok) (B : WorldAt D σ g w) (hD : ∀ a, σ a = Option.none → ¬ D a) {k : Nat} (hk : k ≤ 10)
   (h : ∀ σ' a, (∀ a o, σ a = some o → σ' a = some o) → MRows D σ' a (k + 1) w.n (qv w) → Q (.ref a) σ') : CallSat W r (.fn "_law_quiet_rows") [.ref g.wd, .int k] σ Q := by
 have hn := hw.hi
 obtain ⟨lc, hc1, hc2, hc3⟩ := B.ch
 refine call_up hr fun r hr => call_def (fb__law_quiet_rows H) rfl ?_
 unfold b__law_quiet_rows
 exists os (B.wd.1), worldF, a_len hc1.1, hc2
 refine ⟨by unfold sizeOk; lia, by unfold sizeOk; lia, fun c hcf => ⟨smallOf (by lia) (by lia), ?_⟩⟩
 refine iter_inv (fun rest m' σ' => m' "world" = some (.ref g.wd) ∧ m' "rows" = some (.ref c) ∧ m' "size" = some (.int w.n) ∧ ∃ (ra : List Addr), rest = (rngFrom 1 (k + 1 - ra.length) ra.length).map .int ∧ ra.length ≤ k + 1 ∧ σ' c = some (.list (ra.map .ref)) ∧ (∀ a o, σ a = some o → σ' a = some o) ∧
     (∀ (i : Nat) a, ra[i]? = some a → a ≠ c ∧ Lst D σ' a w.n fun p => .int (qv w i p))) ?_ ?_ ?_ ?_
 · intro rest m' σ' _; exact ⟨smallOf (by lia) (by lia), smallOf (by lia) (by lia), .inl rfl⟩
 · rintro m' σ' oy0; revert oy0; refine aE4 fun g1 g2 g3 => xE1 fun ra => aE5 fun er hle hc' Kp hR => ?_
   exists os (g2)
   have hsz : ra.length = k + 1 := by
     have := congrArg List.length er
     rw [List.length_map, rngFrom_len] at this
     simp at this; lia
   refine h σ' c Kp ⟨fun i => ra.getD i 0, ⟨_, ⟨hc', hD c hcf⟩, by simp [hsz], fun i hi => ?_⟩, fun j hj => (hR j _ (getD_some (by lia))).2⟩
   rw [List.getElem?_map, getD_some (d := (0 : Addr)) (by lia)]; rfl
 · rintro v' rest m' σ' oy1; revert oy1; refine aE4 fun g1 g2 g3 => xE1 fun ra => aE5 fun er hle hc' Kp hR => ?_; rintro K k1 k2 k3 k4
   cases hrg : rngFrom 1 (k + 1 - ra.length) ra.length with
   | nil => rw [hrg] at er; cases er
   | cons x rest' =>
   rw [hrg] at er
   refine (aE3 fun ex erest hpos => ?_) (rng_cons _ _ _ _ hrg)
   subst ex
   cases er
   exists os (g1), os (g2), os (g3)
   refine ⟨by unfold sizeOk; lia, fun z hz => ?_⟩
   rw [a_rep set_at]
   refine ⟨by lia, by lia, fun b hb => ?_⟩
   rw [show (List.replicate (w.n : Int).toNat (V.int 0)) = (List.replicate w.n (0 : Int)).map V.int by simp]
   exists os (g1), os (g2), os (g3)
   refine ⟨smallOf (by lia) (by lia), smallOf (by lia) (by lia), ?_⟩
   have ex1 : ∀ a o, σ' a = some o → ((σ'.set z (.list [V.int 0])).set b (.list ((List.replicate w.n (0 : Int)).map V.int))) a = some o := fun a o e => set_old (set_old e hz) hb
   have hb1 : ((σ'.set z (.list [V.int 0])).set b (.list ((List.replicate w.n (0 : Int)).map V.int))) b = some (.list ((List.replicate w.n (0 : Int)).map V.int)) := set_at
   have hbz : σ' b = Option.none := by
     cases hs : σ' b with
     | none => rfl
     | some o => rw [set_old hs hz] at hb; cases hb
   have hbσ : σ b = Option.none := by
     cases hs : σ b with
     | none => rfl
     | some o => rw [Kp b o hs] at hbz; cases hbz
   have hbc : b ≠ c := fun y => by rw [y, hc'] at hbz; cases hbz
   generalize ((σ'.set z (.list [V.int 0])).set b (.list ((List.replicate w.n (0 : Int)).map V.int))) = σb at *
   refine iter_inv (fun rest m'' σ'' => m'' "world" = some (.ref g.wd) ∧ m'' "rows" = some (.ref c) ∧ m'' "size" = some (.int w.n) ∧ m'' "plies" = some (.int ra.length) ∧ m'' "row" = some (.ref b) ∧ ∃ (j : Nat) (xs : List Int), j ≤ w.n ∧ rest = (rngFrom (-1) j ((j : Int) - 1)).map .int ∧ xs.length = w.n ∧ σ'' b = some (.list (xs.map .int)) ∧
     (∀ p, j ≤ p → p < w.n → xs[p]? = some (qv w ra.length p)) ∧ (∀ a o, a ≠ b → σb a = some o → σ'' a = some o)) ?_ ?_ ?_ ?_
   · intro rest m'' σ'' _; exact ⟨smallOf (by lia) (by lia), smallOf (by lia) (by lia), .inr rfl⟩
   · rintro m'' σ'' oy2; revert oy2; refine aE6 fun y1 y2 y3 y4 y5 => xE2 fun j xs => aE6 fun hj er' hxl hxs hdone K₂ => ?_
     have hj0 : j = 0 := by
       have := congrArg List.length er'
       rw [List.length_map, rngFrom_length] at this
       simp at this; lia
     subst hj0
     have hc2 := K₂ c _ hbc.symm (ex1 c _ hc')
     exists os (y1), os (y2), os (y3), os (y4), os (y5), os (a_list hc2 (.inl rfl)), m_app hc2
     refine ⟨by simp; unfold sizeOk; lia, ?_⟩
     rw [show ra.map V.ref ++ [V.ref b] = (ra ++ [b]).map V.ref by rw [List.map_append]; rfl]
     have ex3 : ∀ a o, σ' a = some o → a ≠ c → (σ''.set c (.list ((ra ++ [b]).map .ref))) a = some o := fun a o e n => by
       rw [set_ne n]
       exact K₂ a o (fun y => by rw [y, hbz] at e; cases e) (ex1 a o e)
     refine k1 _ _ ⟨?_, ?_, ?_, ra ++ [b], ?_, by simp; lia, set_at, fun a o e => ex3 a o (Kp a o e) (fun y => by rw [y, hcf] at e; cases e), fun i a hi => ?_⟩
     any_goals (exists y1, y2, y3, y4, y5; done)
     · rw [erest]
       have e1 : k + 1 - (ra ++ [b]).length = k + 1 - ra.length - 1 := by simp; lia
       have e2 : (((ra ++ [b]).length : Nat) : Int) = (ra.length : Int) + 1 := by simp
       rw [e1, e2]
     · rcases get_snoc hi with ⟨_, hi⟩ | ⟨i1, rfl⟩
       · obtain ⟨n1, l, h1, h2⟩ := hR i a hi
         exact ⟨n1, l, ⟨ex3 a _ h1.1 n1, h1.2⟩, h2⟩
       · refine ⟨hbc, _, ⟨by rw [set_ne hbc]; exact hxs, hD _ hbσ⟩, by simpa using hxl, fun p hp => ?_⟩
         rw [List.getElem?_map, i1, hdone p (by lia) hp]; rfl
   · rintro v'' rest m'' σ'' oy3; revert oy3; refine aE6 fun y1 y2 y3 y4 y5 => xE2 fun j xs => aE6 fun hj er' hxl hxs hdone K₂ => ?_; rintro K' k1' k2' k3' k4'
     cases j with
     | zero => cases er'
     | succ j =>
     simp only [rngFrom, List.map_cons] at er'
     cases er'
     have ej : ((j + 1 : Nat) : Int) - 1 = (j : Int) := by lia
     rw [ej]
     exists os (y1), os (y2), os (y3), os (y4), os (y5)
     have hc2 := K₂ c _ hbc.symm (ex1 c _ hc')
     have ex2 : ∀ a o, σ' a = some o → σ'' a = some o := fun a o e => K₂ a o (fun y => by rw [y, hbz] at e; cases e) (ex1 a o e)
     have B₂ : WorldAt D σ'' g w := B.keep fun a o _ e => ex2 a o (Kp a o e)
     refine k_quiet H (by first | exact rk hr rfl | lia) hw B₂ (k := ra.length) (by lia) (by lia) (fun i hi => ?_) fun σ₃ K₃ => ?_
     · have hra : ra[i]? = some (ra.getD i 0) := getD_some (by lia)
       obtain ⟨n1, l, h1, h2⟩ := hR i _ hra
       refine ⟨_, ra.getD i 0, hc2, by simp; lia, by rw [List.getElem?_map, hra]; rfl, l, ⟨ex2 _ _ h1.1, h1.2⟩, h2⟩
     · have hb3 := K₃ _ _ hxs
       exists os (y1), os (y2), os (y3), os (y4), os (y5), a_setSub hb3
       refine ⟨by lia, by simp; lia, by simp; unfold sizeOk; lia, ?_⟩
       have ex : (xs.map V.int).set (j : Int).toNat (.int (qv w ra.length j)) = (xs.set j (qv w ra.length j)).map V.int := by
         rw [Int.toNat_natCast, List.map_set]
       rw [ex]
       refine k1' _ _ ⟨?_, ?_, ?_, ?_, ?_, j, xs.set j (qv w ra.length j), by lia, by congr 2; lia, by simpa using hxl, set_at, fun p h1 h2 => ?_, fun a o n e => ?_⟩
       any_goals (exists y1, y2, y3, y4, y5; done)
       · by_cases hp : p = j
         · subst hp; rw [List.getElem?_set_self (by lia)]
         · rw [List.getElem?_set_ne (by lia)]; exact hdone p (by lia) h2
       · rw [set_ne n]; exact K₃ a o (K₂ a o n e)
   · refine ⟨?_, ?_, ?_, ?_, ?_, w.n, List.replicate w.n 0, by lia, ?_, by simp, hb1, fun p h1 h2 => by lia, fun a o _ e => e⟩
     any_goals (exists g1, g2, g3; done)
     unfold rngItems rngSize
     rw [if_neg (by decide)]
     congr 2; lia
 · refine ⟨?_, ?_, ?_, [], ?_, by simp, by rw [set_at]; rfl, fun a o e => set_old e hcf, fun i a h => by simp at h⟩
   any_goals (exists true_and; done)
   unfold rngItems rngSize
   rw [if_pos (by decide)]
   congr 2
end
noncomputable def PS.fb : PS → PSs
 | .for_ _ _ b => b
 | _ => .nil
noncomputable def PS.ie : PS → PSs
 | .ite _ _ e => e
 | _ => .nil
noncomputable def ldE : PSs := b__law_deep_rows.tl.hd.fb.tl.hd.fb.tl.hd.ie
theorem ld_eq : b__law_deep_rows = (.cons (.asgn "rows" (.lst (.cons (.loc "leaf") .nil)))
   (.cons (.for_ "depth" (.bi .range (.cons (.int 1) (.cons (.bin .Add (.loc "most") (.int 1)) .nil))) (.cons (.asgn "row" (.lst .nil))
   (.cons (.for_ "place" (.bi .range (.cons (.bi .len (.cons (.loc "leaf") .nil)) .nil)) (.cons (.asgn "ways" (.sub (.sub (.loc "world") (.str "ways")) (.loc "place")))
   (.cons (.ite (.bop .And (.cons (.sub (.sub (.loc "world") (.str "draws")) (.loc "place")) (.cons (.cmp .Gt (.loc "place") (.int 0)) .nil))) (.cons (.expr (.meth (.loc "row") "append" (.cons (.int 0) .nil)))
   .nil) ldE)
   .nil)))
   (.cons (.expr (.meth (.loc "rows") "append" (.cons (.loc "row") .nil)))
   .nil))))
   (.cons (.ret (.loc "rows"))
   .nil))) := rfl
theorem ldE_eq : ldE = (.cons (.ite (.cmp .Eq (.loc "ways") (.lst .nil)) (.cons (.expr (.meth (.loc "row") "append" (.cons (.ite (.sub (.sub (.loc "world") (.str "checks")) (.loc "place")) (.neg (.glob "_law_mate" 32000)) (.int 0)) .nil)))
   .nil) (.cons (.expr (.meth (.loc "row") "append" (.cons (.bi .max (.cons (.comp (.call "_law_raised" (.cons (.sub (.sub (.loc "rows") (.bin .Sub (.loc "depth") (.int 1))) (.loc "child")) .nil)) "child" (.loc "ways") .nil) .nil)) .nil)))
   .nil))
   .nil) := rfl
section
variable {W : Wld} {r : Nat} {σ σ₀ σ' : AH} {Q : V → AH → Prop} {D : Addr → Prop} {g : WA} {w : Wd}
theorem k_deep_rows (H : IsK W) (hr : 2 ≤ r) (hw : w.Ok) (B : WorldAt D σ g w) (hD : ∀ a, σ a = Option.none → ¬ D a) {leaf : Addr} {P k : Nat} (hl : Lst D σ leaf w.n fun p => .int (qv w P p)) (hk : k ≤ 10)
   (h : ∀ σ' a, (∀ a o, σ a = some o → σ' a = some o) → MRows D σ' a (k + 1) w.n (dv w P) → Q (.ref a) σ') : CallSat W r (.fn "_law_deep_rows") [.ref g.wd, .ref leaf, .int k] σ Q := by
 have hn := hw.hi
 revert hl; refine xE1 fun lf => aE3 fun hf1 hf2 hf3 => ?_
 refine call_up hr fun r hr => call_def (fb__law_deep_rows H) rfl ?_
 exists ld_eq
 refine ⟨by unfold sizeOk; lia, fun c hcf => ⟨smallOf (by lia) (by lia), smallOf (by lia) (by lia), ?_⟩⟩
 have hD0 : ∀ p, dv w P 0 p = qv w P p := fun p => rfl
 have hlc : leaf ≠ c := fun y => by have := hf1.1; rw [y, hcf] at this; cases this
 refine iter_inv (fun rest m' σ' => m' "world" = some (.ref g.wd) ∧ m' "leaf" = some (.ref leaf) ∧ m' "rows" = some (.ref c) ∧ ∃ (ra : List Addr), rest = (rngFrom 1 (k + 1 - ra.length) ra.length).map .int ∧ 1 ≤ ra.length ∧ ra.length ≤ k + 1 ∧ σ' c = some (.list (ra.map .ref)) ∧ (∀ a o, σ a = some o → σ' a = some o) ∧
     (∀ (i : Nat) a, ra[i]? = some a → a ≠ c ∧ Lst D σ' a w.n fun p => .int (dv w P i p))) ?_ ?_ ?_ ?_
 · intro rest m' σ' _; exact ⟨smallOf (by lia) (by lia), smallOf (by lia) (by lia), .inl rfl⟩
 · rintro m' σ' oy0; revert oy0; refine aE4 fun g1 g2 g3 => xE1 fun ra => aE6 fun er hge hle hc' Kp hR => ?_
   exists os (g3)
   have hsz : ra.length = k + 1 := by
     have := congrArg List.length er
     rw [List.length_map, rngFrom_len] at this
     simp at this; lia
   refine h σ' c Kp ⟨fun i => ra.getD i 0, ⟨_, ⟨hc', hD c hcf⟩, by simp [hsz], fun i hi => ?_⟩, fun j hj => (hR j _ (getD_some (by lia))).2⟩
   rw [List.getElem?_map, getD_some (d := (0 : Addr)) (by lia)]; rfl
 · rintro v' rest m' σ' oy1; revert oy1; refine aE4 fun g1 g2 g3 => xE1 fun ra => aE6 fun er hge hle hc' Kp hR => ?_; rintro K k1 k2 k3 k4
   cases hrg : rngFrom 1 (k + 1 - ra.length) ra.length with
   | nil => rw [hrg] at er; cases er
   | cons x rest' =>
   rw [hrg] at er
   refine (aE3 fun ex erest hpos => ?_) (rng_cons _ _ _ _ hrg)
   subst ex
   cases er
   exists os (g1), os (g2), os (g3)
   refine ⟨by unfold sizeOk; lia, fun b hb => ?_⟩
   have hf' := set_old (Kp _ _ hf1.1) hb (o := .list [])
   exists os (g1), os (g2), os (g3), a_len hf', hf2
   refine ⟨by unfold sizeOk; lia, smallOf (by lia) (by lia), ?_⟩
   have ex1 : ∀ a o, σ' a = some o → (σ'.set b (.list [])) a = some o := fun a o e => set_old e hb
   have hbσ : σ b = Option.none := by
     cases hs : σ b with
     | none => rfl
     | some o => rw [Kp b o hs] at hb; cases hb
   have hbc : b ≠ c := fun y => by rw [y, hc'] at hb; cases hb
   refine iter_inv (fun rest m'' σ'' => m'' "world" = some (.ref g.wd) ∧ m'' "leaf" = some (.ref leaf) ∧ m'' "rows" = some (.ref c) ∧ m'' "depth" = some (.int ra.length) ∧ m'' "row" = some (.ref b) ∧ ∃ (xs : List Int), xs.length ≤ w.n ∧ rest = (rngFrom 1 (w.n - xs.length) xs.length).map .int ∧ σ'' b = some (.list (xs.map .int)) ∧
     (∀ p, p < xs.length → xs[p]? = some (dv w P ra.length p)) ∧ (∀ a o, σ' a = some o → σ'' a = some o)) ?_ ?_ ?_ ?_
   · intro rest m'' σ'' _; exact ⟨smallOf (by lia) (by lia), smallOf (by lia) (by lia), .inl rfl⟩
   · rintro m'' σ'' oy2; revert oy2; refine aE6 fun y1 y2 y3 y4 y5 => xE1 fun xs => aE5 fun hx er' hxs hdone K₂ => ?_
     have hxl : xs.length = w.n := by
       have := congrArg List.length er'
       rw [List.length_map, rngFrom_len] at this
       simp at this; lia
     have hc2 := K₂ c _ hc'
     exists os (y1), os (y2), os (y3), os (y4), os (y5), os (a_list hc2 (.inl rfl)), m_app hc2
     refine ⟨by simp; unfold sizeOk; lia, ?_⟩
     rw [show ra.map V.ref ++ [V.ref b] = (ra ++ [b]).map V.ref by rw [List.map_append]; rfl]
     have ex3 : ∀ a o, σ' a = some o → a ≠ c → (σ''.set c (.list ((ra ++ [b]).map .ref))) a = some o := fun a o e n => by
       rw [set_ne n]; exact K₂ a o e
     refine k1 _ _ ⟨?_, ?_, ?_, ra ++ [b], ?_, by simp, by simp; lia, set_at, fun a o e => ex3 a o (Kp a o e) (fun y => by rw [y, hcf] at e; cases e), fun i a hi => ?_⟩
     any_goals (exists y1, y2, y3, y4, y5; done)
     · rw [erest]
       have e1 : k + 1 - (ra ++ [b]).length = k + 1 - ra.length - 1 := by simp; lia
       have e2 : (((ra ++ [b]).length : Nat) : Int) = (ra.length : Int) + 1 := by simp
       rw [e1, e2]
     · rcases get_snoc hi with ⟨_, hi⟩ | ⟨i1, rfl⟩
       · obtain ⟨n1, l, h1, h2⟩ := hR i a hi
         exact ⟨n1, l, ⟨ex3 a _ h1.1 n1, h1.2⟩, h2⟩
       · refine ⟨hbc, _, ⟨by rw [set_ne hbc]; exact hxs, hD _ hbσ⟩, by simpa using hxl, fun p hp => ?_⟩
         rw [List.getElem?_map, i1, hdone p (by lia)]; rfl
   · rintro v'' rest m'' σ'' oy3; revert oy3; refine aE6 fun y1 y2 y3 y4 y5 => xE1 fun xs => aE5 fun hx er' hxs hdone K₂ => ?_; rintro K' k1' k2' k3' k4'
     cases hrg2 : rngFrom 1 (w.n - xs.length) xs.length with
     | nil => rw [hrg2] at er'; cases er'
     | cons x rest'' =>
     rw [hrg2] at er'
     refine (aE3 fun ex erest2 hpos2 => ?_) (rng_cons _ _ _ _ hrg2)
     subst ex
     cases er'
     have hpl : xs.length < w.n := by lia
     generalize hple : xs.length = pl at *
     obtain ⟨i, hi⟩ : ∃ i, ra.length = i + 1 := ⟨ra.length - 1, by lia⟩
     have B₂ : WorldAt D σ'' g w := B.keep fun a o _ e => K₂ a o (Kp a o e)
     have hfw := hw.few pl
     have hch := B₂.chR pl hpl
     have fin : ∀ (m₅ : Loc) (τ : AH) (val : Int), m₅ "world" = some (.ref g.wd) → m₅ "leaf" = some (.ref leaf) → m₅ "rows" = some (.ref c) → m₅ "depth" = some (.int ra.length) → m₅ "row" = some (.ref b) → (∀ a o, a ≠ b → σ'' a = some o → τ a = some o) → val = dv w P ra.length pl →
         K' .next m₅ (τ.set b (.list (xs.map V.int ++ [V.int val]))) := by
       intro m₅ τ val z1 z2 z3 z4 z5 Kτ ev
       rw [show xs.map V.int ++ [V.int val] = (xs ++ [val]).map V.int by rw [List.map_append]; rfl]
       refine k1' _ _ ⟨z1, z2, z3, z4, z5, xs ++ [val], by simp; lia, ?_, set_at, fun p hp => ?_, fun a o e => ?_⟩
       · rw [erest2]
         have e1 : w.n - (xs ++ [val]).length = w.n - pl - 1 := by simp; lia
         have e2 : (((xs ++ [val]).length : Nat) : Int) = (pl : Int) + 1 := by simp [hple]
         rw [e1, e2]
       · simp only [List.length_append, List.length_singleton] at hp
         by_cases hp' : p < xs.length
         · rw [List.getElem?_append_left hp']; exact hdone p (by lia)
         · have : p = pl := by lia
           subst this
           rw [List.getElem?_append_right (by lia), ev]
           simp [hple]
       · have : a ≠ b := fun y => by rw [y, hb] at e; cases e
         rw [set_ne this]; exact Kτ a o this (K₂ a o e)
     have s2 : sizeOk (xs.map V.int).length := by simp; unfold sizeOk; lia
     have rest3 : ∀ m₁ : Loc, m₁ "world" = some (.ref g.wd) → m₁ "leaf" = some (.ref leaf) → m₁ "rows" = some (.ref c) → m₁ "depth" = some (.int ra.length) → m₁ "row" = some (.ref b) → m₁ "place" = some (.int pl) → m₁ "ways" = some (.ref (g.chR pl)) → ¬ (0 < pl ∧ w.drw pl = true) →
         wpSs (CallSat W r) ldE m₁ σ'' K' := ?rest3
     · exists os (y1), os (y2), os (y3), os (y4), os (y5), os (B₂.wd.1), worldF, r_lst B₂.dr hpl (by lia), r_lst B₂.ch hpl (by lia), os (a_list hxs (.inl rfl)), m_app hxs
       refine ⟨fun z => ⟨fun z2 => ⟨s2, ?_⟩, fun z2 => ?_⟩, fun z => ?_⟩
       · refine fin _ σ'' 0 ?_ ?_ ?_ ?_ ?_ (fun a o _ e => e) ?_
         any_goals (exists y1, y2, y3, y4, y5; done)
         rw [hi, dv, if_pos ⟨by lia, z⟩]
       · refine rest3 _ ?_ ?_ ?_ ?_ ?_ ?_ ?_ (fun y => by lia)
         any_goals (exists y1, y2, y3, y4, y5; done)
       · refine rest3 _ ?_ ?_ ?_ ?_ ?_ ?_ ?_ (fun y => by rw [y.2] at z; cases z)
         any_goals (exists y1, y2, y3, y4, y5; done)
     intro m₁ x1 x2 x3 x4 x5 x6 x7 hnd
     exists ldE_eq, os (x1), os (x2), os (x3), os (x4), os (x5), os (x6), os (x7)
     refine ⟨by unfold sizeOk; decide, fun f hf => ?_⟩
     have hch1 := set_old hch.1 hf (o := .list [])
     rw [a_eqL hch1 (set_at (σ := σ'') (a := f) (o := .list [])) (natsV_ints _) (show asInts [] = some [] from rfl)]
     have ex4 : ∀ a o, σ'' a = some o → (σ''.set f (.list [])) a = some o := fun a o e => set_old e hf
     have B₃ : WorldAt D (σ''.set f (.list [])) g w := B₂.keep fun a o _ e => ex4 a o e
     have hxs3 := ex4 _ _ hxs
     have hc3 := ex4 _ _ (K₂ c _ hc')
     have R3 : ∀ j a, ra[j]? = some a → Lst D (σ''.set f (.list [])) a w.n fun p => .int (dv w P j p) := fun j a e => let ⟨_, l, q1, q2⟩ := hR j a e; ⟨l, ⟨ex4 _ _ (K₂ _ _ q1.1), q1.2⟩, q2⟩
     generalize (σ''.set f (.list [])) = σ₃ at *
     exists os (x1), os (x2), os (x3), os (x4), os (x5), os (x6), os (x7), os (B₃.wd.1), worldF, r_lst B₃.ck hpl (by lia), os (a_list hxs3 (.inl rfl)), m_app hxs3, os (a_iter hch1)
     refine ⟨fun z => ⟨fun z2 => ⟨s2, fin _ σ₃ _ ?_ ?_ ?_ ?_ ?_ (fun a o _ e => ex4 a o e) ?_⟩, fun z2 => ⟨s2, fin _ σ₃ _ ?_ ?_ ?_ ?_ ?_ (fun a o _ e => ex4 a o e) ?_⟩⟩, fun z => ?_⟩
     any_goals (exists x1, x2, x3, x4, x5, x6, x7; done)
     · have hw0 : w.ways pl = [] := by simpa using z
       rw [hi, dv, if_neg hnd, if_pos hw0, if_pos z2]
     · have hw0 : w.ways pl = [] := by simpa using z
       rw [hi, dv, if_neg hnd, if_pos hw0, if_neg (by rw [z2]; decide)]
     · have hw0 : w.ways pl ≠ [] := by simpa using z
       have hra : ra[i]? = some (ra.getD i 0) := getD_some (by lia)
       have e4' := R3 i _ hra
       have hlen : (natsV (w.ways pl)).length = (w.ways pl).length := by simp [natsV]
       have hi2 : ((ra.length : Int) - 1).toNat = i := by lia
       refine raiseds (r := r) H (by first | exact rk hr rfl | lia) (f := dv w P i) (P := fun c => c < w.n) ?_ (fun c Q hcn he => ?_) (w.ways pl) [] (fun c hc => (hw.up pl hpl c hc).2) (by simp; lia) ?_
       · exact ⟨hch1, by rw [hlen]; unfold sizeOk; lia⟩
       · exists os (x3), os (x4), r_sub hc3 (show 0 ≤ (ra.length : Int) - 1 by lia) (by rw [hi2, List.getElem?_map, hra]; rfl) (by simp; lia), r_lst e4' hcn (by lia)
         exact he
       · intro d hd
         rw [List.nil_append]
         have hne : (w.ways pl).map (fun c => rsd (dv w P i c)) ≠ [] := by simpa using hw0
         have hq : dv w P ra.length pl = mxl ((w.ways pl).map fun c => rsd (dv w P i c)) := by
           rw [hi, dv, if_neg hnd, if_neg hw0, mvs_map w pl (fun c => rsd (dv w P i c))]
         have hl : ((w.ways pl).map fun c => rsd (dv w P i c)).length ≤ 7 := by simpa using hfw
         have q := fin m₁ (σ₃.set d (.list (((w.ways pl).map fun c => rsd (dv w P i c)).map .int))) _ x1 x2 x3 x4 x5 (fun a o _ e => set_old (ex4 a o e) hd) hq.symm
         have hxs4 := set_old hxs3 hd (o := .list (((w.ways pl).map fun c => rsd (dv w P i c)).map .int))
         generalize (w.ways pl).map (fun c => rsd (dv w P i c)) = L at *
         cases L with
         | nil => exact absurd rfl hne
         | cons x xs' =>
           exists a_max set_at (map_asInts (x :: xs')), m_app hxs4
           exact ⟨by rw [len_ints]; unfold sizeOk; lia, s2, q⟩
   · refine ⟨?_, ?_, ?_, ?_, ?_, [], by simp, ?_, set_at, fun p hp => by simp at hp, ex1⟩
     any_goals (exists g1, g2, g3; done)
     unfold rngItems rngSize
     rw [if_pos (by decide)]
     congr 2
 · refine ⟨?_, ?_, ?_, [leaf], ?_, by simp, by simp, by rw [set_at]; rfl, fun a o e => set_old e hcf, fun i a h => ?_⟩
   any_goals (exists true_and; done)
   · unfold rngItems rngSize
     rw [if_pos (by decide)]
     congr 2; simp
   · cases i with
     | zero => cases h; exact ⟨hlc, lf, ⟨set_old hf1.1 hcf, hf1.2⟩, hf2, hf3⟩
     | succ i => simp at h
end
noncomputable def rsdN : Nat → Int → Int
 | 0, u => u
 | k + 1, u => rsdN k (rsd u)
section
variable {W : Wld} {r : Nat} {σ σ₀ σ' : AH} {Q : V → AH → Prop} {D : Addr → Prop} {g : WA} {w : Wd}
theorem k_leads (H : IsK W) (hr : 2 ≤ r) (hw : w.Ok) (B : WorldAt D σ g w) {deep tr : Addr} {P d : Nat} (hd : d ≤ 5) (M : MRows D σ deep 6 w.n (dv w P)) {l : List Int} (ht : σ tr = some (.list (l.map .int))) (hl : l.length ≤ d) {val : Int} (L : Leads w P d 0 l val)
   (h : Q (.bool true) σ) : CallSat W r (.fn "_law_leads") [.ref g.wd, .ref deep, .ref tr, .int d, .int val] σ Q := by
 have hn := hw.hi
 have hn0 := hw.lo
 revert M; refine xE1 fun rf => aE2 fun oy0 oy1 => ?_; revert oy0; refine xE1 fun ls => aE3 fun hM1 hM2 hM3 => ?_; revert oy1; intro hM4
 refine call_up hr fun r hr => call_def (fb__law_leads H) rfl ?_
 unfold b__law_leads
 exists a_len ht, len_ints, os (a_iter ht)
 refine ⟨by unfold sizeOk; lia, fun z => absurd z (by lia), fun _ => ?_⟩
 refine iter_inv (fun rest m' σ' => σ' = σ ∧ m' "world" = some (.ref g.wd) ∧ m' "deep" = some (.ref deep) ∧ m' "trail" = some (.ref tr) ∧ m' "depth" = some (.int d) ∧ m' "told" = some (.int val) ∧ ∃ (l' : List Int) (d' pl : Nat) (u : Int), m' "place" = some (.int pl) ∧ rest = l'.map .int ∧ Leads w P d' pl l' u ∧ rsdN (l.length - l'.length) u = val ∧ d' + l.length = d + l'.length ∧ l'.length ≤ l.length ∧ pl < w.n) ?_ ?_ ?_ ?_
 · rintro rest m' σ' ⟨rfl, _⟩; exact ⟨ht, by rw [len_ints]; unfold sizeOk; lia⟩
 · rintro m' σ' oy2; revert oy2; refine aE2 fun oy3 oy4 => ?_; obtain rfl := oy3; revert oy4; refine aE6 fun g1 g2 g3 g4 g5 => xE4 fun l' d' pl u => aE7 fun g6 er L' e1 e2 e3 hpl => ?_
   cases l' with
   | cons => cases er
   | nil =>
   rw [leads_nil] at L'
   simp only [List.length_nil, Nat.sub_zero] at e1 e2
   have hi : ((d : Int) - l.length).toNat = d' := by lia
   exists os (g1), os (g2), os (g3), os (g4), os (g5), os (g6), a_len ht, len_ints, r_sub hM1.1 (show 0 ≤ (d : Int) - l.length by lia) (by rw [hi]; exact hM3 d' (by lia)) (by lia), r_lst (hM4 d' (by lia)) hpl (by lia), L', os (a_iter ht)
   refine ⟨by unfold sizeOk; lia, ?_⟩
   refine iter_inv (fun rest m'' σ'' => σ'' = σ' ∧ m'' "told" = some (.int val) ∧ ∃ (k : Nat) (u : Int), m'' "merit" = some (.int u) ∧ rest.length = k ∧ rsdN k u = val) ?_ ?_ ?_ ?_
   · rintro rest m'' σ'' ⟨rfl, _⟩; exact ⟨ht, by rw [len_ints]; unfold sizeOk; lia⟩
   · rintro m'' σ'' oy5; revert oy5; refine aE2 fun oy6 oy7 => ?_; obtain rfl := oy6; revert oy7; refine aE2 fun y1 => xE2 fun k u' => aE3 fun y2 hk hu => ?_
     simp only [List.length_nil] at hk
     subst hk
     have : u' = val := hu
     subst this
     exists os (y1), os (y2)
     exact h
   · rintro v' rest m'' σ'' oy8; revert oy8; refine aE2 fun oy9 oy10 => ?_; obtain rfl := oy9; revert oy10; refine aE2 fun y1 => xE2 fun k u' => aE3 fun y2 hk hu => ?_; rintro K k1 k2 k3 k4
     cases k with
     | zero => simp at hk
     | succ k =>
     exists os (y1), os (y2)
     refine k_raised H (by first | exact rk hr rfl | lia) ?_
     exists os (y1)
     refine k1 _ _ ⟨rfl, ?_, k, rsd u', ?_, by simpa using hk, hu⟩
     all_goals exists y1
   · refine ⟨rfl, ?_, l.length, u, ?_, by simp, e1⟩
     all_goals exists g5
 · rintro v' rest m' σ' oy11; revert oy11; refine aE2 fun oy12 oy13 => ?_; obtain rfl := oy12; revert oy13; refine aE6 fun g1 g2 g3 g4 g5 => xE4 fun l' d' pl u => aE7 fun g6 er L' e1 e2 e3 hpl => ?_; rintro K k1 k2 k3 k4
   cases l' with
   | nil => cases er
   | cons m l' =>
   cases er
   cases d' with
   | zero => exact absurd L' id
   | succ d' =>
   obtain ⟨hnd, m1, m2, uc, Lc, eu⟩ := L'
   simp only [List.length_cons] at e1 e2 e3
   have hch := B.chR pl hpl
   have hfw := hw.few pl
   have hkid := kid_up hw hpl m1 m2
   have hlen : (natsV (w.ways pl)).length = (w.ways pl).length := by simp [natsV]
   have hk2 : (natsV (w.ways pl))[(m - 1).toNat]? = some (.int (w.kid pl m : Nat)) := by unfold natsV; rw [List.getElem?_map, kid_get m1 m2]; rfl
   exists os (g1), os (g2), os (g3), os (g4), os (g5), os (g6), os (B.wd.1), worldF, r_lst B.dr hpl (by lia), r_lst B.ch hpl (by lia), a_len hch.1, hlen, r_sub hch.1 (show 0 ≤ m - 1 by lia) hk2 (by lia)
   have nx : K .next ((m'.set "move" (.int m)).set "place" (.int (w.kid pl m : Nat))) σ' := by
     refine k1 _ _ ⟨rfl, ?_, ?_, ?_, ?_, ?_, l', d', w.kid pl m, uc, ?_, rfl, Lc, ?_, by lia, by lia, hkid.2⟩
     any_goals (exists g1, g2, g3, g4, g5; done)
     have : l.length - l'.length = (l.length - (l'.length + 1)) + 1 := by lia
     rw [this, rsdN, ← eu]; exact e1
   have sz : sizeOk (w.ways pl).length := by unfold sizeOk; lia
   have both : (0 < m → sizeOk (w.ways pl).length ∧ (¬ m ≤ ((w.ways pl).length : Int) → K (.ret (.bool false)) (m'.set "move" (.int m)) σ') ∧ (m ≤ ((w.ways pl).length : Int) → K .next ((m'.set "move" (.int m)).set "place" (.int (w.kid pl m : Nat))) σ')) ∧ (¬ 0 < m → K (.ret (.bool false)) (m'.set "move" (.int m)) σ') :=
     ⟨fun _ => ⟨sz, fun x => absurd m2 x, fun _ => nx⟩, fun x => absurd (show 0 < m by lia) x⟩
   exact ⟨fun z => ⟨fun z2 => absurd ⟨by lia, z2⟩ hnd, fun _ => both⟩, fun _ => both⟩
 · refine ⟨rfl, ?_, ?_, ?_, ?_, ?_, l, d, 0, val, ?_, rfl, L, by simp [rsdN], rfl, Nat.le_refl _, by lia⟩
   all_goals (exists true_and; try rfl)
end
section
variable {W : Wld} {r : Nat} {σ σ₀ σ' : AH} {Q : V → AH → Prop} {D : Addr → Prop} {g : WA} {w : Wd} {e : EA} {v : Sv}
theorem k_rows_true (H : IsK W) (hr : 3 ≤ r) (hw : w.Ok) (C : e.Cf) (B : Base σ e w) (S : St σ e v) (I : EI e w v) (hT : e.hasT = true) (G : WorldAt D σ g w) {deep : Addr} (M : MRows D σ deep 6 w.n (dv w e.qd.toNat))
   (h : Q (.bool true) σ) : CallSat W r (.fn "_law_rows_are_true") [.ref g.wd, .ref deep, .ref e.tab] σ Q := by
 have hn := hw.hi
 revert M; refine xE1 fun rf => aE2 fun oy0 oy1 => ?_; revert oy0; refine xE1 fun ls => aE3 fun hM1 hM2 hM3 => ?_; revert oy1; intro hM4
 obtain ⟨lc, hc1, hc2, hc3⟩ := G.ch
 have sl := I.sl hT
 refine call_up hr fun r hr => call_def (fb__law_rows_are_true H) rfl ?_
 unfold b__law_rows_are_true
 exists os (G.wd.1), worldF, a_len hc1.1, hc2
 refine ⟨by unfold sizeOk; lia, smallOf (by lia) (by lia), ?_⟩
 refine iter_inv (fun rest m' σ' => σ' = σ ∧ m' "world" = some (.ref g.wd) ∧ m' "deep" = some (.ref deep) ∧ m' "table" = some (.ref e.tab) ∧ ∀ x ∈ rest, ∃ pl : Nat, pl < w.n ∧ x = .int pl) ?_ ?_ ?_ ?_
 · intro rest m' σ' _; exact ⟨smallOf (by lia) (by lia), smallOf (by lia) (by lia), .inl rfl⟩
 · rintro m' σ' oy2; revert oy2; refine aE2 fun oy3 oy4 => ?_; obtain rfl := oy3; revert oy4; refine aE4 fun g1 g2 g3 _ => ?_
   exists true_and
   exact h
 · rintro v' rest m' σ' oy5; revert oy5; refine aE2 fun oy6 oy7 => ?_; obtain rfl := oy6; revert oy7; refine aE4 fun g1 g2 g3 hx => ?_; rintro K k1 k2 k3 k4
   refine (xE1 fun pl => aE2 fun hpl oy8 => ?_) (hx v' (.head _)); obtain rfl := oy8
   have hx' := fun x hx' => hx x (.tail _ hx')
   obtain ⟨b1, b2⟩ := B.tab hT
   have hch := G.chR pl hpl
   have hfw := hw.few pl
   have hlen : (natsV (w.ways pl)).length = (w.ways pl).length := by simp [natsV]
   exists os (g1), os (g2), os (g3), os (a_inst b1.1 b2.1 mo_TransTable_probe (gi_tprobe e))
   refine x_probe H (by first | exact rk hr rfl | lia) C B S hT (I.sn hT) (fun s hs => (sl s hs).1) ?_ fun s hs hne hk => ?_
   · exists os (g1), os (g2), os (g3)
     refine k2 _ _ ⟨rfl, ?_, ?_, ?_, hx'⟩
     all_goals exists g1, g2, g3
   · obtain ⟨_, z⟩ := sl s hs
     refine (xE2 fun pl' d => aE9 fun q1 q2 q3 q4 q5 q6 q7 q8 q9 => ?_) (z hne)
     have e1 : pl' = pl := by lia
     subst e1
     rw [q5]
     exists os (g1), os (g2), os (g3), r_sub hM1.1 (show 0 ≤ (d : Int) by lia) (hM3 d (by lia)) (by lia), r_lst (hM4 d (by lia)) hpl (by lia), os (G.wd.1), worldF, r_lst G.ch hpl (by lia), a_len hch.1, hlen, c_notin (l := [V.int 3, V.int 2]) (xs := [3, 2]) rfl
     have fin : K .next (((((((m'.set "place" (.int pl')).set "row" (.tup [.int (eMove s), .int (eVal s), .int d, .int (eBnd s)])).set "move" (.int (eMove s))).set "told" (.int (eVal s))).set "depth" (.int d)).set "bound" (.int (eBnd s))).set "merit" (.int (dv w e.qd.toNat d pl'))) σ' := by
       refine k1 _ _ ⟨rfl, ?_, ?_, ?_, hx'⟩
       all_goals exists g1, g2, g3
     have sz : sizeOk (w.ways pl').length := by unfold sizeOk; lia
     have s2 : sizeOk (0 + 1 + 1) := by unfold sizeOk; decide
     unfold Bd at q9
     have cn : [3, 2].contains (eBnd s) = false → eBnd s ≠ 3 ∧ eBnd s ≠ 2 := by simp
     have ct : [3, 2].contains (eBnd s) = true → eBnd s = 3 ∨ eBnd s = 2 := by simp
     generalize [3, 2].contains (eBnd s) = bb at *
     generalize K (.ret (.bool false)) = KF at *
     repeat' (first | exact sz | exact s2 | (refine fun h => absurd h ?_; lia) | intro _ | apply And.intro)
     all_goals first | exact fin | (exfalso; have := cn (by assumption); lia)
 · refine ⟨rfl, ?_, ?_, ?_, fun x hx => ?_⟩
   any_goals (exists true_and; done)
   refine (xE1 fun i => aE2 fun hi oy9 => ?_) (List.mem_map.mp hx); obtain rfl := oy9
   have := rng_mem hi
   exact ⟨i.toNat, by lia, by congr 1; lia⟩
end
theorem set_set {σ : AH} {a : Addr} {o o' : AO} : (σ.set a o).set a o' = σ.set a o' := by funext x; unfold AH.set; split <;> rfl
theorem set_swap {σ : AH} {a c : Addr} {o o' l : AO} (h : c ≠ a) : ((σ.set a o).set c l).set a o' = (σ.set a o').set c l := by
 funext x; unfold AH.set
 by_cases h1 : x = a
 · subst h1; rw [if_pos rfl, if_neg (Ne.symm h), if_pos rfl]
 · by_cases h2 : x = c
   · subst h2; rw [if_neg h1, if_pos rfl, if_pos rfl]
   · rw [if_neg h1, if_neg h2, if_neg h1, if_neg h2, if_neg h1]
noncomputable def Ext (σ σ' : AH) : Prop := ∀ a o, σ a = some o → σ' a = some o
theorem Ext.refl {σ : AH} : Ext σ σ := fun _ _ e => e
theorem Ext.trans {a b c : AH} (x : Ext a b) (y : Ext b c) : Ext a c := fun p o e => y p o (x p o e)
theorem Ext.none {σ σ' : AH} {a : Addr} (x : Ext σ σ') (h : σ' a = Option.none) : σ a = Option.none := by
 cases e : σ a with
 | none => rfl
 | some o => rw [x a o e] at h; cases h
structure Mk (σ τ : AH) (x d : Addr) (C : Str) (F : List (Str × V)) : Prop where
 hx : τ x = some (.inst C d)
 hd : τ d = some (.dict F)
 he : ∀ o, Ext σ (τ.set d o)
 nx : σ x = Option.none
 nd : σ d = Option.none
 ne : x ≠ d
section
variable {W : Wld} {r : Nat} {σ τ : AH} {Q : V → AH → Prop} {x d c : Addr} {C : Str} {F F' : List (Str × V)} {l : AO}
set_option tactic.hygienic true in
theorem Mk.ext (M : Mk σ τ x d C F) : Ext σ τ := by
 have : τ.set d (.dict F) = τ := by
   funext y; unfold AH.set
   split
   · rename_i h; rw [h, M.hd]
   · rfl
 have h := M.he (.dict F); rw [this] at h; exact h
theorem Mk.cd (M : Mk σ τ x d C F) (h : τ c = Option.none) : c ≠ d ∧ c ≠ x ∧ σ c = Option.none :=
 ⟨fun z => (by rw [z, M.hd] at h; cases h), fun z => (by rw [z, M.hx] at h; cases h), M.ext.none h⟩
theorem Mk.new (M : Mk σ τ x d C F) (h : τ c = Option.none) : Mk σ (τ.set c l) x d C F :=
 ⟨set_old M.hx h, set_old M.hd h, fun o a b z => by
   have hc := M.cd h
   have : (τ.set c l).set d o = (τ.set d o).set c l := by
     funext y; unfold AH.set
     by_cases h1 : y = d
     · subst h1; rw [if_pos rfl, if_neg (Ne.symm hc.1), if_pos rfl]
     · rw [if_neg h1, if_neg h1]
   rw [this]
   exact set_old (M.he o a b z) (by rw [set_ne hc.1]; exact h), M.nx, M.nd, M.ne⟩
theorem Mk.put (M : Mk σ τ x d C F) : Mk σ (τ.set d (.dict F')) x d C F' :=
 ⟨by rw [set_ne M.ne]; exact M.hx, set_at, fun o => by rw [set_set]; exact M.he o, M.nx, M.nd, M.ne⟩
theorem cls0 {C : Str} {args : List V} (hc : clsStat W.K C = true)
   (h : ∀ τ d x, Mk σ τ x d C [] → CallSat W r (.me C "__init__") (.ref x :: args) τ (fun v σ' => v = .none ∧ Q (.ref x) σ')) :
   CallSat W (r + 1) (.fn C) args σ Q := by
 refine call_cls hc fun d x hd hx hdx => h _ d x ⟨set_at, by rw [set_ne hdx]; exact set_at, fun o' a o z => ?_, hx, hd, hdx.symm⟩
 rw [set_ne (ne_of hd z), set_ne (ne_of hx z), set_ne (ne_of hd z)]; exact z
theorem mk_game (H : IsK W) (hr : 2 ≤ r) {v1 v2 v3 v4 v5 v6 : V}
   (h : ∀ τ x d p, Mk σ τ x d "TreeGame" [("children", v1), ("values", v2), ("checks", v3), ("draws", v4), ("noisy_rows", v5), ("gain_rows", v6), ("path", .ref p)] → σ p = Option.none → x ≠ p → d ≠ p → τ p = some (.list [.int 0]) → Q (.ref x) τ) :
   CallSat W r (.fn "TreeGame") [v1, v2, v3, v4, v5, v6] σ Q := by
 refine call_up hr fun r hr => cls0 (f_cls_TreeGame H) fun τ d x M => ?_
 refine call_up hr fun r hr => call_def (fb_TreeGame___init__ H) rfl ?_
 unfold b_TreeGame___init__
 exists rsa M.hx M.hd ao_TreeGame_children, rsS M.hx M.ne ao_TreeGame_values, rsS M.hx M.ne ao_TreeGame_checks, rsS M.hx M.ne ao_TreeGame_draws, rsS M.hx M.ne ao_TreeGame_noisy_rows, rsS M.hx M.ne ao_TreeGame_gain_rows
 refine ⟨by decide, by decide, by decide, by decide, by decide, by decide, by unfold sizeOk; decide, fun c hc => ?_⟩
 have M' := M.put.new hc (l := .list [.int 0])
 have hcc := M.put.cd hc
 have hp : ∀ o, (((τ.set d o).set c (.list [V.int 0])).set d (.dict [("children", v1), ("values", v2), ("checks", v3), ("draws", v4), ("noisy_rows", v5), ("gain_rows", v6), ("path", .ref c)])) c = some (.list [.int 0]) := fun o => by rw [set_ne hcc.1, set_at]
 exists rsa M'.hx M'.hd ao_TreeGame_path
 exact ⟨by decide, h _ x d c M'.put hcc.2.2 hcc.2.1.symm hcc.1.symm (hp _)⟩
theorem mk_ctx (H : IsK W) (hr : 2 ≤ r) {v1 v2 v3 v4 v5 v6 v7 : V}
   (h : ∀ τ x d p l0, Mk σ τ x d "SearchContext" [("game", v1), ("table", v2), ("killers", v3), ("history", v4), ("qdepth", v5), ("is_exact", v6), ("max_nodes", v7), ("nodes", .int 0), ("made", .int 0), ("lines", .ref p)] → σ p = Option.none → x ≠ p → d ≠ p → τ p = some (.list [.ref l0]) → σ l0 = Option.none → l0 ≠ d → l0 ≠ p → τ l0 = some (.list []) → Q (.ref x) τ) :
   CallSat W r (.fn "SearchContext") [v1, v2, v3, v4, v5, v6, v7] σ Q := by
 refine call_up hr fun r hr => cls0 (f_cls_SearchContext H) fun τ d x M => ?_
 refine call_up hr fun r hr => call_def (fb_SearchContext___init__ H) rfl ?_
 unfold b_SearchContext___init__
 exists rsa M.hx M.hd ao_SearchContext_game, rsS M.hx M.ne ao_SearchContext_table, rsS M.hx M.ne ao_SearchContext_killers, rsS M.hx M.ne ao_SearchContext_history, rsS M.hx M.ne ao_SearchContext_qdepth, rsS M.hx M.ne ao_SearchContext_is_exact, rsS M.hx M.ne ao_SearchContext_max_nodes, rsS M.hx M.ne ao_SearchContext_nodes, rsS M.hx M.ne ao_SearchContext_made
 refine ⟨by decide, by decide, by decide, by decide, by decide, by decide, by decide, by decide, by decide, by unfold sizeOk; decide, fun c hc => ?_⟩
 have M' := M.put.new hc (l := .list [])
 have hcc := M.put.cd hc
 refine ⟨by unfold sizeOk; decide, fun p hp => ?_⟩
 have M2 := M'.new hp (l := .list [.ref c])
 have hpp := M'.cd hp
 have ncp : c ≠ p := fun z => by rw [z, set_at] at hp; cases hp
 exists rsa M2.hx M2.hd ao_SearchContext_lines
 exact ⟨by decide, h _ x d p c M2.put hpp.2.2 hpp.2.1.symm hpp.1.symm (by rw [set_ne hpp.1, set_at]) hcc.2.2 hcc.1 ncp (by rw [set_ne hcc.1, set_ne ncp, set_at])⟩
theorem mk_his (H : IsK W) (hr : 2 ≤ r) {lim : Int} (hl : 1 ≤ lim)
   (h : ∀ τ x d p, Mk σ τ x d "History" [("limit", .int lim), ("scores", .ref p)] → σ p = Option.none → x ≠ p → d ≠ p → τ p = some (.idict []) → Q (.ref x) τ) :
   CallSat W r (.fn "History") [.int lim] σ Q := by
 refine call_up hr fun r hr => cls0 (f_cls_History H) fun τ d x M => ?_
 refine call_up hr fun r hr => call_def (fb_History___init__ H) rfl ?_
 unfold b_History___init__
 exists rsa M.hx M.hd ao_History_limit
 refine ⟨fun z => by lia, fun _ => ⟨by decide, fun p hp => ?_⟩⟩
 have M2 := M.put.new hp (l := .idict [])
 have hpp := M.put.cd hp
 exists rsa M2.hx M2.hd ao_History_scores
 exact ⟨by decide, h _ x d p M2.put hpp.2.2 hpp.2.1.symm hpp.1.symm (by rw [set_ne hpp.1, set_at])⟩
theorem mk_tab (H : IsK W) (hr : 2 ≤ r) {cl wy : Int} (h1 : 1 ≤ cl) (h2 : cl ≤ 4) (h3 : 1 ≤ wy) (h4 : wy ≤ 2)
   (h : ∀ τ x d p, Mk σ τ x d "TransTable" [("clusters", .int cl), ("ways", .int wy), ("age", .int 0), ("slots", .ref p)] → σ p = Option.none → x ≠ p → d ≠ p → τ p = some (.list ((List.replicate (cl * wy).toNat (0 : Int)).map .int)) → Q (.ref x) τ) :
   CallSat W r (.fn "TransTable") [.int cl, .int wy] σ Q := by
 have hm : cl * wy ≤ 8 := by
   have : cl * wy ≤ 4 * wy := Int.mul_le_mul_of_nonneg_right h2 (by lia)
   lia
 have hm0 : 0 ≤ cl * wy := Int.mul_nonneg (by lia) (by lia)
 refine call_up hr fun r hr => cls0 (f_cls_TransTable H) fun τ d x M => ?_
 refine call_up hr fun r hr => call_def (fb_TransTable___init__ H) rfl ?_
 unfold b_TransTable___init__
 exists rsa M.hx M.hd ao_TransTable_clusters, rsS M.hx M.ne ao_TransTable_ways, rsS M.hx M.ne ao_TransTable_age
 refine ⟨fun z => by lia, fun _ => ⟨fun z => by lia, fun _ => ⟨by decide, by decide, by decide, by unfold sizeOk; decide, fun z hz => ⟨smallOf (by lia) (by lia), smallOf (by lia) (by lia), ?_⟩⟩⟩⟩
 rw [a_rep set_at]
 refine ⟨hm0, by lia, fun p hp => ?_⟩
 have M1 := M.put.new hz (l := .list [.int 0])
 have er : List.replicate (cl * wy).toNat (V.int 0) = (List.replicate (cl * wy).toNat (0 : Int)).map V.int := by simp
 rw [er]
 have M2 := M1.new hp (l := .list ((List.replicate (cl * wy).toNat (0 : Int)).map V.int))
 have hpp := M1.cd hp
 exists rsa M2.hx M2.hd ao_TransTable_slots
 exact ⟨by decide, h _ x d p M2.put hpp.2.2 hpp.2.1.symm hpp.1.symm (by rw [set_ne hpp.1, set_at])⟩
theorem mk_kil (H : IsK W) (hr : 2 ≤ r) {n : Int} (h1 : 0 ≤ n) (h2 : n ≤ 6)
   (h : ∀ τ x d p q, Mk σ τ x d "Killers" [("plies", .int n), ("first", .ref p), ("second", .ref q)] → σ p = Option.none → σ q = Option.none → x ≠ p → d ≠ p → x ≠ q → d ≠ q → p ≠ q → τ p = some (.list ((List.replicate n.toNat (0 : Int)).map .int)) → τ q = some (.list ((List.replicate n.toNat (0 : Int)).map .int)) → Q (.ref x) τ) :
   CallSat W r (.fn "Killers") [.int n] σ Q := by
 refine call_up hr fun r hr => cls0 (f_cls_Killers H) fun τ d x M => ?_
 refine call_up hr fun r hr => call_def (fb_Killers___init__ H) rfl ?_
 unfold b_Killers___init__
 exists rsa M.hx M.hd ao_Killers_plies
 refine ⟨by decide, by unfold sizeOk; decide, fun z hz => ?_⟩
 rw [a_rep set_at]
 refine ⟨h1, by lia, fun p hp => ?_⟩
 have er : List.replicate n.toNat (V.int 0) = (List.replicate n.toNat (0 : Int)).map V.int := by simp
 rw [er]
 have M1 := M.put.new hz (l := .list [.int 0])
 have M2 := M1.new hp (l := .list ((List.replicate n.toNat (0 : Int)).map V.int))
 have hpp := M1.cd hp
 exists rsa M2.hx M2.hd ao_Killers_first
 refine ⟨by decide, by unfold sizeOk; decide, fun z2 hz2 => ?_⟩
 rw [a_rep set_at]
 refine ⟨h1, by lia, fun p2 hp2 => ?_⟩
 rw [er]
 have M3 := M2.put.new hz2 (l := .list [.int 0])
 have M4 := M3.new hp2 (l := .list ((List.replicate n.toNat (0 : Int)).map V.int))
 have hpq := M3.cd hp2
 have np2 : p ≠ z2 := fun y => by rw [← y, set_ne hpp.1, set_at] at hz2; cases hz2
 have npq : p ≠ p2 := fun y => by rw [← y, set_ne np2, set_ne hpp.1, set_at] at hp2; cases hp2
 exists rsa M4.hx M4.hd ao_Killers_second
 exact ⟨by decide, h _ x d p p2 M4.put hpp.2.2 hpq.2.2 hpp.2.1.symm hpp.1.symm hpq.2.1.symm hpq.1.symm npq (by rw [set_ne hpp.1, set_ne npq, set_ne np2, set_ne hpp.1, set_at]) (by rw [set_ne hpq.1, set_at])⟩
end
section
variable {rl : Addr} {s : Nat → AH} {e : EA} {w : Wd} {g : WA} {a x d p : Addr} {i j : Nat}
theorem chain (hs : ∀ i, KeepR rl (s i) (s (i + 1))) : ∀ (k i : Nat), KeepR rl (s i) (s (i + k))
 | 0, _ => .refl
 | k + 1, i => (chain hs k i).trans (hs (i + k))
noncomputable def Born (rl : Addr) (s : Nat → AH) (i : Nat) (a : Addr) : Prop := s i a = Option.none ∧ (∃ o, s (i + 1) a = some o) ∧ a ≠ rl
theorem Born.not_lt (hs : ∀ i, KeepR rl (s i) (s (i + 1))) (x : Born rl s i a) (y : Born rl s j a) : ¬ i < j := fun h => by
 obtain ⟨o, ho⟩ := x.2.1
 have := chain hs (j - (i + 1)) (i + 1) a o x.2.2 ho
 rw [show i + 1 + (j - (i + 1)) = j by omega, y.1] at this; cases this
theorem Born.inj (hs : ∀ i, KeepR rl (s i) (s (i + 1))) (x : Born rl s i a) (y : Born rl s j a) : i = j := by
 have := x.not_lt hs y; have := y.not_lt hs x; lia
theorem Born.old (hs : ∀ i, KeepR rl (s i) (s (i + 1))) (x : Born rl s i a) {o : AO} : s 0 a ≠ some o := fun h => by
 have := chain hs i 0 a o x.2.2 h
 rw [Nat.zero_add, x.1] at this; cases this
structure Stg (rl : Addr) (σ σ' : AH) (x d : Addr) (C : Str) (F : List (Str × V)) : Prop where
 x0 : σ x = Option.none
 d0 : σ d = Option.none
 xr : x ≠ rl
 dr : d ≠ rl
 x1 : σ' x = some (.inst C d)
 d1 : σ' d = some (.dict F)
structure Prt (rl : Addr) (σ σ' : AH) (x d p : Addr) (o : AO) : Prop where
 p0 : σ p = Option.none
 pr : p ≠ rl
 xp : x ≠ p
 dp : d ≠ p
 p1 : σ' p = some o
theorem Mk.stg {σ τ σ' : AH} {C : Str} {F : List (Str × V)} {nb : Addr} {ns : List Int} {n : Int} (M : Mk σ τ x d C F) (R : Reel σ rl nb ns n) (K : KeepR rl τ σ') : Stg rl σ σ' x d C F :=
 have h1 := (KeepR.reel_ne (o := .list []) R M.nx).1
 have h2 := (KeepR.reel_ne (o := .list []) R M.nd).1
 ⟨M.nx, M.nd, h1, h2, K _ _ h1 M.hx, K _ _ h2 M.hd⟩
theorem Mk.prt {σ τ σ' : AH} {C : Str} {F : List (Str × V)} {nb : Addr} {ns : List Int} {n : Int} {o : AO} (M : Mk σ τ x d C F) (R : Reel σ rl nb ns n) (K : KeepR rl τ σ') (h0 : σ p = Option.none) (h1 : x ≠ p) (h2 : d ≠ p) (h3 : τ p = some o) : Prt rl σ σ' x d p o :=
 have h := (KeepR.reel_ne (o := .list []) R h0).1
 ⟨h0, h, h1, h2, K _ _ h h3⟩
noncomputable def Mu.tag : Mu → Nat
 | .path => 0
 | .slots => 1
 | .first => 2
 | .second => 2
 | .scores => 3
 | .ctxd => 4
 | .lines => 4
structure Parts (rl : Addr) (s : Nat → AH) (e : EA) (slots fst : List Int) (l0 : Addr) : Prop where
 hs : ∀ i, KeepR rl (s i) (s (i + 1))
 game : Stg rl (s 0) (s 1) e.game e.gd "TreeGame" (gameF e)
 path : Prt rl (s 0) (s 1) e.game e.gd e.path (.list [.int 0])
 tab : e.hasT = true → Stg rl (s 1) (s 2) e.tab e.td "TransTable" (tabF e) ∧ Prt rl (s 1) (s 2) e.tab e.td e.slots (.list (slots.map .int))
 kil : e.hasK = true → Stg rl (s 2) (s 3) e.kil e.kd "Killers" (kilF e) ∧ Prt rl (s 2) (s 3) e.kil e.kd e.first (.list (fst.map .int)) ∧ Prt rl (s 2) (s 3) e.kil e.kd e.second (.list (fst.map .int)) ∧ e.first ≠ e.second
 his : e.hasK = true → Stg rl (s 3) (s 4) e.his e.hd "History" (hisF e) ∧ Prt rl (s 3) (s 4) e.his e.hd e.scores (.idict [])
 ctx : Stg rl (s 4) (s 5) e.ctx e.ctxd "SearchContext" (ctxF e 0 0)
 cne : e.ctx ≠ e.ctxd
 lines : Prt rl (s 4) (s 5) e.ctx e.ctxd e.lines (.list [.ref l0])
variable {slots fst : List Int} {l0 : Addr}
set_option tactic.hygienic true in
theorem Parts.born (T : Parts rl s e slots fst l0) {k : Mu} (h : e.mu k = some a) : Born rl s k.tag a := by
 cases k <;> simp only [EA.mu] at h
 · cases h; exact ⟨T.path.p0, ⟨_, T.path.p1⟩, T.path.pr⟩
 · cases h; exact ⟨T.ctx.d0, ⟨_, T.ctx.d1⟩, T.ctx.dr⟩
 · cases h; exact ⟨T.lines.p0, ⟨_, T.lines.p1⟩, T.lines.pr⟩
 · split at h
   · rename_i c; cases h; have z := (T.tab c).2; exact ⟨z.p0, ⟨_, z.p1⟩, z.pr⟩
   · cases h
 · split at h
   · rename_i c; cases h; have z := (T.kil c).2.1; exact ⟨z.p0, ⟨_, z.p1⟩, z.pr⟩
   · cases h
 · split at h
   · rename_i c; cases h; have z := (T.kil c).2.2.1; exact ⟨z.p0, ⟨_, z.p1⟩, z.pr⟩
   · cases h
 · split at h
   · rename_i c; cases h; have z := (T.his c).2; exact ⟨z.p0, ⟨_, z.p1⟩, z.pr⟩
   · cases h
theorem Parts.old (T : Parts rl s e slots fst l0) {o : AO} (h : s 0 a = some o) : ¬ e.D a := fun ⟨_, hk⟩ => (T.born hk).old T.hs h
set_option tactic.hygienic true in
theorem Parts.inj (T : Parts rl s e slots fst l0) (k k' : Mu) (a : Addr) (h : e.mu k = some a) (h' : e.mu k' = some a) : k = k' := by
 have ht := (T.born h).inj T.hs (T.born h')
 have n1 := T.lines.dp
 have n2 : ∀ c : e.hasK = true, e.first ≠ e.second := fun c => (T.kil c).2.2.2
 cases k <;> cases k' <;> first
   | rfl
   | exact absurd ht (by decide)
   | (simp only [EA.mu] at h h'; cases h; cases h'; exact absurd rfl n1)
   | (simp only [EA.mu] at h h'; cases h; rw [Option.some.injEq] at h'; exact absurd h' n1)
   | (simp only [EA.mu] at h h'; cases h; rw [Option.some.injEq] at h'; exact absurd h'.symm n1)
   | (simp only [EA.mu] at h h'; split at h <;> simp at h h' <;> rename_i c <;> exact absurd (h.trans h'.2.symm) (n2 c))
   | (simp only [EA.mu] at h h'; split at h <;> simp at h h' <;> rename_i c <;> exact absurd (h'.2.trans h.symm) (n2 c))
theorem Parts.notD (T : Parts rl s e slots fst l0) (h : Born rl s i a) (n : ∀ k, k.tag = i → e.mu k ≠ some a) : ¬ e.D a := fun ⟨k, hk⟩ => n k ((T.born hk).inj T.hs h) hk
theorem Parts.at (T : Parts rl s e slots fst l0) {o : AO} (hi : i ≤ 5) (h : s i a = some o) (hr : a ≠ rl) : s 5 a = some o := by
 have := chain T.hs (5 - i) i a o hr h
 rwa [show i + (5 - i) = 5 by omega] at this
theorem Parts.at0 (T : Parts rl s e slots fst l0) {o : AO} (h : At (fun a => a = rl) (s 0) a o) : At e.D (s 5) a o := ⟨T.at (by lia) h.1 h.2, T.old h.1⟩
theorem Parts.lst0 (T : Parts rl s e slots fst l0) {n : Nat} {f : Nat → V} (h : Lst (fun a => a = rl) (s 0) a n f) : Lst e.D (s 5) a n f := let ⟨l, p, q⟩ := h; ⟨l, T.at0 p, q⟩
theorem Parts.stg (T : Parts rl s e slots fst l0) {C : Str} {F : List (Str × V)} (h : Stg rl (s i) (s (i + 1)) x d C F) (hi : i ≤ 4) (n : ∀ k, k.tag = i → e.mu k ≠ some x ∧ e.mu k ≠ some d) : At e.D (s 5) x (.inst C d) ∧ At e.D (s 5) d (.dict F) :=
 ⟨⟨T.at (by lia) h.x1 h.xr, T.notD ⟨h.x0, ⟨_, h.x1⟩, h.xr⟩ fun k e => (n k e).1⟩, ⟨T.at (by lia) h.d1 h.dr, T.notD ⟨h.d0, ⟨_, h.d1⟩, h.dr⟩ fun k e => (n k e).2⟩⟩
theorem ne2 {a b c : Addr} (h : a ≠ c) (h' : b ≠ c) : some c ≠ some a ∧ some c ≠ some b := ⟨fun z => h (Option.some.inj z).symm, fun z => h' (Option.some.inj z).symm⟩
theorem Parts.base (T : Parts rl s e slots fst l0) (G : WorldAt (fun a => a = rl) (s 0) g w) (e1 : e.ch = g.ch) (e2 : e.va = g.va) (e3 : e.ck = g.ck) (e4 : e.dr = g.dr) (e5 : e.no = g.no) (e6 : e.ga = g.ga) (e7 : e.chR = g.chR) (e8 : e.noR = g.noR) (e9 : e.gaR = g.gaR) : Base (s 5) e w := by
 have A1 := T.stg T.game (by lia) fun k hk => by
   cases k <;> first | exact absurd hk (by decide) | exact ne2 T.path.xp T.path.dp
 refine ⟨A1.1, A1.2, by rw [e1, e7]; exact T.lst0 G.ch, fun i h => by rw [e7]; exact T.at0 (G.chR i h), by rw [e2]; exact T.lst0 G.va, by rw [e3]; exact T.lst0 G.ck, by rw [e4]; exact T.lst0 G.dr, by rw [e5, e8]; exact T.lst0 G.no, fun i h => by rw [e8]; exact T.at0 (G.noR i h), by rw [e6, e9]; exact T.lst0 G.ga, fun i h => by rw [e9]; exact T.at0 (G.gaR i h), ?_, fun h => T.stg (T.tab h).1 (by lia) fun k hk => ?_, fun h => T.stg (T.kil h).1 (by lia) fun k hk => ?_, fun h => T.stg (T.his h).1 (by lia) fun k hk => ?_, T.inj⟩
 · refine ⟨T.at (by lia) T.ctx.x1 T.ctx.xr, T.notD ⟨T.ctx.x0, ⟨_, T.ctx.x1⟩, T.ctx.xr⟩ fun k hk => ?_⟩
   cases k <;> first | exact absurd hk (by decide) | exact (ne2 T.cne T.lines.xp).1 | exact fun z => T.cne (Option.some.inj z).symm | exact fun z => T.lines.xp (Option.some.inj z).symm
 · cases k <;> first | exact absurd hk (by decide) | (simp only [EA.mu, h, if_true]; exact ne2 (T.tab h).2.xp (T.tab h).2.dp)
 · cases k <;> first | exact absurd hk (by decide) | (simp only [EA.mu, h, if_true]; first | exact ne2 (T.kil h).2.1.xp (T.kil h).2.1.dp | exact ne2 (T.kil h).2.2.1.xp (T.kil h).2.2.1.dp)
 · cases k <;> first | exact absurd hk (by decide) | (simp only [EA.mu, h, if_true]; exact ne2 (T.his h).2.xp (T.his h).2.dp)
set_option tactic.hygienic true in
theorem Parts.st (T : Parts rl s e slots fst l0) : St (s 5) e ⟨[0], 0, 0, [l0], slots, fst, fst, []⟩ := by
 intro k a h
 cases k <;> simp only [EA.mu] at h
 · cases h; exact T.at (by lia) T.path.p1 T.path.pr
 · cases h; exact T.ctx.d1
 · cases h; exact T.lines.p1
 · split at h
   · rename_i c; cases h; have z := (T.tab c).2; exact T.at (by lia) z.p1 z.pr
   · cases h
 · split at h
   · rename_i c; cases h; have z := (T.kil c).2.1; exact T.at (by lia) z.p1 z.pr
   · cases h
 · split at h
   · rename_i c; cases h; have z := (T.kil c).2.2.1; exact T.at (by lia) z.p1 z.pr
   · cases h
 · split at h
   · rename_i c; cases h; have z := (T.his c).2; exact T.at (by lia) z.p1 z.pr
   · cases h
theorem ei0 (C : e.Cf) (h1 : slots = List.replicate (e.clus * e.wys).toNat 0) (h2 : fst = List.replicate e.kplies.toNat 0) : EI e w ⟨[0], 0, 0, [l0], slots, fst, fst, []⟩ := by
 subst h1; subst h2
 refine ⟨⟨fun _ => by simp, fun _ => by simp, fun _ => ⟨fun x h => (nomatch h), List.nodup_nil⟩⟩, by simp, fun _ => ?_, fun _ s hs => ?_⟩
 · have := Int.mul_nonneg (show 0 ≤ e.clus by have := C.c1; lia) (show 0 ≤ e.wys by have := C.w1; lia)
   simp only [List.length_replicate]; lia
 · have := (List.mem_replicate.mp hs).2
   exact ⟨by lia, fun z => absurd this z⟩
end
noncomputable def EA.aged (e : EA) (n : Int) : EA := { e with age := n }
section
variable {W : Wld} {r : Nat} {σ σ' : AH} {Q : V → AH → Prop} {rl nb b : Addr} {ns : List Int} {n m : Int} {e : EA} {w : Wd} {v : Sv} {F : List (Str × V)} {g : WA} {D : Addr → Prop}
theorem EA.aged_mu {n : Int} : ∀ k, (e.aged n).mu k = e.mu k := fun k => by cases k <;> rfl
theorem EA.aged_D {n : Int} : (e.aged n).D = e.D := by funext a; unfold EA.D; simp only [EA.aged_mu]
structure But (σ σ' : AH) (b : Addr) (F : List (Str × V)) : Prop where
 k : ∀ a o, a ≠ b → σ a = some o → σ' a = some o
 b : σ b = some (.dict F)
theorem But.at {a : Addr} {o : AO} (K : But σ σ' b F) (x : At D σ a o) (h : o ≠ .dict F) : At D σ' a o := ⟨K.k a o (fun z => h (by have := x.1; rw [z, K.b] at this; exact (Option.some.inj this).symm)) x.1, x.2⟩
theorem But.lst {a : Addr} {k : Nat} {f : Nat → V} (K : But σ σ' b F) (x : Lst D σ a k f) : Lst D σ' a k f := let ⟨l, p, q⟩ := x; ⟨l, K.at p (fun z => by cases z), q⟩
theorem Base.but (B : Base σ e w) (K : But σ σ' b F) (n1 : gameF e ≠ F) (n2 : kilF e ≠ F) (n3 : hisF e ≠ F) (ht : e.hasT = true → At e.D σ' e.td (.dict (tabF (e.aged n)))) : Base σ' (e.aged n) w := by
 have d : ∀ {G : List (Str × V)}, G ≠ F → AO.dict G ≠ .dict F := fun h z => h (AO.dict.inj z)
 have hi : ∀ {C : Str} {a : Addr}, AO.inst C a ≠ .dict F := fun z => by cases z
 have hl : ∀ {l : List V}, AO.list l ≠ .dict F := fun z => by cases z
 have inj := B.inj
 constructor <;> (try rw [EA.aged_D])
 · exact K.at B.game hi
 · exact K.at B.gd (d n1)
 · exact K.lst B.ch
 · exact fun i h => K.at (B.chR i h) hl
 · exact K.lst B.va
 · exact K.lst B.ck
 · exact K.lst B.dr
 · exact K.lst B.no
 · exact fun i h => K.at (B.noR i h) hl
 · exact K.lst B.ga
 · exact fun i h => K.at (B.gaR i h) hl
 · exact K.at B.ctx hi
 · exact fun h => ⟨K.at (B.tab h).1 hi, ht h⟩
 · exact fun h => ⟨K.at (B.kil h).1 hi, K.at (B.kil h).2 (d n2)⟩
 · exact fun h => ⟨K.at (B.his h).1 hi, K.at (B.his h).2 (d n3)⟩
 · exact fun k k' a h h' => inj k k' a (by rw [← EA.aged_mu]; exact h) (by rw [← EA.aged_mu]; exact h')
theorem St.but (S : St σ e v) (K : But σ σ' b F) (h : ctxF e v.nodes v.made ≠ F) : St σ' (e.aged n) v := by
 intro k a hk
 rw [EA.aged_mu] at hk
 have z := S k a hk
 have e1 : (e.aged n).cont v k = e.cont v k := by cases k <;> rfl
 rw [e1]
 refine K.k a _ (fun y => ?_) z
 rw [y, K.b] at z
 cases k <;> first | (cases z; done) | exact h (AO.dict.inj (Option.some.inj z)).symm
theorem EI.aged (I : EI e w v) : EI (e.aged n) w v := ⟨⟨I.kok.f, I.kok.s, I.kok.h⟩, I.ln, I.sn, I.sl⟩
theorem x_new_search (H : IsK W) (hr : 1 ≤ r) (C : e.Cf) (B : Base σ e w) (S : St σ e v) (hT : e.hasT = true)
   (h : ∀ σ' n, 0 ≤ n → n < 64 → But σ σ' e.td (tabF e) → Base σ' (e.aged n) w → St σ' (e.aged n) v → Q .none σ') : CallSat W r (.me "TransTable" "new_search") [.ref e.tab] σ Q := by
 obtain ⟨b1, b2⟩ := B.tab hT
 have a1 := C.a1
 have a2 := C.a2
 refine call_up hr fun r hr => call_def (fb_TransTable_new_search H) rfl ?_
 unfold b_TransTable_new_search
 exists ft_clusters b1.1 b2.1, ft_ways b1.1 b2.1, ft_age b1.1 b2.1, ft_slots b1.1 b2.1, rsa b1.1 b2.1 ao_TransTable_age, os (b1.1), os (b2.1), tabF
 rw [fmod_pos _ _ (by lia)]
 have m0 := Int.emod_nonneg (e.age + 1) (show (64 : Int) ≠ 0 by lia)
 have m1 := Int.emod_lt_of_pos (e.age + 1) (show (0 : Int) < 64 by lia)
 have K : But σ (σ.set e.td (.dict (tabF (e.aged ((e.age + 1) % 64))))) e.td (tabF e) := ⟨fun a o n z => by rw [set_ne n]; exact z, b2.1⟩
 have n0 : ∀ {F G : List (Str × V)}, F.length ≠ G.length → F ≠ G := fun h z => h (by rw [z])
 refine ⟨by decide, by decide, h _ _ m0 m1 K (B.but K (n0 (by simp [gameF, tabF])) (n0 (by simp [kilF, tabF])) (n0 (by simp [hisF, tabF])) fun _ => ⟨set_at, b2.2⟩) (S.but K (n0 (by simp [ctxF, tabF])))⟩
theorem KeepR.but {at' sd : Int} (K : KeepR rl σ σ') (h : σ rl = some (.dict (reelF nb at' sd))) : But σ σ' rl (reelF nb at' sd) := ⟨fun a o n z => K a o n z, h⟩
theorem Base.reel (B : Base σ e w) (R : Reel σ rl nb ns m) (K : KeepR rl σ σ') : Base σ' e w := by
 revert R; refine xE2 fun at' sd c => ?_
 have X := KeepR.but K c.rl
 have n0 : ∀ {F G : List (Str × V)}, F.length ≠ G.length → F ≠ G := fun h z => h (by rw [z])
 exact B.but (n := e.age) X (n0 (by simp [gameF, reelF])) (fun z => by simp [kilF, reelF, str_eq] at z) (n0 (by simp [hisF, reelF])) fun h => X.at (B.tab h).2 (fun z => n0 (by simp [tabF, reelF]) (AO.dict.inj z))
theorem St.reel (S : St σ e v) (R : Reel σ rl nb ns m) (K : KeepR rl σ σ') : St σ' e v := by
 revert R; refine xE2 fun at' sd c => ?_
 have n0 : ∀ {F G : List (Str × V)}, F.length ≠ G.length → F ≠ G := fun h z => h (by rw [z])
 exact S.but (n := e.age) (KeepR.but K c.rl) (n0 (by simp [ctxF, reelF]))
end
noncomputable def lawF : PSs := b_law.tl.tl.tl.tl.tl.tl.tl.tl.tl
noncomputable def lawT : PSs := lawF.hd.fb
noncomputable def lawT2 : PSs := lawT.tl.tl.tl.tl.tl.tl
theorem lawF_eq : lawF = .cons (.for_ "turn" (.bi .range (.cons (.int 2) .nil)) lawT) (.cons (.ret (.bool true)) .nil) := rfl
theorem lawT_eq : lawT = (.cons (.asgn "depth" (.bin .Sub (.int 5) (.call "_law_pull" (.cons (.loc "reel") (.cons (.int 6) .nil)))))
   (.cons (.asgnT ["low", "high"] (.call "_law_window" (.cons (.loc "reel") (.cons (.sub (.sub (.loc "deep") (.loc "depth")) (.int 0)) .nil))))
   (.cons (.asgn "is_main" (.cmp .NotEq (.call "_law_pull" (.cons (.loc "reel") (.cons (.int 3) .nil))) (.int 2)))
   (.cons (.asgn "told" (.call "search" (.cons (.loc "ctx") (.cons (.loc "low") (.cons (.loc "high") (.cons (.loc "depth") (.cons (.int 0) (.cons (.loc "is_main") .nil))))))))
   (.cons (.ite (.bop .Or (.cons (.not (.call "_law_is_told_well" (.cons (.loc "told") (.cons (.sub (.sub (.loc "deep") (.loc "depth")) (.int 0)) (.cons (.loc "low") (.cons (.loc "high") .nil)))))) (.cons (.cmp .NotEq (.attr (.loc "game") "path") (.lst (.cons (.int 0) .nil))) (.cons (.cmp .NotEq (.attr (.loc "ctx") "made") (.int 0)) .nil)))) (.cons (.ret (.bool false))
   .nil) .nil)
   (.cons (.ite (.bop .And (.cons (.loc "is_main") (.cons (.cmp2 .Lt .Lt (.loc "low") (.loc "told") (.loc "high")) (.cons (.not (.call "_law_leads" (.cons (.loc "world") (.cons (.loc "deep") (.cons (.sub (.attr (.loc "ctx") "lines") (.int 0)) (.cons (.loc "depth") (.cons (.loc "told") .nil))))))) .nil)))) (.cons (.ret (.bool false))
   .nil) .nil) lawT2)))))) := rfl
theorem lawT2_eq : lawT2 = (.cons (.ite (.bop .And (.cons (.cmp .IsNot (.loc "table") .none) (.cons (.not (.call "_law_rows_are_true" (.cons (.loc "world") (.cons (.loc "deep") (.cons (.loc "table") .nil))))) .nil))) (.cons (.ret (.bool false))
   .nil) .nil)
   (.cons (.ite (.bop .And (.cons (.cmp .IsNot (.loc "table") .none) (.cons (.cmp .Eq (.call "_law_pull" (.cons (.loc "reel") (.cons (.int 2) .nil))) (.int 1)) .nil))) (.cons (.expr (.meth (.loc "table") "new_search" .nil))
   .nil) .nil)
   .nil)) := rfl
structure LM (rl deep gx cx tb : Addr) (g : WA) (hT : Bool) (m : Loc) : Prop where
 reel : m "reel" = some (.ref rl)
 world : m "world" = some (.ref g.wd)
 deep : m "deep" = some (.ref deep)
 game : m "game" = some (.ref gx)
 ctx : m "ctx" = some (.ref cx)
 table : m "table" = some (if hT = true then .ref tb else .none)
structure LI (rl nb : Addr) (ns : List Int) (deep gx cx tb : Addr) (g : WA) (hT : Bool) (w : Wd) (P : Nat) (D : Addr → Prop) (n : Int) (σ : AH) (e : EA) (v : Sv) : Prop where
 b : Base σ e w
 s : St σ e v
 i : EI e w v
 c : e.Cf
 p : v.p = [0]
 md : v.made = 0
 eg : e.game = gx
 ec : e.ctx = cx
 et : e.hasT = hT
 tb : e.hasT = true → e.tab = tb
 qd : e.qd.toNat = P
 eD : e.D = D
 rD : ¬ D rl
 nD : ¬ D nb
 G : WorldAt (fun a => a = rl ∨ D a) σ g w
 M : MRows (fun a => a = rl ∨ D a) σ deep 6 w.n (dv w P)
 R : Reel σ rl nb ns n
section
variable {W : Wld} {r : Nat} {σ σ' : AH} {Q : V → AH → Prop} {rl nb deep gx cx tb : Addr} {ns : List Int} {g : WA} {hT : Bool} {w : Wd} {P : Nat} {D : Addr → Prop} {n m : Int} {e : EA} {v : Sv}
theorem r_lst0 {a : Addr} {k : Nat} {f : Nat → V} {Q : V → AH → Prop} (h : Lst D σ a k f) (hi : 0 < k) (hn : k ≤ 900) : wpSub (.ref a) (.int 0) σ Q = Q (f 0) σ := r_lst (i := 0) h hi hn
theorem LI.reel (I : LI rl nb ns deep gx cx tb g hT w P D n σ e v) (K : KeepR rl σ σ') (R : Reel σ' rl nb ns m) : LI rl nb ns deep gx cx tb g hT w P D m σ' e v :=
 have k : Keep (fun a => a = rl ∨ D a) σ σ' := fun a o d z => K a o (fun y => d (.inl y)) z
 ⟨I.b.reel I.R K, I.s.reel I.R K, I.i, I.c, I.p, I.md, I.eg, I.ec, I.et, I.tb, I.qd, I.eD, I.rD, I.nD, I.G.keep k, I.M.keep k, R⟩
theorem LI.eng (I : LI rl nb ns deep gx cx tb g hT w P D n σ e v) {v' : Sv} (K : Keep e.D σ σ') (S : St σ' e v') (E : EI e w v') (hp : v'.p = v.p) (hm : v'.made = v.made) : LI rl nb ns deep gx cx tb g hT w P D n σ' e v' :=
 have k : Keep (fun a => a = rl ∨ D a) σ σ' := fun a o d z => K a o (fun y => d (.inr (I.eD ▸ y))) z
 have R : Reel σ' rl nb ns n := let ⟨a, s, c⟩ := I.R; ⟨a, s, K _ _ (by rw [I.eD]; exact I.rD) c.rl, c.a0, c.a1, c.s0, c.s1, K _ _ (by rw [I.eD]; exact I.nD) c.nb, c.nz⟩
 ⟨I.b.keep K, S, E, I.c, hp.trans I.p, hm.trans I.md, I.eg, I.ec, I.et, I.tb, I.qd, I.eD, I.rD, I.nD, I.G.keep k, I.M.keep k, R⟩
theorem w_turn2 (H : IsK W) (hr : 5 ≤ r) (hw : w.Ok) (hn : n ≤ 800000) (I : LI rl nb ns deep gx cx tb g hT w P D n σ e v) {m₀ : Loc} (L : LM rl deep gx cx tb g hT m₀) {K : SQ}
   (k : ∀ σ' e' v', LI rl nb ns deep gx cx tb g hT w P D (n + 1) σ' e' v' → K .next m₀ σ') : wpSs (CallSat W r) lawT2 m₀ σ K := by
 rw [lawT2_eq]
 have nx := k σ e v (I.reel .refl (I.R.up (by lia)))
 cases hT with
 | false =>
   have t := L.table
   exists os (t)
   exact nx
 | true =>
   have t := L.table
   have eT := I.et
   have et := I.tb eT
   obtain ⟨b1, b2⟩ := I.b.tab eT
   exists os (t), os (L.world), os (L.deep)
   subst et
   refine k_rows_true H (by first | exact rk hr rfl | lia) hw I.c I.b I.s I.i eT I.G (by rw [I.qd]; exact I.M) ?_
   exists os (t), os (L.reel)
   refine k_pull H (by first | exact rk hr rfl | lia) I.R (by lia) (by lia) (by lia) fun σ₁ i i0 i1 R₁ K₁ => ?_
   have I₁ := I.reel K₁ R₁
   obtain ⟨b1, b2⟩ := I₁.b.tab eT
   exists os (t), os (a_inst b1.1 b2.1 mo_TransTable_new_search (gi_tnew e))
   refine ⟨fun _ => ?_, fun _ => k σ₁ e v I₁⟩
   refine x_new_search H (by first | exact rk hr rfl | lia) I₁.c I₁.b I₁.s eT fun σ₂ a a0 a1 X B₂ S₂ => ?_
   exists true_and
   have hl : ∀ {l : List V}, AO.list l ≠ .dict (tabF e) := fun z => by cases z
   refine k σ₂ (e.aged a) v ⟨B₂, S₂, I₁.i.aged, ⟨I₁.c.c1, I₁.c.c2, I₁.c.w1, I₁.c.w2, a0, a1, I₁.c.k1, I₁.c.k2, I₁.c.l1, I₁.c.l2, I₁.c.q1, I₁.c.q2⟩, I₁.p, I₁.md, I₁.eg, I₁.ec, I₁.et, I₁.tb, I₁.qd, EA.aged_D.trans I₁.eD, I₁.rD, I₁.nD, ?_, ?_, ?_⟩
   · have G := I₁.G
     refine ⟨X.at G.wd fun z => ?_, X.lst G.ch, fun i h => X.at (G.chR i h) hl, X.lst G.va, X.lst G.ck, X.lst G.dr, X.lst G.no, fun i h => X.at (G.noR i h) hl, X.lst G.ga, fun i h => X.at (G.gaR i h) hl⟩
     have := congrArg List.length (AO.dict.inj z)
     simp [worldF, tabF] at this
   · obtain ⟨rf, h1, h2⟩ := I₁.M
     exact ⟨rf, X.lst h1, fun j hj => X.lst (h2 j hj)⟩
   · obtain ⟨a, s, c⟩ := I₁.R
     refine ⟨a, s, X.k _ _ (fun z => ?_) c.rl, c.a0, c.a1, c.s0, c.s1, X.k _ _ (fun z => ?_) c.nb, c.nz⟩
     · have := c.rl
       rw [z, X.b] at this
       have := congrArg List.length (AO.dict.inj (Option.some.inj this))
       simp [reelF, tabF] at this
     · have := c.nb
       rw [z, X.b] at this; cases this
theorem w_turn (H : IsK W) (hr : 40 ≤ r) (hw : w.Ok) (hn : n ≤ 700000) (I : LI rl nb ns deep gx cx tb g hT w P D n σ e v) {m₀ : Loc} (L : LM rl deep gx cx tb g hT m₀) {K : SQ}
   (k : ∀ m' σ' e' v', LM rl deep gx cx tb g hT m' → LI rl nb ns deep gx cx tb g hT w P D (n + 10) σ' e' v' → K .next m' σ') : wpSs (CallSat W r) lawT m₀ σ K := by
 have hw0 : 0 < w.n := by have := hw.lo; lia
 have hP : P ≤ 2 := by have := I.qd; have := I.c.q2; lia
 exists lawT_eq, os (L.reel)
 refine k_pull H (by first | exact rk hr rfl | lia) I.R (by lia) (by lia) (by lia) fun σ₁ i i0 i1 R₁ K₁ => ?_
 have I₁ := I.reel K₁ R₁
 obtain ⟨d, hd⟩ : ∃ d : Nat, 5 - i = d := ⟨(5 - i).toNat, by lia⟩
 have hd5 : d ≤ 5 := by lia
 have hmg := dv_mg hw hP d 0 hw0 (by lia)
 have hn7 := hw.hi
 have rdm : ∀ {τ : AH}, MRows (fun a => a = rl ∨ D a) τ deep 6 w.n (dv w P) → ∃ (ls : List V) (rf : Nat → Addr), τ deep = some (.list ls) ∧ ls[d]? = some (.ref (rf d)) ∧ ls.length = 6 ∧ Lst (fun a => a = rl ∨ D a) τ (rf d) w.n (fun p => .int (dv w P d p)) :=
   fun ⟨rf, ⟨ls, a, b, c⟩, h⟩ => ⟨ls, rf, a.1, c d (by lia), b, h d (by lia)⟩
 refine (xE2 fun ls rf => aE4 fun q1 q2 q3 q4 => ?_) (rdm I₁.M)
 exists os (L.reel)
 rw [hd]
 exists os (L.reel), os (L.deep), r_sub q1 (show 0 ≤ (d : Int) by lia) q2 (by lia), r_lst0 q4 hw0 (by lia)
 generalize hv : dv w P d 0 = val0 at *
 have hmg' : -32000 ≤ val0 ∧ val0 ≤ 32000 := hmg.bd (by lia)
 refine k_window H (by first | exact rk hr rfl | lia) I₁.R (by lia) (by lia) (by lia) fun σ₂ lo hi hlh R₂ K₂ => ?_
 have I₂ := I₁.reel K₂ R₂
 exists os (L.reel)
 refine k_pull H (by first | exact rk hr rfl | lia) I₂.R (by lia) (by lia) (by lia) fun σ₃ i' _ _ R₃ K₃ => ?_
 have I₃ := I₂.reel K₃ R₃
 exists os (L.ctx)
 generalize decide (i' ≠ 2) = pv
 rw [← I.ec]
 have hsea := x_search H hw I₃.c d hd5 r σ₃ v [] 0 lo hi pv
 refine hsea _ (by lia) I₃.b I₃.s I₃.i ⟨I₃.p, Nat.zero_le _, hw0, fun _ => rfl⟩ hlh (Nat.zero_le _) fun σ₄ v₄ val l A Ln Po => ?_
 have I₄ := I₃.eng A.keep A.st A.ei A.p A.made
 have K34 := A.keep
 refine (xE2 fun ls' rf' => aE4 fun q1' q2' q3' q4' => ?_) (rdm I₄.M)
 obtain ⟨u, eu, hM, t1, t2, t3⟩ := Po.t
 rw [I₃.qd, hv] at t1 t2 t3
 have eu' : val = u := by rw [eu]; exact sv0
 subst eu'
 have hpath := I₄.s.path
 have hctx := I₄.s.ctxd
 have hp4 : v₄.p = [0] := I₄.p
 have md4 : v₄.made = 0 := I₄.md
 rw [hp4] at hpath
 rw [md4] at hctx
 have eC := I₄.ec
 have eG := I₄.eg
 have LG : m₀ "game" = some (.ref e.game) := by rw [eG]; exact L.game
 have LC : m₀ "ctx" = some (.ref e.ctx) := by rw [eC]; exact L.ctx
 exists os (L.reel), os (L.deep), r_sub q1' (show 0 ≤ (d : Int) by lia) q2' (by lia), r_lst0 q4' hw0 (by lia)
 rw [hv]
 refine k_told_well H (by first | exact rk hr rfl | lia) ?_
 have ht : decide (if val ≤ lo then val0 ≤ val else if hi ≤ val then val ≤ val0 else val = val0) = true := by
   rw [decide_eq_true_eq]
   split
   · exact t1 (by assumption)
   · split
     · exact t2 (by assumption)
     · exact t3 (by lia) (by lia)
 rw [ht]
 exists os (LG), fg_children I₄.b.game.1 I₄.b.gd.1, fg_values I₄.b.game.1 I₄.b.gd.1, fg_checks I₄.b.game.1 I₄.b.gd.1, fg_draws I₄.b.game.1 I₄.b.gd.1, fg_noisy_rows I₄.b.game.1 I₄.b.gd.1, fg_gain_rows I₄.b.game.1 I₄.b.gd.1, fg_path I₄.b.game.1 I₄.b.gd.1, os (I₄.b.game.1), os (I₄.b.gd.1), gameF
 refine ⟨by unfold sizeOk; decide, fun c hc => ?_⟩
 rw [a_neL (set_old hpath hc) set_at (natsV_ints _) (show asInts [V.int 0] = some [0] from rfl)]
 have ex : Ext σ₄ (σ₄.set c (.list [V.int 0])) := fun a o z => set_old z hc
 have I₅ : LI rl nb ns deep gx cx tb g hT w P D (n + 1 + 5 + 1) (σ₄.set c (.list [V.int 0])) e v₄ := I₄.eng (.new hc) (I₄.s.new hc) I₄.i rfl rfl
 have hctx5 := ex _ _ hctx
 have hln := ex _ _ I₄.s.lines
 revert Ln; refine xE1 fun la => aE2 fun la1 la2 => ?_
 have hla := ex _ _ la2.1
 generalize (σ₄.set c (.list [V.int 0])) = σ₅ at *
 have L5 : LM rl deep gx cx tb g hT (((((m₀.set "depth" (.int d)).set "low" (.int lo)).set "high" (.int hi)).set "is_main" (.bool pv)).set "told" (.int val)) := by
   constructor <;> exists L.reel, L.world, L.deep, L.game, L.ctx, L.table
 have fin := w_turn2 (r := r) H (by first | exact rk hr rfl | lia) hw (by lia) I₅ L5 (K := K) fun σ' e' v' I' => k _ σ' e' v' L5 (I'.reel .refl (I'.R.up (by lia)))
 exists true_and
 refine ⟨fun z => absurd z (by decide), fun _ => ?_⟩
 have hl0 : (v₄.lns.map V.ref)[(0 : Int).toNat]? = some (.ref la) := by rw [List.getElem?_map]; exact congrArg (Option.map V.ref) la1
 have hlz := I₄.i.ln
 exists os (LC), fc_game I₅.b.ctx.1 hctx5, fc_table I₅.b.ctx.1 hctx5, fc_killers I₅.b.ctx.1 hctx5, fc_history I₅.b.ctx.1 hctx5, fc_qdepth I₅.b.ctx.1 hctx5, fc_is_exact I₅.b.ctx.1 hctx5, fc_max_nodes I₅.b.ctx.1 hctx5, fc_nodes I₅.b.ctx.1 hctx5, fc_made I₅.b.ctx.1 hctx5, fc_lines I₅.b.ctx.1 hctx5, rsa I₅.b.ctx.1 hctx5 ao_SearchContext_nodes, rsa I₅.b.ctx.1 hctx5 ao_SearchContext_made, os (I₅.b.ctx.1), os (hctx5), ctxF, os (L.world), os (L.deep), r_sub hln (show (0 : Int) ≤ 0 by lia) hl0 (by rw [List.length_map]; lia)
 refine ⟨fun z => absurd trivial z, fun _ => ⟨fun hp => ⟨fun h1 => ⟨fun h2 => ?_, fun _ => fin⟩, fun _ => fin⟩, fun _ => fin⟩⟩
 refine (xE1 fun u' => aE3 fun e1 _ Ld => ?_) (Po.leads hp h1 h2)
 have e2 : val = u' := by rw [e1]; exact sv0
 rw [← e2, I₃.qd] at Ld
 refine k_leads H (by first | exact rk hr rfl | lia) hw I₅.G hd5 I₅.M hla Po.len Ld ?_
 exists true_and
 exact fin
end
section
variable {W : Wld} {r : Nat} {σ σ' : AH} {Q : V → AH → Prop} {rl nb deep gx cx tb : Addr} {ns : List Int} {g : WA} {hT : Bool} {w : Wd} {P : Nat} {D : Addr → Prop} {n m : Int} {e : EA} {v : Sv}
theorem w_lawF (H : IsK W) (hr : 40 ≤ r) (hw : w.Ok) (hn : n ≤ 600000) (I : LI rl nb ns deep gx cx tb g hT w P D n σ e v) {m₀ : Loc} (L : LM rl deep gx cx tb g hT m₀) (h : ∀ σ', Q (.bool true) σ') : wpSs (CallSat W r) lawF m₀ σ (bodyQ Q) := by
 exists lawF_eq
 refine ⟨smallOf (by lia) (by lia), ?_⟩
 refine iter_inv (fun rest m' σ' => LM rl deep gx cx tb g hT m' ∧ rest.length ≤ 2 ∧ ∃ e v, LI rl nb ns deep gx cx tb g hT w P D (n + 10 * (2 - rest.length)) σ' e v) ?_ ?_ ?_ ?_
 · intro rest m' σ' _; exact ⟨smallOf (by lia) (by lia), smallOf (by lia) (by lia), .inl rfl⟩
 · intro m' σ' _
   exists true_and
   exact h σ'
 · rintro v' rest m' σ' oy0; revert oy0; refine aE3 fun L' hl => xE2 fun e' v'' I' => ?_; rintro K k1 k2 k3 k4
   simp only [List.length_cons] at hl I'
   refine w_turn H hr hw (by lia) I' (m₀ := m'.set "turn" v') ?_ fun m₂ σ₂ e₂ v₂ L₂ I₂ => k1 _ _ ⟨L₂, by lia, e₂, v₂, I₂.reel .refl (I₂.R.up (by lia))⟩
   constructor <;> exists L'.reel, L'.world, L'.deep, L'.game, L'.ctx, L'.table
 · exact ⟨L, by decide, e, v, I.reel .refl (I.R.up (by show n ≤ n + 10 * (2 - ((2 : Nat) : Int)); lia))⟩
noncomputable def lawE : PSs := b_law.tl.tl.tl.tl.tl.tl.tl.tl
theorem lawE_eq : lawE = .cons (.asgn "ctx" (.call "SearchContext" (.cons (.loc "game") (.cons (.loc "table") (.cons (.loc "killers") (.cons (.ite (.loc "has_past") (.call "History" (.cons (.bin .Add (.int 1) (.call "_law_pull" (.cons (.loc "reel") (.cons (.int 90) .nil)))) .nil)) .none) (.cons (.loc "plies") (.cons (.bool true) (.cons (.int 0) .nil)))))))))
   lawF := rfl
structure Pre (rl nb deep : Addr) (ns : List Int) (g : WA) (w : Wd) (P : Nat) (s0 : AH) (e : EA) : Prop where
 R : ∃ n, Reel s0 rl nb ns n
 G : WorldAt (fun a => a = rl) s0 g w
 M : MRows (fun a => a = rl) s0 deep 6 w.n (dv w P)
 C : e.Cf
 qd : e.qd = P
 e1 : e.ch = g.ch
 e2 : e.va = g.va
 e3 : e.ck = g.ck
 e4 : e.dr = g.dr
 e5 : e.no = g.no
 e6 : e.ga = g.ga
 e7 : e.chR = g.chR
 e8 : e.noR = g.noR
 e9 : e.gaR = g.gaR
noncomputable def row6 (s0 s1 s2 s3 s4 s5 : AH) : Nat → AH
 | 0 => s0
 | 1 => s1
 | 2 => s2
 | 3 => s3
 | 4 => s4
 | _ => s5
theorem Parts.LI {s : Nat → AH} {slots fst : List Int} {l0 : Addr} (T : Parts rl s e slots fst l0) (X : Pre rl nb deep ns g w P (s 0) e) (h1 : slots = List.replicate (e.clus * e.wys).toNat 0) (h2 : fst = List.replicate e.kplies.toNat 0) (R : Reel (s 5) rl nb ns n) :
   LI rl nb ns deep e.game e.ctx e.tab g e.hasT w P e.D n (s 5) e ⟨[0], 0, 0, [l0], slots, fst, fst, []⟩ := by
 obtain ⟨n0, at', sd, c⟩ := X.R
 have at1 : ∀ {a : Addr} {o : AO}, At (fun a => a = rl) (s 0) a o → At (fun a => a = rl ∨ e.D a) (s 5) a o := fun h => ⟨T.at (by lia) h.1 h.2, fun z => z.elim h.2 (T.old h.1)⟩
 have lst1 : ∀ {a : Addr} {k : Nat} {f : Nat → V}, Lst (fun a => a = rl) (s 0) a k f → Lst (fun a => a = rl ∨ e.D a) (s 5) a k f := fun h => let ⟨l, p, q⟩ := h; ⟨l, at1 p, q⟩
 have G := X.G
 obtain ⟨rf, m1, m2⟩ := X.M
 exact ⟨T.base G X.e1 X.e2 X.e3 X.e4 X.e5 X.e6 X.e7 X.e8 X.e9, T.st, ei0 X.C h1 h2, X.C, rfl, rfl, rfl, rfl, rfl, fun _ => rfl, by rw [X.qd]; rfl, rfl, T.old c.rl, T.old c.nb,
   ⟨at1 G.wd, lst1 G.ch, fun i h => at1 (G.chR i h), lst1 G.va, lst1 G.ck, lst1 G.dr, lst1 G.no, fun i h => at1 (G.noR i h), lst1 G.ga, fun i h => at1 (G.gaR i h)⟩, ⟨rf, lst1 m1, fun j hj => lst1 (m2 j hj)⟩, R⟩
theorem Stg.keep {x d : Addr} {C : Str} {F : List (Str × V)} {σ₀ : AH} (h : Stg rl σ₀ σ x d C F) (K : KeepR rl σ σ') : Stg rl σ₀ σ' x d C F := ⟨h.x0, h.d0, h.xr, h.dr, K _ _ h.xr h.x1, K _ _ h.dr h.d1⟩
theorem Prt.keep {x d p : Addr} {o : AO} {σ₀ : AH} (h : Prt rl σ₀ σ x d p o) (K : KeepR rl σ σ') : Prt rl σ₀ σ' x d p o := ⟨h.p0, h.pr, h.xp, h.dp, K _ _ h.pr h.p1⟩
theorem Ext.keepR (h : Ext σ σ') : KeepR rl σ σ' := fun a o _ z => h a o z
theorem Reel.ext (R : Reel σ rl nb ns n) (h : Ext σ σ') : Reel σ' rl nb ns n := let ⟨a, s, c⟩ := R; ⟨a, s, h _ _ c.rl, c.a0, c.a1, c.s0, c.s1, h _ _ c.nb, c.nz⟩
theorem w_lawE (H : IsK W) (hr : 45 ≤ r) (hw : w.Ok) {s0 s1 s2 : AH} (X : Pre rl nb deep ns g w P s0 e) (k01 : KeepR rl s0 s1) (k12 : KeepR rl s1 s2) (k23 : KeepR rl s2 σ) {slots fst : List Int} (h1 : slots = List.replicate (e.clus * e.wys).toNat 0) (h2 : fst = List.replicate e.kplies.toNat 0)
   (game : Stg rl s0 s1 e.game e.gd "TreeGame" (gameF e)) (path : Prt rl s0 s1 e.game e.gd e.path (.list [.int 0]))
   (tab : e.hasT = true → Stg rl s1 s2 e.tab e.td "TransTable" (tabF e) ∧ Prt rl s1 s2 e.tab e.td e.slots (.list (slots.map .int)))
   (kil : e.hasK = true → Stg rl s2 σ e.kil e.kd "Killers" (kilF e) ∧ Prt rl s2 σ e.kil e.kd e.first (.list (fst.map .int)) ∧ Prt rl s2 σ e.kil e.kd e.second (.list (fst.map .int)) ∧ e.first ≠ e.second)
   (R : Reel σ rl nb ns n) (hn : n ≤ 500000) {m₀ : Loc} (y1 : m₀ "reel" = some (.ref rl)) (y2 : m₀ "world" = some (.ref g.wd)) (y3 : m₀ "deep" = some (.ref deep)) (y4 : m₀ "plies" = some (.int e.qd)) (y5 : m₀ "game" = some (.ref e.game))
   (y6 : m₀ "table" = some (if e.hasT = true then .ref e.tab else .none)) (y7 : m₀ "has_past" = some (.bool e.hasK)) (y8 : m₀ "killers" = some (if e.hasK = true then .ref e.kil else .none)) (h : ∀ σ', Q (.bool true) σ') :
   wpSs (CallSat W r) lawE m₀ σ (bodyQ Q) := by
 have last : ∀ (xh dh sc : Addr) (li : Int) s3 s4, EA.Cf { e with his := xh, hd := dh, scores := sc, lim := li } → KeepR rl s2 s3 → KeepR rl s3 s4 → Reel s4 rl nb ns (n + 1) →
     (e.hasK = true → Stg rl s2 s3 e.kil e.kd "Killers" (kilF e) ∧ Prt rl s2 s3 e.kil e.kd e.first (.list (fst.map .int)) ∧ Prt rl s2 s3 e.kil e.kd e.second (.list (fst.map .int)) ∧ e.first ≠ e.second) →
     (e.hasK = true → Stg rl s3 s4 xh dh "History" [("limit", .int li), ("scores", .ref sc)] ∧ Prt rl s3 s4 xh dh sc (.idict [])) →
     CallSat W r (.fn "SearchContext") [.ref e.game, if e.hasT = true then .ref e.tab else .none, if e.hasK = true then .ref e.kil else .none, if e.hasK = true then .ref xh else .none, .int e.qd, .bool true, .int 0] s4 (fun v σ => wpSs (CallSat W r) lawF (m₀.set "ctx" v) σ (bodyQ Q)) := by
   intro xh dh sc li s3 s4 C' K₁ K₂ R₄ kil' his'
   refine mk_ctx H (by first | exact rk hr rfl | lia) fun τ x d p l0 M p0 xp dp hp l1 l2 l3 l4 => ?_
   have K₃ : KeepR rl s4 τ := M.ext.keepR
   have X₂ : Pre rl nb deep ns g w P s0 { e with his := xh, hd := dh, scores := sc, lim := li, ctx := x, ctxd := d, lines := p } := ⟨X.R, X.G, X.M, ⟨C'.c1, C'.c2, C'.w1, C'.w2, C'.a1, C'.a2, C'.k1, C'.k2, C'.l1, C'.l2, C'.q1, C'.q2⟩, X.qd, X.e1, X.e2, X.e3, X.e4, X.e5, X.e6, X.e7, X.e8, X.e9⟩
   have T : Parts rl (row6 s0 s1 s2 s3 s4 τ) { e with his := xh, hd := dh, scores := sc, lim := li, ctx := x, ctxd := d, lines := p } slots fst l0 :=
     { hs := fun i => match i with
         | 0 => k01
         | 1 => k12
         | 2 => K₁
         | 3 => K₂
         | 4 => K₃
         | _ + 5 => .refl
       game := game, path := path, tab := tab, kil := kil', his := his', ctx := M.stg R₄ .refl, cne := M.ne, lines := M.prt R₄ .refl p0 xp dp hp }
   refine w_lawF H (by first | exact rk hr rfl | lia) hw (n := n + 1) (by lia) (T.LI X₂ h1 h2 (R₄.ext M.ext)) ?_ h
   constructor <;> exists y1, y2, y3, y5, y6
 exists lawE_eq, os (y1), os (y4), os (y5), os (y6), os (y7), os (y8)
 refine ⟨fun hK => ?_, fun hK => ?_⟩
 · refine k_pull H (by first | exact rk hr rfl | lia) R (by lia) (by lia) (by lia) fun σ₁ i i0 i1 R₁ K₁ => ?_
   exists os (y1), os (y4), os (y5), os (y6), os (y7), os (y8)
   refine mk_his H (by first | exact rk hr rfl | lia) (by lia) fun τ x d p M p0 xp dp hp => ?_
   exists os (y1), os (y4), os (y5), os (y6), os (y7), os (y8)
   have C := X.C
   have z := last x d p (1 + i) σ₁ τ ⟨C.c1, C.c2, C.w1, C.w2, C.a1, C.a2, C.k1, C.k2, show 1 ≤ 1 + i by lia, show 1 + i ≤ 90 by lia, C.q1, C.q2⟩ (k23.trans K₁) M.ext.keepR (R₁.ext M.ext) (fun hK => let ⟨a, b, c, d⟩ := kil hK; ⟨a.keep K₁, b.keep K₁, c.keep K₁, d⟩) fun _ => ⟨M.stg R₁ .refl, M.prt R₁ .refl p0 xp dp hp⟩
   rw [if_pos hK, if_pos hK] at z
   rw [if_pos hK]
   exact z
 · have C := X.C
   have z := last 0 0 0 e.lim σ σ ⟨C.c1, C.c2, C.w1, C.w2, C.a1, C.a2, C.k1, C.k2, C.l1, C.l2, C.q1, C.q2⟩ k23 .refl (R.up (by lia)) kil fun z => by rw [hK] at z; cases z
   have hK' : ¬ e.hasK = true := by rw [hK]; decide
   rw [if_neg hK', if_neg hK'] at z
   rw [if_neg hK']
   exact z
end
noncomputable def lawD : PSs := b_law.tl.tl.tl.tl.tl.tl.tl
noncomputable def lawC : PSs := b_law.tl.tl.tl.tl.tl.tl
noncomputable def lawB : PSs := b_law.tl.tl.tl.tl.tl
theorem lawD_eq : lawD = .cons (.asgn "killers" (.ite (.loc "has_past") (.call "Killers" (.cons (.call "_law_pull" (.cons (.loc "reel") (.cons (.int 7) .nil))) .nil)) .none)) lawE := rfl
theorem lawC_eq : lawC = .cons (.asgn "has_past" (.cmp .NotEq (.call "_law_pull" (.cons (.loc "reel") (.cons (.int 3) .nil))) (.int 2))) lawD := rfl
theorem lawB_eq : lawB = .cons (.asgn "table" (.ite (.cmp .NotEq (.call "_law_pull" (.cons (.loc "reel") (.cons (.int 4) .nil))) (.int 3)) (.call "TransTable" (.cons (.bin .Add (.int 1) (.call "_law_pull" (.cons (.loc "reel") (.cons (.int 4) .nil)))) (.cons (.bin .Add (.int 1) (.call "_law_pull" (.cons (.loc "reel") (.cons (.int 2) .nil)))) .nil))) .none)) lawC := rfl
theorem law_eq : b_law = (.cons (.asgn "reel" (.dict (.cons "numbers" (.slc (.loc "script") 60) (.cons "at" (.int 0) (.cons "seed" (.int 91) .nil)))))
   (.cons (.asgn "world" (.call "_law_world" (.cons (.loc "reel") .nil)))
   (.cons (.asgn "plies" (.call "_law_pull" (.cons (.loc "reel") (.cons (.int 3) .nil))))
   (.cons (.asgn "deep" (.call "_law_deep_rows" (.cons (.loc "world") (.cons (.sub (.call "_law_quiet_rows" (.cons (.loc "world") (.cons (.loc "plies") .nil))) (.loc "plies")) (.cons (.int 5) .nil)))))
   (.cons (.asgn "game" (.call "TreeGame" (.cons (.sub (.loc "world") (.str "ways")) (.cons (.sub (.loc "world") (.str "values")) (.cons (.sub (.loc "world") (.str "checks")) (.cons (.sub (.loc "world") (.str "draws")) (.cons (.sub (.loc "world") (.str "noisy")) (.cons (.sub (.loc "world") (.str "gains")) .nil))))))))
   lawB))))) := rfl
section
variable {W : Wld} {r : Nat} {σ σ' : AH} {Q : V → AH → Prop} {rl nb deep gx cx tb : Addr} {ns : List Int} {g : WA} {hT : Bool} {w : Wd} {P : Nat} {D : Addr → Prop} {n m : Int} {e : EA} {v : Sv}
theorem w_lawD (H : IsK W) (hr : 45 ≤ r) (hw : w.Ok) {s0 s1 : AH} (X : Pre rl nb deep ns g w P s0 e) (k01 : KeepR rl s0 s1) (k12 : KeepR rl s1 σ) {slots : List Int} (h1 : slots = List.replicate (e.clus * e.wys).toNat 0)
   (game : Stg rl s0 s1 e.game e.gd "TreeGame" (gameF e)) (path : Prt rl s0 s1 e.game e.gd e.path (.list [.int 0]))
   (tab : e.hasT = true → Stg rl s1 σ e.tab e.td "TransTable" (tabF e) ∧ Prt rl s1 σ e.tab e.td e.slots (.list (slots.map .int)))
   (R : Reel σ rl nb ns n) (hn : n ≤ 400000) {m₀ : Loc} (y1 : m₀ "reel" = some (.ref rl)) (y2 : m₀ "world" = some (.ref g.wd)) (y3 : m₀ "deep" = some (.ref deep)) (y4 : m₀ "plies" = some (.int e.qd)) (y5 : m₀ "game" = some (.ref e.game))
   (y6 : m₀ "table" = some (if e.hasT = true then .ref e.tab else .none)) (y7 : m₀ "has_past" = some (.bool e.hasK)) (h : ∀ σ', Q (.bool true) σ') :
   wpSs (CallSat W r) lawD m₀ σ (bodyQ Q) := by
 have C := X.C
 exists lawD_eq, os (y1), os (y7)
 refine ⟨fun hK => ?_, fun hK => ?_⟩
 · refine k_pull H (by first | exact rk hr rfl | lia) R (by lia) (by lia) (by lia) fun σ₁ i i0 i1 R₁ K₁ => ?_
   exists os (y1), os (y7)
   refine mk_kil H (by first | exact rk hr rfl | lia) i0 (by lia) fun τ x d p q M p0 q0 xp dp xq dq pq hp hq => ?_
   exists true_and
   refine w_lawE (e := { e with kil := x, kd := d, first := p, second := q, kplies := i }) (s2 := σ₁) (n := n + 1) H hr hw ⟨X.R, X.G, X.M, ⟨C.c1, C.c2, C.w1, C.w2, C.a1, C.a2, i0, show i ≤ 6 by lia, C.l1, C.l2, C.q1, C.q2⟩, X.qd, X.e1, X.e2, X.e3, X.e4, X.e5, X.e6, X.e7, X.e8, X.e9⟩ k01 (k12.trans K₁) M.ext.keepR h1 rfl game path
     (fun z => ⟨(tab z).1.keep K₁, (tab z).2.keep K₁⟩) (fun _ => ⟨M.stg R₁ .refl, M.prt R₁ .refl p0 xp dp hp, M.prt R₁ .refl q0 xq dq hq, pq⟩) (R₁.ext M.ext) (by lia) ?_ ?_ ?_ ?_ ?_ ?_ ?_ ?_ h
   any_goals (exists y1, y2, y3, y4, y5, y6, y7; done)
   show _ = some (if e.hasK = true then V.ref x else V.none)
   rw [if_pos hK]
   exists true_and
 · refine w_lawE (e := e) (s2 := σ) (n := n) H hr hw X k01 k12 .refl h1 rfl game path tab (fun z => by rw [hK] at z; cases z) R (by lia) ?_ ?_ ?_ ?_ ?_ ?_ ?_ ?_ h
   any_goals (exists y1, y2, y3, y4, y5, y6, y7; done)
   rw [hK]
   exists true_and
theorem w_lawC (H : IsK W) (hr : 45 ≤ r) (hw : w.Ok) {s0 s1 : AH} (X : Pre rl nb deep ns g w P s0 e) (k01 : KeepR rl s0 s1) (k12 : KeepR rl s1 σ) {slots : List Int} (h1 : slots = List.replicate (e.clus * e.wys).toNat 0)
   (game : Stg rl s0 s1 e.game e.gd "TreeGame" (gameF e)) (path : Prt rl s0 s1 e.game e.gd e.path (.list [.int 0]))
   (tab : e.hasT = true → Stg rl s1 σ e.tab e.td "TransTable" (tabF e) ∧ Prt rl s1 σ e.tab e.td e.slots (.list (slots.map .int)))
   (R : Reel σ rl nb ns n) (hn : n ≤ 300000) {m₀ : Loc} (y1 : m₀ "reel" = some (.ref rl)) (y2 : m₀ "world" = some (.ref g.wd)) (y3 : m₀ "deep" = some (.ref deep)) (y4 : m₀ "plies" = some (.int e.qd)) (y5 : m₀ "game" = some (.ref e.game))
   (y6 : m₀ "table" = some (if e.hasT = true then .ref e.tab else .none)) (h : ∀ σ', Q (.bool true) σ') :
   wpSs (CallSat W r) lawC m₀ σ (bodyQ Q) := by
 have C := X.C
 exists lawC_eq, os (y1)
 refine k_pull H (by first | exact rk hr rfl | lia) R (by lia) (by lia) (by lia) fun σ₁ i i0 i1 R₁ K₁ => ?_
 exists true_and
 generalize decide (i ≠ 2) = hp
 refine w_lawD (e := { e with hasK := hp }) (n := n + 1) H hr hw ⟨X.R, X.G, X.M, ⟨C.c1, C.c2, C.w1, C.w2, C.a1, C.a2, C.k1, C.k2, C.l1, C.l2, C.q1, C.q2⟩, X.qd, X.e1, X.e2, X.e3, X.e4, X.e5, X.e6, X.e7, X.e8, X.e9⟩ k01 (k12.trans K₁) h1 game path
   (fun z => ⟨(tab z).1.keep K₁, (tab z).2.keep K₁⟩) R₁ (by lia) ?_ ?_ ?_ ?_ ?_ ?_ ?_ h
 all_goals exists y1, y2, y3, y4, y5, y6
theorem w_lawB (H : IsK W) (hr : 45 ≤ r) (hw : w.Ok) {s0 : AH} (X : Pre rl nb deep ns g w P s0 e) (hT : e.hasT = false) (ha : e.age = 0) (k01 : KeepR rl s0 σ)
   (game : Stg rl s0 σ e.game e.gd "TreeGame" (gameF e)) (path : Prt rl s0 σ e.game e.gd e.path (.list [.int 0]))
   (R : Reel σ rl nb ns n) (hn : n ≤ 200000) {m₀ : Loc} (y1 : m₀ "reel" = some (.ref rl)) (y2 : m₀ "world" = some (.ref g.wd)) (y3 : m₀ "deep" = some (.ref deep)) (y4 : m₀ "plies" = some (.int e.qd)) (y5 : m₀ "game" = some (.ref e.game))
   (h : ∀ σ', Q (.bool true) σ') :
   wpSs (CallSat W r) lawB m₀ σ (bodyQ Q) := by
 have C := X.C
 exists lawB_eq, os (y1)
 refine k_pull H (by first | exact rk hr rfl | lia) R (by lia) (by lia) (by lia) fun σ₁ i i0 i1 R₁ K₁ => ?_
 exists os (y1)
 refine ⟨fun z => ?_, fun z => ?_⟩
 · refine k_pull H (by first | exact rk hr rfl | lia) R₁ (by lia) (by lia) (by lia) fun σ₂ j j0 j1 R₂ K₂ => ?_
   exists os (y1)
   refine k_pull H (by first | exact rk hr rfl | lia) R₂ (by lia) (by lia) (by lia) fun σ₃ l l0 l1 R₃ K₃ => ?_
   exists true_and
   have K13 := K₁.trans (K₂.trans K₃)
   refine mk_tab H (by first | exact rk hr rfl | lia) (cl := 1 + j) (wy := 1 + l) (by lia) (by lia) (by lia) (by lia) fun τ x d p M p0 xp dp hp => ?_
   exists true_and
   refine w_lawC (e := { e with tab := x, td := d, slots := p, clus := 1 + j, wys := 1 + l, hasT := true, age := 0 }) (s1 := σ₃) (n := n + 1 + 1 + 1) H hr hw ⟨X.R, X.G, X.M, ⟨show 1 ≤ 1 + j by lia, show 1 + j ≤ 4 by lia, show 1 ≤ 1 + l by lia, show 1 + l ≤ 2 by lia, show (0 : Int) ≤ 0 by decide, show (0 : Int) < 64 by decide, C.k1, C.k2, C.l1, C.l2, C.q1, C.q2⟩, X.qd, X.e1, X.e2, X.e3, X.e4, X.e5, X.e6, X.e7, X.e8, X.e9⟩ (k01.trans K13) M.ext.keepR rfl (game.keep K13) (path.keep K13)
     (fun _ => ⟨M.stg R₃ .refl, M.prt R₃ .refl p0 xp dp hp⟩) (R₃.ext M.ext) (by lia) ?_ ?_ ?_ ?_ ?_ ?_ h
   all_goals exists y1, y2, y3, y4, y5
 · refine w_lawC (e := e) (s1 := σ₁) (n := n + 1) H hr hw X (k01.trans K₁) .refl rfl (game.keep K₁) (path.keep K₁) (fun z => by rw [hT] at z; cases z) R₁ (by lia) ?_ ?_ ?_ ?_ ?_ ?_ h
   any_goals (exists y1, y2, y3, y4, y5; done)
   rw [hT]
   exists true_and
end
section
variable {W : Wld} {r : Nat} {σ σ' : AH} {Q : V → AH → Prop}
theorem k_law (H : IsK W) (hr : 50 ≤ r) {sc : Addr} {xs : List Int} (hx : xs.length ≤ 63) (hs : σ sc = some (.flist (xs.map .int))) (h : ∀ σ' : AH, Q (.bool true) (σ'.set sc (.flist (xs.map .int)))) : CallSat W r (.fn "law") [.ref sc] σ Q := by
 refine call_up hr fun r hr => call_frame (ps := ["script"]) (a := sc) (l := xs.map .int) (law_eq ▸ fb_law H) rfl ?_
 exists a_slc, hs
 refine ⟨by rw [List.length_map]; unfold sizeOk; lia, fun nb hnb => ⟨by simp [str_eq], fun rl hrl => ⟨set_old (set_old hs hnb) hrl, ?_⟩⟩⟩
 have n1 : nb ≠ sc := fun z => by rw [z, hs] at hnb; cases hnb
 have n2 : rl ≠ sc := fun z => by rw [z, set_old hs hnb] at hrl; cases hrl
 rw [← List.map_take] at *
 have R : Reel (((σ.set nb (.list ((xs.take 60).map .int))).set rl (.dict (reelF nb 0 91))).del sc) rl nb (xs.take 60) 0 := ⟨0, 91, (AH.del_ne n2).trans set_at, by lia, by lia, by lia, by lia, (AH.del_ne n1).trans (set_old set_at hrl), by rw [List.length_take]; lia⟩
 rw [show ([("numbers", V.ref nb), ("at", V.int 0), ("seed", V.int 91)] : List (Str × V)) = reelF nb 0 91 from rfl] at *
 generalize ((σ.set nb (.list ((xs.take 60).map .int))).set rl (.dict (reelF nb 0 91))).del sc = σ₁ at *
 generalize xs.take 60 = ns at *
 refine k_world H (by first | exact rk hr rfl | lia) R (by lia) (by lia) fun σ₂ g w hw G R₂ K₂ => ?_
 have hw0 : 0 < w.n := by have := hw.lo; lia
 have hn7 := hw.hi
 exists true_and
 refine k_pull H (by first | exact rk hr rfl | lia) R₂ (by lia) (by lia) (by lia) fun σ₃ i i0 i1 R₃ K₃ => ?_
 obtain ⟨P, hP⟩ : ∃ P : Nat, i = P := ⟨i.toNat, by lia⟩
 subst hP
 have G₃ := G.keep K₃
 exists true_and
 have nD : ∀ {τ : AH} {m : Int}, Reel τ rl nb ns m → ∀ a, τ a = Option.none → ¬ a = rl := fun R a z => (KeepR.reel_ne (o := .list []) R z).1
 refine k_quiet_rows H (by first | exact rk hr rfl | lia) hw G₃ (nD R₃) (by lia) fun σ₄ qr E₄ Mq => ?_
 revert Mq; refine xE1 fun rf => aE2 fun q1 q2 => ?_
 exists r_lst q1 (show P < P + 1 by lia) (by lia)
 have R₄ := R₃.ext E₄
 have G₄ := G₃.keep (Ext.keepR E₄)
 refine k_deep_rows (k := 5) H (by first | exact rk hr rfl | lia) hw G₄ (nD R₄) (q2 P (by lia)) (by decide) fun σ₅ dp E₅ Md => ?_
 have R₅ := R₄.ext E₅
 have G₅ := G₄.keep (Ext.keepR E₅)
 exists os (G₅.wd.1), worldF
 refine mk_game H (by first | exact rk hr rfl | lia) fun τ x d p M p0 xp dp' hp => ?_
 exists true_and
 refine w_lawB (P := P) (w := w) (g := g) (s0 := σ₅) (n := 0 + 200 + 1) (e := { game := x, gd := d, path := p, ch := g.ch, va := g.va, ck := g.ck, dr := g.dr, no := g.no, ga := g.ga, ctx := 0, ctxd := 0, lines := 0, tab := 0, td := 0, slots := 0, kil := 0, kd := 0, first := 0, second := 0, his := 0, hd := 0, scores := 0, hasT := false, hasK := false, chR := g.chR, noR := g.noR, gaR := g.gaR, clus := 1, wys := 1, age := 0, kplies := 0, lim := 1, qd := P })
   H (by first | exact rk hr rfl | lia) hw ⟨⟨_, R₅⟩, G₅, Md, ⟨show (1 : Int) ≤ 1 by decide, show (1 : Int) ≤ 4 by decide, show (1 : Int) ≤ 1 by decide, show (1 : Int) ≤ 2 by decide, show (0 : Int) ≤ 0 by decide, show (0 : Int) < 64 by decide, show (0 : Int) ≤ 0 by decide, show (0 : Int) ≤ 6 by decide, show (1 : Int) ≤ 1 by decide, show (1 : Int) ≤ 90 by decide, show (0 : Int) ≤ P by lia, show (P : Int) ≤ 2 by lia⟩, rfl, rfl, rfl, rfl, rfl, rfl, rfl, rfl, rfl, rfl⟩ rfl rfl M.ext.keepR (M.stg R₅ .refl) (M.prt R₅ .refl p0 xp dp' hp) (R₅.ext M.ext) (by lia) ?_ ?_ ?_ ?_ ?_ h
 all_goals exists true_and
end
namespace Hd
noncomputable def qv : Program := { pw with main := { pw.main with body := [st 83] } }
noncomputable def kOf (h : Heap) : Frag := ka.filterMap fun a => (h.get? a).map (a,·)
theorem kOf_in (h : Heap) : (kOf h).In h := by
 unfold kOf
 intro a o
 generalize ka = l
 induction l with
 | nil => intro e; cases e
 | cons b l ih =>
   intro e
   rw [List.filterMap_cons] at e
   cases hb : h.get? b with
   | none => rw [hb] at e; exact ih e
   | some x =>
     rw [hb] at e
     change List.lookup a ((b,x) :: _) = some o at e
     rw [List.lookup_cons] at e
     by_cases c : a = b
     · subst c; rw [beq_self_eq_true] at e; cases e; exact hb
     · rw [beq_eq_false_iff_ne.mpr c] at e; exact ih e
noncomputable def noL (K : Frag) : Bool := (K.all fun p => match p.2.cls with | .type t => t != "list" | _ => true) && [0,1,2,3].all fun a => (K.lookup a).isSome
noncomputable def Yf (s : Shared) : (List (Option PSs) × Bool) × Bool := (stOk (kOf s.heap),noL (kOf s.heap))
noncomputable def Ya (_ : World) : (List (Option PSs) × Bool) × Bool := (stWant,true)
noncomputable def YP (_ : World) (h : Heap) : Prop := ∃ K : Frag,K.In h ∧ stOk K = stWant ∧ noL K = true
theorem hY (w : World) (s : Shared) (e : Yf s = Ya w) : YP w s.heap := ⟨kOf s.heap,kOf_in _,congrArg Prod.fst e,congrArg Prod.snd e⟩
theorem hYk (w : World) (h h' : Heap) (y : YP w h) (k : ∀ b o,h.get? b = some o → h'.get? b = some o) : YP w h' := let ⟨K,a,b⟩ := y; ⟨K,a.keeps k,b⟩
noncomputable def Xt (s : Shared) : Bool := xlAt qv [] s && recOk (RowW.records rw'.row.toRowW) s
theorem open_ : ∀ w : World,(fencedOpening treeTable pw w 9862).map (fun s => (s.heap,s.gens,s.drawn,s.toks)) = some (boot_heap w.params,.mk [],boot_drawn,boot_toks) :=
 boot_open (by kernel_rfl) (by kernel_rfl) (fun s => by kernel_rfl)
theorem size : ∀ w : World,((boot_heap w.params).isNs mainGlobals && (Array.mk ([] : List GenState)).size == 0,(boot_heap w.params).objs.size,(boot_heap w.params).nsMap mainGlobals "__annotations__") = (true,11,ann) := fun w => by kernel_rfl
theorem lk1 (w : World) (os : OsState) : (staticsOk (importedModules pw.main.body) (boot_heap w.params) (Hf w.params) && namesBound pw (Hf w.params) && gensDone (Sf w os) && laidKept (boot_heap w.params) (Hf w.params)) = true := by kernel_rfl
theorem lk3 (w : World) (os : OsState) : stOk (kOf (Sf w os).heap) = stWant := by kernel_rfl
theorem lk4 (w : World) (os : OsState) : noL (kOf (Sf w os).heap) = true := by kernel_rfl
theorem lk2 (w : World) (os : OsState) : openSeen qv lo (importedModules pw.main.body) Xt true (Sf w os) = openGood qv lo := by kernel_rfl
end Hd
namespace Hd
theorem ints_vr {h : Heap} : ∀ {vs : List Value} {xs : List Int}, IntsAre vs xs → VRs h (xs.map .int) vs
 | _, _, .nil => .nil
 | _, _, .cons n t r => .cons (.int n t) (ints_vr r)
theorem mem_lk {a : Addr} {o : Obj} : ∀ {K : Frag}, K.lookup a = some o → (a, o) ∈ K
 | (b, x) :: K, e => by
   rw [List.lookup_cons] at e
   by_cases c : a = b
   · subst c; rw [beq_self_eq_true] at e; cases e; exact .head _
   · rw [beq_eq_false_iff_ne.mpr c] at e; exact .tail _ (mem_lk e)
theorem law_runs {w : World} {s₁ : Shared} {mg mb : Str → Option Value} {q : Program} {loose : List Str} {mean : ExcName → Option Value} (T : Top q loose mean mg mb s₁.heap) (Y : YP w s₁.heap) {a : Addr} (hmg : mg "law" = some (.ref a))
   (hg : s₁.gens = #[]) {xs : List Int} {sc : Addr} {vs : List Value} (hL : s₁.heap.IsList sc vs.toArray) (hI : IntsAre vs xs) (hlen : xs.length ≤ 63) :
   codeAny (model pw w) callerA (.call (.ref a) ⟨[.ref sc], []⟩) (fun res s' => res = .ok (.ret (.bool true)) ∧ (∀ b o, s₁.heap.get? b = some o → s'.heap.get? b = some o) ∧ s'.os = s₁.os ∧ s'.gens = #[]) s₁ := by
 obtain ⟨K, X, H, hn⟩ := Y
 obtain ⟨ob, hob, hcls, n, hdat⟩ := hL
 obtain ⟨nl, h4⟩ := Bool.and_eq_true_iff.mp hn
 rw [List.all_eq_true] at nl h4
 have neq : ∀ b o, K.lookup b = some o → b ≠ sc := fun b o e z => by
   have e1 := X b o e
   rw [z, hob] at e1
   cases e1
   have := nl (b, ob) (mem_lk e)
   dsimp only at this
   rw [hcls] at this
   exact absurd this (by decide)
 have four : ∀ b, b ∈ [0, 1, 2, 3] → b ≠ sc ∧ ∃ o, s₁.heap.get? b = some o := fun b hb => by
   obtain ⟨o, e⟩ := Option.isSome_iff_exists.mp (h4 b hb)
   exact ⟨neq b o e, o, X b o e⟩
 have sz : s₁.heap.objs[sc]? = some ob := (Heap.get?_some_iff.mp hob).1
 have get_ne : ∀ b, b ≠ sc → (s₁.heap.update sc fun o => { o with data := .freed }).get? b = s₁.heap.get? b := fun b hb => Heap.get?_update_other _ _ (Ne.symm hb)
 have get_sc : (s₁.heap.update sc fun o => { o with data := .freed }).get? sc = Option.none := by
   obtain ⟨⟨objs, lf⟩, g, d, t, os⟩ := s₁
   simp only [Heap.update, Heap.get?, Array.getElem?_modify, if_true]
   change objs[sc]? = some ob at sz
   rw [sz]; rfl
 generalize (s₁.heap.update sc fun o => { o with data := .freed }) = hb at *
 have base : ∀ b o, hb.get? b = some o → s₁.heap.get? b = some o := fun b o e => by
   rw [← get_ne b (fun z => by rw [z, get_sc] at e; cases e)]; exact e
 have ns : ∀ {b m}, b ∈ [0, 1, 2, 3] → s₁.heap.Ns b m → hb.Ns b m := fun hb' ⟨o, es, ep, e, r⟩ => ⟨o, es, ep, (get_ne _ (four _ hb').1).trans e, r⟩
 have XB : K.In hb := fun b o e => (get_ne b (neq b o e)).trans (X b o e)
 have GB : hb.Ns mainGlobals mg := ns (b := mainGlobals) (by decide) T.g
 have NL : hb.NoLimit := by
   obtain ⟨mc, a, b⟩ := T.nolimit
   exact ⟨mc, ns (b := cStatics) (by decide) a, b⟩
 have SM : ∃ o, hb.get? sysModules = some o := by
   obtain ⟨h1, o, e⟩ := four sysModules (by decide)
   exact ⟨o, (get_ne _ h1).trans e⟩
 let W : Wld := ⟨pw, w, K, hb, mg, mb, s₁.os, some (sc, ob), XB, GB, ns (b := builtinsNs) (by decide) T.b, T.builtins, NL, SM, st_con H, st_bis H, att_of (st_parts H).1, met_of (st_parts H).2.1, fns_of (st_parts H).2.2.1⟩
 have HK : IsK W := H
 have ha : gad K "law" = a := by
   obtain ⟨oc, od, osl, fd, stm, hk, _⟩ := fb_law HK
   change K.lookup (gad K "law") = _ at hk
   have bad : gad K "law" = 0 → False := fun z => by
     obtain ⟨o2, es, ep, e0, d0, _⟩ := T.b
     rw [z] at hk
     have e1 := X _ _ hk
     change s₁.heap.get? 0 = _ at e0
     rw [e1] at e0; cases e0; cases d0
   cases e : nsIn K mainGlobals "law" with
   | none => exact (bad (by unfold gad; rw [e])).elim
   | some v => cases v with
     | none => exact (bad (by unfold gad; rw [e])).elim
     | some v => cases v with
       | ref b =>
         have q := mg_of X T.g e
         rw [hmg] at q; cases q
         unfold gad; rw [e]
       | _ => exact (bad (by unfold gad; rw [e])).elim
 have Rp : Rep W (fun b => if b = sc then some (.flist (xs.map .int)) else Option.none) s₁ := by
   refine ⟨base, fun b o e => ?_, fun b o e => ?_, hg, rfl⟩
   · by_cases z : b = sc
     · rw [z]; exact get_sc
     · rw [if_neg z] at e; cases e
   · by_cases z : b = sc
     · rw [if_pos z] at e; cases e; rw [z]
       exact ⟨ob, _, n, rfl, hob, hcls, hdat, ints_vr hI⟩
     · rw [if_neg z] at e; cases e
 have R : Room callerA 50 30 := ⟨rfl, by decide, by decide⟩
 have k := k_law (W := W) (r := 50) (σ := fun b => if b = sc then some (.flist (xs.map .int)) else Option.none) (Q := fun v σ' => v = .bool true ∧ σ' sc = some (.flist (xs.map .int))) HK (Nat.le_refl _) hlen (if_pos rfl) (fun σ' => ⟨rfl, set_at⟩) callerA s₁ [.ref sc] R Rp (.cons (.ref sc) .nil)
 have ea : CF.addr W.K (.fn "law") = a := ha
 rw [ea] at k
 refine codeAny_mono k fun res s' z => ?_
 obtain ⟨v, u, σ', rfl, hv, R', S, hu, hs⟩ := z
 subst hu
 obtain rfl := hv.bool_inv
 refine ⟨rfl, fun b o e => ?_, R'.os, R'.gens⟩
 by_cases z : b = sc
 · obtain ⟨o', items, n', f, g, _⟩ := R'.objs sc _ hs
   cases f
   rw [z] at e ⊢
   rw [hob] at e; cases e
   exact g
 · exact (S.hid b o e (if_neg z)).1
noncomputable def lp : DefRec × List (Str × Expr) := match defOf qv "law" with
 | some x => x
 | none => (⟨"law", ⟨[], [], none, [], [], none, []⟩, [], ⟨.function, [], false, false, []⟩, ⟨0, 0, 0, 0⟩⟩, [])
theorem walk : WalkO qv lo (XL qv []) YP rw'.row.toRowW lp.1 lp.2 (fun f vs => PySem.call f vs) := by
 intro w s₀ s₁ mg mb G Y a o pm cd doc dV kV ho hd hcd hD hmg hg args vals as hpre hlay hrd hwl hlo
 have T := G.T
 clear ho hd hcd hD G
 have hmg : mg "law" = some (.ref a) := hmg
 wrow_args hpre hlay hrd hwl hlo
 refine enter_call (codeAny_mono (law_runs T Y hmg hg ‹_› ‹IntsAre _ _› (by omega)) fun res s' z => ?_)
 obtain ⟨rfl, z1, z2, z3⟩ := z
 refine GoodW.toG ⟨.inl ⟨_, .bool true, [], rfl, fun _ => rfl, .bool true, by wrow_post, fun _ => ⟨List.nodup_nil, fun _ h => nomatch h⟩⟩, z1, z2, z3⟩
noncomputable abbrev NN : Nat := 9862
theorem looks (w : World) : (fun os => ((staticsOk (importedModules pw.main.body) (boot_heap w.params) (Hf w.params) && namesBound pw (Hf w.params) && gensDone (Sf w os) && laidKept (boot_heap w.params) (Hf w.params)),
   openSeen qv lo (importedModules pw.main.body) Xt true (Sf w os), Yf (Sf w os))) = fun _ => (true, openGood qv lo, Ya w) :=
 funext fun os => looks_pair (lk1 w os) (looks_pair (lk2 w os) (looks_pair (lk3 w os) (lk4 w os)))
theorem left : LeftO pw qv lo Xt Yf Ya 9862 := LeftO.of_pieces (m₀ := 11) (ann := ann) open_ size run (by decide) looks
theorem hdef : defOf qv rw'.row.name = some lp := by kernel_rfl
theorem hp : rw'.row.prog.theDef rw'.row.name = some (lp.1.params, lp.1.body, lp.1.scope) := by kernel_rfl
theorem hk : kwWritten? lp.1.params.kwonlyargs lp.1.params.kw_defaults = some lp.2 := by kernel_rfl
theorem ok : (chainsOk qv && opensWell rw'.row.prog && (frees rw'.row.toRowW && rw'.row.within.isEmpty)) = true := by kernel_rfl
theorem bare : rw'.row.prog.bare := ⟨rfl, rfl, rfl, rfl, rfl, by decide +kernel⟩
theorem wit : rw'.row.toRowW.promised := ⟨[.list []], by decide +kernel, by decide +kernel⟩
theorem fin : rw'.Holds := holds_law said fun s => holds_open (q := qv) (loose := lo) (Xt := Xt) (XP := XL qv []) (Yf := Yf) (Ya := Ya) (YP := YP) (N := 9862) left hY hYk
 (fun s e => xl_of s (Bool.and_eq_true_iff.mp e).1) XL.keeps hdef hp hk (fun s e => recFacts_of (Bool.and_eq_true_iff.mp e).2) rfl s ok bare wit walk
end Hd
end Mine
theorem PySem.Challenge.cw_pb0078_01_holds : PySem.Challenge.rw_pb0078_01.Holds :=
 Mine.Hd.fin
